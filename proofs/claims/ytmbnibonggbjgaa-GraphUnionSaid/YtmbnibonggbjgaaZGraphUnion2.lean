/- A part of the proof that the law GraphUnion returns true at every input: contracts of the functions that it calls, and lemmas. -/
import Derived.Test.YtmbnibonggbjgaaZGraphUnion1
namespace Go.Proofs.Ytmbnibonggbjgaa.X
open Go.RowKit Go.Proofs.YtmbnibonggbjgaaW.PrintWords Go.Proofs.YtmbnibonggbjgaaW.PrintLast Go.Proofs.YtmbnibonggbjgaaW.PrintMore
open Go.Proofs.YtmbnibonggbjgaaW.PrintWords renaming blk_drewN → bN, blk_drew → bD, blk_alloc → bA, below_alloc → wA, pw_below_drewN → wN, below_drew1 → wD, blk_below → bB, below_step → wS, blk_at → bT, blk_grown → bG
open Go.Proofs.YtmbnibonggbjgaaW.PrintWords.Kd renaming R_alloc → rA, R_drewN → rN, R_drew → rD, R_below → rB, R_grown → rG, C_below → cB, C_alloc → cA, C_drewN → cN, C_drew → cD
attribute [local go_sem] max2_int min2_int max_two min_two max_three min_three max_four min_four
set_option linter.unusedVariables false
set_option linter.unusedSimpArgs false
/-! ### graph_Remove: function 12 -/
mutual
def graph_Remove.l0 : Nat → List Int → Int → Int → List Int → List (S38) → List Int → List Int → List Int → Option (List Int × (List (S38)) × List Int × List Int × Int)
 | 0, _, _, _, _, _, _, _, _ => none
 | k + 1, x58, x59, x60, x102000, x102001, x114000, x114001, x115000 => if x60 < x59 then (if 0 ≤ x60 then (if x60 < (x58.length : Int) then (if x60 < (x114000.length : Int) then (if (rd x114000 x60) ≥ 0 then (if x115000.length < 17592186044416 then (graph_Remove.l0 k x58 x59 (wrap64 (x60 + 1)) x102000 x102001 x114000 x114001 (x115000 ++ [rd x58 x60])) else (none)) else (graph_Remove.l0 k x58 x59 (wrap64 (x60 + 1)) x102000 x102001 x114000 x114001 x115000)) else (none)) else (none)) else (none)) else (graph_Remove.l1 k x102001 (x102001.length : Int) 0 x114000 x114001 x115000 ([] : List (S38)))
def graph_Remove.l1 : Nat → List (S38) → Int → Int → List Int → List Int → List Int → List (S38) → Option (List Int × (List (S38)) × List Int × List Int × Int)
 | 0, _, _, _, _, _, _, _ => none
 | k + 1, x79, x80, x81, x114000, x114001, x115000, x115001 => if x81 < x80 then (if 0 ≤ x81 then (if x81 < (x79.length : Int) then (if x81 < (x114001.length : Int) then (if (rd x114001 x81) < 0 then (graph_Remove.l1 k x79 x80 (wrap64 (x81 + 1)) x114000 x114001 x115000 x115001) else (if 0 ≤ ((rd_T38 x79 x81).f1) then (if ((rd_T38 x79 x81).f1) < (x114000.length : Int) then (if 0 ≤ ((rd_T38 x79 x81).f2) then (if ((rd_T38 x79 x81).f2) < (x114000.length : Int) then (if (rd x114000 ((rd_T38 x79 x81).f1)) < 0 then (graph_Remove.j2 k x79 x80 x81 true x114000 x114001 x115000 x115001 ((rd_T38 x79 x81).f0) (rd x114000 ((rd_T38 x79 x81).f1)) (rd x114000 ((rd_T38 x79 x81).f2))) else (graph_Remove.j2 k x79 x80 x81 (decide ((rd x114000 ((rd_T38 x79 x81).f2)) < 0)) x114000 x114001 x115000 x115001 ((rd_T38 x79 x81).f0) (rd x114000 ((rd_T38 x79 x81).f1)) (rd x114000 ((rd_T38 x79 x81).f2)))) else (none)) else (none)) else (none)) else (none))) else (none)) else (none)) else (none)) else (some (x115000, x115001, x114000, x114001, 0))
def graph_Remove.j2 : Nat → List (S38) → Int → Int → Bool → List Int → List Int → List Int → List (S38) → Int → Int → Int → Option (List Int × (List (S38)) × List Int × List Int × Int)
 | 0, _, _, _, _, _, _, _, _, _, _, _ => none
 | k + 1, x79, x80, x81, x114, x114000, x114001, x115000, x115001, x126000, x126001, x126002 => if x114 = true then (some (([] : List Int), ([] : List (S38)), ([] : List Int), ([] : List Int), 14)) else (if x115001.length < 5864062014805 then (graph_Remove.l1 k x79 x80 (wrap64 (x81 + 1)) x114000 x114001 x115000 (x115001 ++ [(⟨x126000, x126001, x126002⟩ : S38)])) else (none))
end
def graph_Remove.f (k : Nat) (l0_0 : List Int) (l0_1 : List (S38)) (l1 : List Int) (l2 : List Int) : Option (List Int × (List (S38)) × List Int × List Int × Int) := (graph_Valid.f l0_0 l0_1).bind fun t104 => (if t104 = 0 then ((graph_ascending.f k l1 (l0_0.length : Int)).bind fun t105 => (if t105 = 0 then ((graph_ascending.f k l2 (l0_1.length : Int)).bind fun t106 => (if t106 = 0 then ((graph_left.f k (l0_0.length : Int) l1).bind fun t107 => ((graph_left.f k (l0_1.length : Int) l2).bind fun t110 => (graph_Remove.l0 k l0_0 (l0_0.length : Int) 0 l0_0 l0_1 t107 t110 ([] : List Int)))) else (some (([] : List Int), ([] : List (S38)), ([] : List Int), ([] : List Int), t106)))) else (some (([] : List Int), ([] : List (S38)), ([] : List Int), ([] : List Int), t105)))) else (some (([] : List Int), ([] : List (S38)), ([] : List Int), ([] : List Int), t104)))
theorem graph_Remove.mono_l : ∀ k, (∀ y0 y1 y2 y3 y4 y5 y6 y7, LeO (graph_Remove.l0 k y0 y1 y2 y3 y4 y5 y6 y7) (graph_Remove.l0 (k + 1) y0 y1 y2 y3 y4 y5 y6 y7)) ∧ (∀ y0 y1 y2 y3 y4 y5 y6, LeO (graph_Remove.l1 k y0 y1 y2 y3 y4 y5 y6) (graph_Remove.l1 (k + 1) y0 y1 y2 y3 y4 y5 y6)) ∧ (∀ y0 y1 y2 y3 y4 y5 y6 y7 y8 y9 y10, LeO (graph_Remove.j2 k y0 y1 y2 y3 y4 y5 y6 y7 y8 y9 y10) (graph_Remove.j2 (k + 1) y0 y1 y2 y3 y4 y5 y6 y7 y8 y9 y10))
 | 0 => ⟨fun _ _ _ _ _ _ _ _ r h => by simp [graph_Remove.l0] at h, fun _ _ _ _ _ _ _ r h => by simp [graph_Remove.l1] at h, fun _ _ _ _ _ _ _ _ _ _ _ r h => by simp [graph_Remove.j2] at h⟩
 | k + 1 => by
  obtain ⟨ih0, ih1, ih2⟩ := graph_Remove.mono_l k
  refine ⟨?_, ?_, ?_⟩
  ·intro y0 y1 y2 y3 y4 y5 y6 y7
   unfold graph_Remove.l0
   repeat' first
   | (with_reducible exact ih0 _ _ _ _ _ _ _ _)
   | (with_reducible exact ih1 _ _ _ _ _ _ _)
   | (with_reducible exact ih2 _ _ _ _ _ _ _ _ _ _ _)
   | (with_reducible exact graph_ascending.mono _ _ _)
   | (with_reducible exact graph_left.mono _ _ _)
   | (with_reducible exact LeO.refl _)
   | (with_reducible exact LeO.none _)
   | (with_reducible refine LeO.ite ?_ ?_)
   | (with_reducible refine LeO.bind ?_ (fun _ => ?_))
   | exact ih0 _ _ _ _ _ _ _ _
   | exact ih1 _ _ _ _ _ _ _
   | exact ih2 _ _ _ _ _ _ _ _ _ _ _
   | exact graph_ascending.mono _ _ _
   | exact graph_left.mono _ _ _
   | exact LeO.none _
   | refine LeO.ite ?_ ?_
   | refine LeO.bind ?_ (fun _ => ?_)
  ·intro y0 y1 y2 y3 y4 y5 y6
   unfold graph_Remove.l1
   repeat' first
   | (with_reducible exact ih0 _ _ _ _ _ _ _ _)
   | (with_reducible exact ih1 _ _ _ _ _ _ _)
   | (with_reducible exact ih2 _ _ _ _ _ _ _ _ _ _ _)
   | (with_reducible exact graph_ascending.mono _ _ _)
   | (with_reducible exact graph_left.mono _ _ _)
   | (with_reducible exact LeO.refl _)
   | (with_reducible exact LeO.none _)
   | (with_reducible refine LeO.ite ?_ ?_)
   | (with_reducible refine LeO.bind ?_ (fun _ => ?_))
   | exact ih0 _ _ _ _ _ _ _ _
   | exact ih1 _ _ _ _ _ _ _
   | exact ih2 _ _ _ _ _ _ _ _ _ _ _
   | exact graph_ascending.mono _ _ _
   | exact graph_left.mono _ _ _
   | exact LeO.none _
   | refine LeO.ite ?_ ?_
   | refine LeO.bind ?_ (fun _ => ?_)
  ·intro y0 y1 y2 y3 y4 y5 y6 y7 y8 y9 y10
   unfold graph_Remove.j2
   repeat' first
   | (with_reducible exact ih0 _ _ _ _ _ _ _ _)
   | (with_reducible exact ih1 _ _ _ _ _ _ _)
   | (with_reducible exact ih2 _ _ _ _ _ _ _ _ _ _ _)
   | (with_reducible exact graph_ascending.mono _ _ _)
   | (with_reducible exact graph_left.mono _ _ _)
   | (with_reducible exact LeO.refl _)
   | (with_reducible exact LeO.none _)
   | (with_reducible refine LeO.ite ?_ ?_)
   | (with_reducible refine LeO.bind ?_ (fun _ => ?_))
   | exact ih0 _ _ _ _ _ _ _ _
   | exact ih1 _ _ _ _ _ _ _
   | exact ih2 _ _ _ _ _ _ _ _ _ _ _
   | exact graph_ascending.mono _ _ _
   | exact graph_left.mono _ _ _
   | exact LeO.none _
   | refine LeO.ite ?_ ?_
   | refine LeO.bind ?_ (fun _ => ?_)
theorem graph_Remove.mono : ∀ a0 a1 a2 a3 k, LeO (graph_Remove.f k a0 a1 a2 a3) (graph_Remove.f (k + 1) a0 a1 a2 a3) := by
 intro a0 a1 a2 a3 k
 obtain ⟨ih0, ih1, ih2⟩ := graph_Remove.mono_l k
 unfold graph_Remove.f
 repeat' first
   | (with_reducible exact ih0 _ _ _ _ _ _ _ _)
   | (with_reducible exact ih1 _ _ _ _ _ _ _)
   | (with_reducible exact ih2 _ _ _ _ _ _ _ _ _ _ _)
   | (with_reducible exact graph_ascending.mono _ _ _)
   | (with_reducible exact graph_left.mono _ _ _)
   | (with_reducible exact LeO.refl _)
   | (with_reducible exact LeO.none _)
   | (with_reducible refine LeO.ite ?_ ?_)
   | (with_reducible refine LeO.bind ?_ (fun _ => ?_))
   | exact ih0 _ _ _ _ _ _ _ _
   | exact ih1 _ _ _ _ _ _ _
   | exact ih2 _ _ _ _ _ _ _ _ _ _ _
   | exact graph_ascending.mono _ _ _
   | exact graph_left.mono _ _ _
   | exact LeO.none _
   | refine LeO.ite ?_ ?_
   | refine LeO.bind ?_ (fun _ => ?_)
def graph_Remove.T10 : Bool × List (List Nat × List Nat) := (true, [([], []), ([0], [0]), ([1], [1]), ([], []), ([2, 3], [2, 3]), ([], []), ([5], [5]), ([6], [6]), ([], []), ([7, 8, 4], [7, 8]), ([4, 9], [4, 9]), ([], []), ([11, 10, 9, 0, 1, 2, 3, 4, 5, 6, 7, 8, 9, 10, 11], [10, 11])])
def graph_Remove.B10 : List Nat := [0, 1, 3, 0, 15, 0, 32, 96, 0, 511, 1023, 0, 4095]
theorem graph_Remove.tab10 : rtab .any (opsOf Try.f12 10) = graph_Remove.T10 := by kernel_rfl
theorem graph_Remove.bits10 : waitsOk graph_Remove.T10.2 graph_Remove.B10 = true := by kernel_rfl
def graph_Remove.T22 : Bool × List (List Nat × List Nat) := (true, [([], []), ([0], [0]), ([], []), ([2], [2]), ([], []), ([4], [4]), ([3, 5], [3, 5]), ([6], [6]), ([], []), ([8], [8]), ([], []), ([10], [10]), ([9, 11], [9, 11]), ([12], [12]), ([1, 7, 13], [1, 7, 13]), ([], []), ([15, 14, 0, 1, 2, 3, 4, 5, 6, 7, 8, 9, 10, 11, 12, 13, 14, 15], [14, 15])])
def graph_Remove.B22 : List Nat := [0, 1, 0, 4, 0, 16, 60, 124, 0, 256, 0, 1024, 3840, 7936, 16383, 0, 65535]
theorem graph_Remove.tab22 : rtab .any (opsOf Try.f12 22) = graph_Remove.T22 := by kernel_rfl
theorem graph_Remove.bits22 : waitsOk graph_Remove.T22.2 graph_Remove.B22 = true := by kernel_rfl
set_option maxHeartbeats 8000000 in
set_option maxRecDepth 100000 in
theorem graph_Remove.calls (k : Nat) (A0_0 : Option Addr) (c0_0 : Nat) (l0_0 : List Int) (A0_1 : Option Addr) (c0_1 : Nat) (l0_1 : List (S38)) (A1 : Option Addr) (c1 : Nat) (l1 : List Int) (A2 : Option Addr) (c2 : Nat) (l2 : List Int) (r1 : List Int) (r2 : List (S38)) (r3 : List Int) (r4 : List Int) (r5 : Int) (w : World) (hr0_0 : Kd.C (Kd.int .i64) w A0_0 l0_0.length l0_0) (hc0_0 : l0_0.length ≤ c0_0) (hr0_1 : Kd.C k38 w A0_1 l0_1.length l0_1) (hc0_1 : l0_1.length ≤ c0_1) (hr1 : Kd.C (Kd.int .i64) w A1 l1.length l1) (hc1 : l1.length ≤ c1) (hr2 : Kd.C (Kd.int .i64) w A2 l2.length l2) (hc2 : l2.length ≤ c2) (h : graph_Remove.f k l0_0 l0_1 l1 l2 = some (r1, r2, r3, r4, r5)) :
  Calls Try.prog 12 #[.agg #[.slice A0_0 l0_0.length c0_0, .slice A0_1 l0_1.length c0_1], .slice A1 l1.length c1, .slice A2 l2.length c2] w fun e w' => ∃ v0_ v1_ v2_ v3_ : Value, e = .returned (.tuple #[.agg #[v0_, v1_], .agg #[v2_, v3_], .int .i64 r5]) ∧ Kd.R (Kd.int .i64) 3 w' w.heap.size (fun k_ => some k_ ≠ (v2_ : Value).ownBlock ∧ some k_ ≠ (v3_ : Value).ownBlock) v0_ r1 ∧ Kd.R k38 38 w' w.heap.size (fun _ => True) v1_ r2 ∧ Kd.R (Kd.int .i64) 3 w' w.heap.size (fun k_ => some k_ ≠ (v0_ : Value).ownBlock ∧ some k_ ≠ (v3_ : Value).ownBlock) v2_ r3 ∧ Kd.R (Kd.int .i64) 3 w' w.heap.size (fun k_ => some k_ ≠ (v0_ : Value).ownBlock ∧ some k_ ≠ (v2_ : Value).ownBlock) v3_ r4 ∧ Below w.heap.size w w' := by
 have hu25 := Try.underlying25
 have hu29 := Try.underlying29
 have hu38 := Try.underlying38
 have HR0_0 := Aside0.mk hr0_0
 have HC0_0 := Aside0.mk hc0_0
 clear hr0_0 hc0_0
 have HR0_1 := Aside0.mk hr0_1
 have HC0_1 := Aside0.mk hc0_1
 clear hr0_1 hc0_1
 have HR1 := Aside0.mk hr1
 have HC1 := Aside0.mk hc1
 clear hr1 hc1
 have HR2 := Aside0.mk hr2
 have HC2 := Aside0.mk hc2
 clear hr2 hc2
 have HB := Aside0.mk (Below.refl w.heap.size w)
 have H : ((graph_Valid.f l0_0 l0_1).bind fun t104 => (if t104 = 0 then ((graph_ascending.f k l1 (l0_0.length : Int)).bind fun t105 => (if t105 = 0 then ((graph_ascending.f k l2 (l0_1.length : Int)).bind fun t106 => (if t106 = 0 then ((graph_left.f k (l0_0.length : Int) l1).bind fun t107 => ((graph_left.f k (l0_1.length : Int) l2).bind fun t110 => (graph_Remove.l0 k l0_0 (l0_0.length : Int) 0 l0_0 l0_1 t107 t110 ([] : List Int)))) else (some (([] : List Int), ([] : List (S38)), ([] : List Int), ([] : List Int), t106)))) else (some (([] : List Int), ([] : List (S38)), ([] : List Int), ([] : List Int), t105)))) else (some (([] : List Int), ([] : List (S38)), ([] : List Int), ([] : List Int), t104)))) = some (r1, r2, r3, r4, r5) := h
 clear h
 replace H := Option.bind_eq_some_iff.mp H
 obtain ⟨t104, A40, H⟩ := H
 replace H : (if t104 = 0 then ((graph_ascending.f k l1 (l0_0.length : Int)).bind fun t105 => (if t105 = 0 then ((graph_ascending.f k l2 (l0_1.length : Int)).bind fun t106 => (if t106 = 0 then ((graph_left.f k (l0_0.length : Int) l1).bind fun t107 => ((graph_left.f k (l0_1.length : Int) l2).bind fun t110 => (graph_Remove.l0 k l0_0 (l0_0.length : Int) 0 l0_0 l0_1 t107 t110 ([] : List Int)))) else (some (([] : List Int), ([] : List (S38)), ([] : List Int), ([] : List Int), t106)))) else (some (([] : List Int), ([] : List (S38)), ([] : List Int), ([] : List Int), t105)))) else (some (([] : List Int), ([] : List (S38)), ([] : List Int), ([] : List Int), t104))) = some (r1, r2, r3, r4, r5) := H
 have A4 := Aside0.mk A40
 clear A40
 by_cases c5 : t104 = 0
 ·rw [if_pos c5] at H
  have c5b0 : (t104 == 0) = true := beq_iff_eq.mpr c5
  have c5b1 : (t104 != 0) = false := bne_eq_false_iff_eq.mpr c5
  clear c5
  replace H := Option.bind_eq_some_iff.mp H
  obtain ⟨t105, A60, H⟩ := H
  replace H : (if t105 = 0 then ((graph_ascending.f k l2 (l0_1.length : Int)).bind fun t106 => (if t106 = 0 then ((graph_left.f k (l0_0.length : Int) l1).bind fun t107 => ((graph_left.f k (l0_1.length : Int) l2).bind fun t110 => (graph_Remove.l0 k l0_0 (l0_0.length : Int) 0 l0_0 l0_1 t107 t110 ([] : List Int)))) else (some (([] : List Int), ([] : List (S38)), ([] : List Int), ([] : List Int), t106)))) else (some (([] : List Int), ([] : List (S38)), ([] : List Int), ([] : List Int), t105))) = some (r1, r2, r3, r4, r5) := H
  have A6 := Aside0.mk A60
  clear A60
  by_cases c7 : t105 = 0
  ·rw [if_pos c7] at H
   have c7b0 : (t105 == 0) = true := beq_iff_eq.mpr c7
   have c7b1 : (t105 != 0) = false := bne_eq_false_iff_eq.mpr c7
   clear c7
   replace H := Option.bind_eq_some_iff.mp H
   obtain ⟨t106, A80, H⟩ := H
   replace H : (if t106 = 0 then ((graph_left.f k (l0_0.length : Int) l1).bind fun t107 => ((graph_left.f k (l0_1.length : Int) l2).bind fun t110 => (graph_Remove.l0 k l0_0 (l0_0.length : Int) 0 l0_0 l0_1 t107 t110 ([] : List Int)))) else (some (([] : List Int), ([] : List (S38)), ([] : List Int), ([] : List Int), t106))) = some (r1, r2, r3, r4, r5) := H
   have A8 := Aside0.mk A80
   clear A80
   by_cases c9 : t106 = 0
   ·rw [if_pos c9] at H
    have c9b0 : (t106 == 0) = true := beq_iff_eq.mpr c9
    have c9b1 : (t106 != 0) = false := bne_eq_false_iff_eq.mpr c9
    clear c9
    replace H := Option.bind_eq_some_iff.mp H
    obtain ⟨t107, A100, H⟩ := H
    replace H : ((graph_left.f k (l0_1.length : Int) l2).bind fun t110 => (graph_Remove.l0 k l0_0 (l0_0.length : Int) 0 l0_0 l0_1 t107 t110 ([] : List Int))) = some (r1, r2, r3, r4, r5) := H
    have A10 := Aside0.mk A100
    clear A100
    replace H := Option.bind_eq_some_iff.mp H
    obtain ⟨t110, A110, H⟩ := H
    replace H : (graph_Remove.l0 k l0_0 (l0_0.length : Int) 0 l0_0 l0_1 t107 t110 ([] : List Int)) = some (r1, r2, r3, r4, r5) := H
    have A11 := Aside0.mk A110
    clear A110
    have H' := Aside0.mk H
    clear H
    go_enter Try.func12, Try.ntmps12
    try go_wp2_with (first | ((with_reducible refine gate_dst (N := 3) rfl ?_); refine box_event ?hg (N := 3) ?hd (cs := #[.slice A0_0 l0_0.length c0_0, .slice A0_1 l0_1.length c0_1]) (t := 25) ?hr ?_; (case hd => rfl); (case hg => rfl); (case hr => first | (go_simp; done) | (go_simp; rfl)); intro Q07 hg w12 hbox hb; have Q00 := Aside0.mk (hbox); have Q29 := Aside0.mk ((by rw [hg]; exact (below_size hB) : w.heap.size ≤ Q07)); have Q1d := Aside0.mk ((by rw [hg]; exact (below_size hB) : w.heap.size ≤ Q07)); replace HB := uH HB hb; clear hb hbox hg) | ((with_reducible refine gate_dst (N := 6) rfl ?_); refine box_event ?hg (N := 6) ?hd (cs := #[.slice none 0 0, .slice none 0 0]) (t := 25) ?hr ?_; (case hd => rfl); (case hg => rfl); (case hr => first | (go_simp; done) | (go_simp; rfl)); intro Q0a hg w13 hbox hb; have Q01 := Aside0.mk (hbox); have Q2a := uS HB hg; have Q1e := uS HB hg; replace HB := uH HB hb; have Q12 := uL Q00 hg; have Q13 := uG Q00 hg; replace Q00 := uB Q00 hb; clear hb hbox hg) | ((with_reducible refine gate_dst (N := 7) rfl ?_); refine box_event ?hg (N := 7) ?hd (cs := #[.slice none 0 0, .slice none 0 0]) (t := 29) ?hr ?_; (case hd => rfl); (case hg => rfl); (case hr => first | (go_simp; done) | (go_simp; rfl)); intro Q0b hg w14 hbox hb; have Q02 := Aside0.mk (hbox); have Q2b := uS HB hg; have Q1f := uS HB hg; replace HB := uH HB hb; have Q14 := uL Q00 hg; have Q15 := uG Q00 hg; replace Q00 := uB Q00 hb; have Q0o := uL Q01 hg; have Q0p := uG Q01 hg; replace Q01 := uB Q01 hb; clear hb hbox hg; have Q4r := Q12.out; have Q4s := Q13.out; have Q4t := Q14.out; have Q4u := Q15.out; have Q2c : w14.cell? ⟨Q07, 0, none⟩ = some (.slice A0_0 l0_0.length c0_0) := (blk_cell Q00.out 0).trans rfl; have Q2d : w14.cell? ⟨Q07, 1, none⟩ = some (.slice A0_1 l0_1.length c0_1) := (blk_cell Q00.out 1).trans rfl; have Q2e := blk_frozen Q00.out 0; have Q2f := blk_frozen Q00.out 1) | ((with_reducible refine gate_callee (f := 26) rfl ?_); refine goesL_ (some 20) rfl rfl Try.func26 (by kernel_rfl) rfl #[.agg #[.slice A0_0 l0_0.length c0_0, .slice A0_1 l0_1.length c0_1]] rfl aM ?_; (with_reducible refine (graph_Valid.calls _ _ l0_0 _ _ l0_1 t104 _ ?side1 ?side2 ?side3 ?side4 A4.out).mono ?_); (case side1 => repeat (first | exact (cB HR0_0.out HB.out) | (with_reducible refine cA ?_ _) | (with_reducible refine cN ?_ _) | (with_reducible refine cD ?_))); (case side2 => exact HC0_0.out); (case side3 => repeat (first | exact (cB HR0_1.out HB.out) | (with_reducible refine cA ?_ _) | (with_reducible refine cN ?_ _) | (with_reducible refine cD ?_))); (case side4 => exact HC0_1.out); rintro e w18 ⟨rfl, hb⟩; refine ⟨_, rfl, ?_⟩; replace Q00 := uB Q00 hb; replace Q01 := uB Q01 hb; replace Q02 := uB Q02 hb; replace HB := uH HB hb; (try clear hb); (try clear hb2); (try clear hk); (try clear hi); have Q2g : w18.cell? ⟨Q07, 0, none⟩ = some (.slice A0_0 l0_0.length c0_0) := (blk_cell Q00.out 0).trans rfl; have Q2h : w18.cell? ⟨Q07, 1, none⟩ = some (.slice A0_1 l0_1.length c0_1) := (blk_cell Q00.out 1).trans rfl; have Q2i := blk_frozen Q00.out 0; have Q2j := blk_frozen Q00.out 1) | ((with_reducible refine gate_callee (f := 39) rfl ?_); refine goesL_ (some 30) rfl rfl Try.func39 (by kernel_rfl) rfl #[.slice A1 l1.length c1, .int .i64 (l0_0.length : Int)] rfl aM ?_; (with_reducible refine (graph_ascending.calls k _ _ l1 (l0_0.length : Int) t105 _ ?side1 ?side2 A6.out).mono ?_); (case side1 => repeat (first | exact (cB HR1.out HB.out) | (with_reducible refine cA ?_ _) | (with_reducible refine cN ?_ _) | (with_reducible refine cD ?_))); (case side2 => exact HC1.out); rintro e w' ⟨rfl, ⟨nd, rfl⟩⟩; refine ⟨_, rfl, ?_⟩; (try (rw [drewN_self w18]; generalize hq_ : World.drewN w18 _ = w18; have n0_ : Aside0 (w18.heap[Q07]? = some (.cells #[.slice A0_0 l0_0.length c0_0, .slice A0_1 l0_1.length c0_1] 25 (0, 0))) := ⟨by rw [← hq_]; exact (pB Q00)⟩; have n1_ : Aside0 (w18.heap[Q0a]? = some (.cells #[.slice none 0 0, .slice none 0 0] 25 (0, 0))) := ⟨by rw [← hq_]; exact (pB Q01)⟩; have n2_ : Aside0 (w18.heap[Q0b]? = some (.cells #[.slice none 0 0, .slice none 0 0] 29 (0, 0))) := ⟨by rw [← hq_]; exact (pB Q02)⟩; have n3_ : Aside0 (Below w.heap.size w w18) := ⟨by rw [← hq_]; exact (pH HB)⟩; clear Q00 Q01 Q02 HB hq_; have Q00 := n0_; have Q01 := n1_; have Q02 := n2_; have HB := n3_; clear n0_ n1_ n2_ n3_)); have Q2k : w18.cell? ⟨Q07, 0, none⟩ = some (.slice A0_0 l0_0.length c0_0) := (blk_cell Q00.out 0).trans rfl; have Q2l : w18.cell? ⟨Q07, 1, none⟩ = some (.slice A0_1 l0_1.length c0_1) := (blk_cell Q00.out 1).trans rfl; have Q2m := blk_frozen Q00.out 0; have Q2n := blk_frozen Q00.out 1) | ((with_reducible refine gate_callee (f := 39) rfl ?_); refine goesL_ (some 40) rfl rfl Try.func39 (by kernel_rfl) rfl #[.slice A2 l2.length c2, .int .i64 (l0_1.length : Int)] rfl aM ?_; (with_reducible refine (graph_ascending.calls k _ _ l2 (l0_1.length : Int) t106 _ ?side1 ?side2 A8.out).mono ?_); (case side1 => repeat (first | exact (cB HR2.out HB.out) | (with_reducible refine cA ?_ _) | (with_reducible refine cN ?_ _) | (with_reducible refine cD ?_))); (case side2 => exact HC2.out); rintro e w' ⟨rfl, ⟨nd, rfl⟩⟩; refine ⟨_, rfl, ?_⟩; (try (rw [drewN_self w18]; generalize hq_ : World.drewN w18 _ = w18; have n0_ : Aside0 (w18.heap[Q07]? = some (.cells #[.slice A0_0 l0_0.length c0_0, .slice A0_1 l0_1.length c0_1] 25 (0, 0))) := ⟨by rw [← hq_]; exact (pB Q00)⟩; have n1_ : Aside0 (w18.heap[Q0a]? = some (.cells #[.slice none 0 0, .slice none 0 0] 25 (0, 0))) := ⟨by rw [← hq_]; exact (pB Q01)⟩; have n2_ : Aside0 (w18.heap[Q0b]? = some (.cells #[.slice none 0 0, .slice none 0 0] 29 (0, 0))) := ⟨by rw [← hq_]; exact (pB Q02)⟩; have n3_ : Aside0 (Below w.heap.size w w18) := ⟨by rw [← hq_]; exact (pH HB)⟩; clear Q00 Q01 Q02 HB hq_; have Q00 := n0_; have Q01 := n1_; have Q02 := n2_; have HB := n3_; clear n0_ n1_ n2_ n3_))))
    replace Q00 := Aside0.mk (bD Q00.out)
    replace Q01 := Aside0.mk (bD Q01.out)
    replace Q02 := Aside0.mk (bD Q02.out)
    replace HB := Aside0.mk (wD HB.out)
    refine start_ (n := 13) (S := fun w' => w'.cell? ⟨Q07, 0, none⟩ = some (.slice A0_0 l0_0.length c0_0) ∧ w'.cell? ⟨Q07, 1, none⟩ = some (.slice A0_1 l0_1.length c0_1)) (ds := []) #[false, false, false, false, false, false, false, false, false, false, false, false, false] (by kernel_rfl) rfl rfl ⟨(blk_cell Q00.out 0).trans rfl, (blk_cell Q00.out 1).trans rfl⟩ (fun hHeld => ?_); refine with_tabW graph_Remove.tab10 graph_Remove.bits10 (fun HT_ HW_ => ?_)
    generalize w18.drew = w21 at Q00 Q01 Q02 HB hHeld ⊢
    refine pure_ (i := 0) (N := some 46) (v := ?_) (a' := ?_) #[true, false, false, false, false, false, false, false, false, false, false, false, false] rfl rfl (any_of HT_.out (by kernel_rfl)) (fun _ _ _ h => h) (Or.inl ⟨by rfl, ?_⟩) ?_ ?_
    rotate_left
    ·intro w'
     go_simp
     with_reducible rfl
    rotate_left
    ·simp only [Act.put, List.setIfInBounds_toArray, List.set_cons_zero, List.set_cons_succ, i64_w, i32_w]
     rfl
    refine pure_ (i := 3) (N := some 49) (v := ?_) (a' := ?_) #[true, false, false, true, false, false, false, false, false, false, false, false, false] rfl rfl (any_of HT_.out (by kernel_rfl)) (fun _ _ _ h => h) (Or.inl ⟨by rfl, ?_⟩) ?_ ?_
    rotate_left
    ·intro w'
     go_simp
     with_reducible rfl
    rotate_left
    ·simp only [Act.put, List.setIfInBounds_toArray, List.set_cons_zero, List.set_cons_succ, i64_w, i32_w]
     rfl
    refine pure_ (i := 5) (N := some 51) (v := ?_) (a' := ?_) #[true, false, false, true, false, true, false, false, false, false, false, false, false] rfl rfl (any_of HT_.out (by kernel_rfl)) (fun _ _ _ h => h) (Or.inl ⟨by rfl, ?_⟩) ?_ ?_
    rotate_left
    ·intro w'
     go_simp
     with_reducible rfl
    rotate_left
    ·simp only [Act.put, List.setIfInBounds_toArray, List.set_cons_zero, List.set_cons_succ, i64_w, i32_w]
     rfl
    refine pure_ (i := 8) (N := some 54) (v := ?_) (a' := ?_) #[true, false, false, true, false, true, false, false, true, false, false, false, false] rfl rfl (any_of HT_.out (by kernel_rfl)) (fun _ _ _ h => h) (Or.inl ⟨by rfl, ?_⟩) ?_ ?_
    rotate_left
    ·intro w'
     go_simp
     with_reducible rfl
    rotate_left
    ·simp only [Act.put, List.setIfInBounds_toArray, List.set_cons_zero, List.set_cons_succ, i64_w, i32_w]
     rfl
    refine take_ (i := 1) (N := some 47) (v := ?_) (a' := ?_) #[true, true, false, true, false, true, false, false, true, false, false, false, false] rfl rfl (take_ofW HT_.out HW_.out (by kernel_rfl)) (fun _ _ _ h => h) (Or.inl ⟨by rfl, ?_⟩) hHeld ?_ ?_
    rotate_left
    ·rintro w' ⟨s0, s1⟩
     go_simp
     with_reducible rfl
    rotate_left
    ·simp only [Act.put, List.setIfInBounds_toArray, List.set_cons_zero, List.set_cons_succ, i64_w, i32_w]
     rfl
    refine pure_ (i := 2) (N := some 48) (v := ?_) (a' := ?_) #[true, true, true, true, false, true, false, false, true, false, false, false, false] rfl rfl (any_of HT_.out (by kernel_rfl)) (fun _ _ _ h => h) (Or.inl ⟨by rfl, ?_⟩) ?_ ?_
    rotate_left
    ·intro w'
     go_simp
     with_reducible rfl
    rotate_left
    ·simp only [Act.put, List.setIfInBounds_toArray, List.set_cons_zero, List.set_cons_succ, i64_w, i32_w]
     rfl
    refine take_ (i := 6) (N := some 52) (v := ?_) (a' := ?_) #[true, true, true, true, false, true, true, false, true, false, false, false, false] rfl rfl (take_ofW HT_.out HW_.out (by kernel_rfl)) (fun _ _ _ h => h) (Or.inl ⟨by rfl, ?_⟩) hHeld ?_ ?_
    rotate_left
    ·rintro w' ⟨s0, s1⟩
     go_simp
     with_reducible rfl
    rotate_left
    ·simp only [Act.put, List.setIfInBounds_toArray, List.set_cons_zero, List.set_cons_succ, i64_w, i32_w]
     rfl
    refine pure_ (i := 7) (N := some 53) (v := ?_) (a' := ?_) #[true, true, true, true, false, true, true, true, true, false, false, false, false] rfl rfl (any_of HT_.out (by kernel_rfl)) (fun _ _ _ h => h) (Or.inl ⟨by rfl, ?_⟩) ?_ ?_
    rotate_left
    ·intro w'
     go_simp
     with_reducible rfl
    rotate_left
    ·simp only [Act.put, List.setIfInBounds_toArray, List.set_cons_zero, List.set_cons_succ, i64_w, i32_w]
     rfl
    refine join_ (σ := Value × Value × Nat) 1 #[true, true, true, true, true, true, true, true, true, true, true, true, false] (fun s_ => [(50, s_.1), (55, s_.2.1), (12, .pointer (some ⟨s_.2.2, 0, none⟩)), (56, .agg #[s_.1, s_.2.1])]) (fun s_ w' => (w'.cell? ⟨Q07, 0, none⟩ = some (.slice A0_0 l0_0.length c0_0) ∧ w'.cell? ⟨Q07, 1, none⟩ = some (.slice A0_1 l0_1.length c0_1)) ∧ (Kd.R (Kd.int .i64) 3 w' w.heap.size (fun k_ => some k_ ≠ (s_.2.1 : Value).ownBlock) s_.1 t107) ∧ (Kd.R (Kd.int .i64) 3 w' w.heap.size (fun k_ => some k_ ≠ (s_.1 : Value).ownBlock) s_.2.1 t110) ∧ (w'.heap[Q07]? = some (.cells #[.slice A0_0 l0_0.length c0_0, .slice A0_1 l0_1.length c0_1] 25 (0, 0))) ∧ (w'.heap[Q0a]? = some (.cells #[.slice none 0 0, .slice none 0 0] 25 (0, 0))) ∧ (w'.heap[Q0b]? = some (.cells #[.slice none 0 0, .slice none 0 0] 29 (0, 0))) ∧ (w'.heap[s_.2.2]? = some (.cells #[.slice none 0 0, .slice none 0 0] 29 (0, 0))) ∧ (w.heap.size ≤ s_.2.2) ∧ (w.heap.size ≤ s_.2.2) ∧ (Q07 ≠ s_.2.2) ∧ (s_.2.2 ≠ Q07) ∧ (Q0a ≠ s_.2.2) ∧ (s_.2.2 ≠ Q0a) ∧ (Q0b ≠ s_.2.2) ∧ (s_.2.2 ≠ Q0b) ∧ (Below w.heap.size w w')) ?_ ?_
    rotate_left
    ·intro hCont
     refine two_ (i := 4) (j := 11) (Ni := some 50) (Nj := some 12) #[true, true, true, true, true, true, true, true, true, false, false, false, false] #[true, true, true, true, false, true, true, true, true, false, false, true, false] rfl rfl rfl rfl (two_of HT_.out (by kernel_rfl)) (by decide) (by decide) (fun K hK => ?_) (fun K hK => ?_)
     ·skip
      refine goes_ Try.func40 (by kernel_rfl) rfl #[.int .i64 (l0_0.length : Int), .slice A1 l1.length c1] (by rfl) rfl rfl aM ?_
      with_reducible refine (graph_left.calls k (l0_0.length : Int) _ _ l1 t107 _ ?side1 ?side2 A10.out).mono ?_
      (case side1 => repeat (first | exact (cB HR1.out HB.out) | (with_reducible refine cA ?_ _) | (with_reducible refine cN ?_ _) | (with_reducible refine cD ?_)))
      (case side2 => exact HC1.out)
      rintro e w22 ⟨v108, rfl, ho0, hb⟩
      refine ⟨_, rfl, ?_⟩
      have Q0m := Aside0.mk (Kd.R_lower ho0 (below_size (pH HB)))
      replace Q00 := uB Q00 hb
      replace Q01 := uB Q01 hb
      replace Q02 := uB Q02 hb
      replace HB := uH HB hb
      (try clear hb)
      (try clear hb2)
      (try clear hk)
      (try clear hi)
      (try clear ho0)
      refine hK.out _ _ ⟨(blk_cell Q00.out 0).trans rfl, (blk_cell Q00.out 1).trans rfl⟩ (fun hHeld => ?_)
      clear hK K
      refine norm_ (a' := ?_) ?_ ?_
      rotate_left
      ·show Act.put _ (some 50) _ = _
       simp only [Act.put, List.setIfInBounds_toArray, List.set_cons_zero, List.set_cons_succ, i64_w, i32_w]
       rfl
      refine two_ (i := 9) (j := 11) (Ni := some 55) (Nj := some 12) #[true, true, true, true, true, true, true, true, true, true, false, false, false] #[true, true, true, true, true, true, true, true, true, false, false, true, false] rfl rfl rfl rfl (two_of HT_.out (by kernel_rfl)) (by decide) (by decide) (fun K hK => ?_) (fun K hK => ?_)
      ·skip
       refine goes_ Try.func40 (by kernel_rfl) rfl #[.int .i64 (l0_1.length : Int), .slice A2 l2.length c2] (by rfl) rfl rfl aM ?_
       with_reducible refine (graph_left.calls k (l0_1.length : Int) _ _ l2 t110 _ ?side1 ?side2 A11.out).mono ?_
       (case side1 => repeat (first | exact (cB HR2.out HB.out) | (with_reducible refine cA ?_ _) | (with_reducible refine cN ?_ _) | (with_reducible refine cD ?_)))
       (case side2 => exact HC2.out)
       rintro e w23 ⟨v111, rfl, ho0, hb⟩
       refine ⟨_, rfl, ?_⟩
       have Q0w := Aside0.mk (Kd.R_lower (Kd.R_new' ho0 (Kd.R_lt (pR Q0m))) (below_size (pH HB)))
       replace Q0m := eR Q0m (Kd.R_base ho0) hb
       replace Q00 := uB Q00 hb
       replace Q01 := uB Q01 hb
       replace Q02 := uB Q02 hb
       replace HB := uH HB hb
       (try clear hb)
       (try clear hb2)
       (try clear hk)
       (try clear hi)
       (try clear ho0)
       obtain ⟨Q3p, Q3q, Q2w⟩ := Kd.R_slice Q0w.out
       (first | subst Q2w | (injection Q2w with f1_ f2_ f3_; have f4_ := f1_.symm; have f5_ := f3_.symm; clear f1_ f2_ f3_; subst f4_; subst f5_))
       obtain ⟨Q1x, Q1y, Q1g⟩ := Kd.R_slice Q0m.out
       (first | subst Q1g | (injection Q1g with f1_ f2_ f3_; have f4_ := f1_.symm; have f5_ := f3_.symm; clear f1_ f2_ f3_; subst f4_; subst f5_))
       refine hK.out _ _ ⟨(blk_cell Q00.out 0).trans rfl, (blk_cell Q00.out 1).trans rfl⟩ (fun hHeld => ?_)
       clear hK K
       refine norm_ (a' := ?_) ?_ ?_
       rotate_left
       ·show Act.put _ (some 55) _ = _
        simp only [Act.put, List.setIfInBounds_toArray, List.set_cons_zero, List.set_cons_succ, i64_w, i32_w]
        rfl
       refine pure_ (i := 10) (N := some 56) (v := ?_) (a' := ?_) #[true, true, true, true, true, true, true, true, true, true, true, false, false] rfl rfl (any_of HT_.out (by kernel_rfl)) (fun _ _ _ h => h) (Or.inl ⟨by rfl, ?_⟩) ?_ ?_
       rotate_left
       ·intro w'
        go_simp
        with_reducible rfl
       rotate_left
       ·simp only [Act.put, List.setIfInBounds_toArray, List.set_cons_zero, List.set_cons_succ, i64_w, i32_w]
        rfl
       refine one_ (i := 11) (N := some 12) #[true, true, true, true, true, true, true, true, true, true, true, true, false] rfl rfl (one_of HT_.out (by kernel_rfl)) (by decide) (fun K hK => ?_)
       refine box_step ?hg (N := 12) ?hd (cs := #[.slice none 0 0, .slice none 0 0]) (t := 29) ?hr ?_; (case hd => rfl); (case hg => rfl); (case hr => first | (go_simp; done) | (go_simp; rfl))
       intro Q0c hg w26 hbox hb
       replace Q0m := uR Q0m hb
       replace Q0w := uR Q0w hb
       have Q04 := Aside0.mk (hbox)
       have Q1p := uS HB hg
       have Q1h := uS HB hg
       replace HB := uH HB hb
       have Q0n := uL Q00 hg
       have Q0x := uG Q00 hg
       replace Q00 := uB Q00 hb
       have Q0q := uL Q01 hg
       have Q0t := uG Q01 hg
       replace Q01 := uB Q01 hb
       have Q0r := uL Q02 hg
       have Q0u := uG Q02 hg
       replace Q02 := uB Q02 hb
       clear hb hbox hg
       refine hK.out _ _ ⟨(blk_cell Q00.out 0).trans rfl, (blk_cell Q00.out 1).trans rfl⟩ (fun hHeld => ?_)
       clear hK K
       refine norm_ (a' := ?_) ?_ ?_
       rotate_left
       ·show Act.put _ (some 12) _ = _
        simp only [Act.put, List.setIfInBounds_toArray, List.set_cons_zero, List.set_cons_succ, i64_w, i32_w]
        rfl
       exact norm_ (by simp only [putAll, Act.put, List.setIfInBounds_toArray, List.set_cons_zero, List.set_cons_succ]) (hCont (.slice Q1x t107.length Q1y, .slice Q3p t110.length Q3q, Q0c) _ ⟨hHeld, (by (with_reducible repeat (first | apply rA | apply rN | apply rD)); exact Kd.R_mono Q0m.out (fun _ hk => hk.2)), (by (with_reducible repeat (first | apply rA | apply rN | apply rD)); exact Kd.R_mono Q0w.out (fun _ hk => hk.2)), (pB Q00), (pB Q01), (pB Q02), (pB Q04), Q1p.out, Q1h.out, Q0n.out, Q0x.out, Q0q.out, Q0t.out, Q0r.out, Q0u.out, (pH HB)⟩)
      ·skip
       refine box_step ?hg (N := 12) ?hd (cs := #[.slice none 0 0, .slice none 0 0]) (t := 29) ?hr ?_; (case hd => rfl); (case hg => rfl); (case hr => first | (go_simp; done) | (go_simp; rfl))
       intro Q0c hg w23 hbox hb
       replace Q0m := uR Q0m hb
       have Q04 := Aside0.mk (hbox)
       have Q1p := uS HB hg
       have Q1h := uS HB hg
       replace HB := uH HB hb
       have Q0n := uL Q00 hg
       have Q0x := uG Q00 hg
       replace Q00 := uB Q00 hb
       have Q0q := uL Q01 hg
       have Q0t := uG Q01 hg
       replace Q01 := uB Q01 hb
       have Q0r := uL Q02 hg
       have Q0u := uG Q02 hg
       replace Q02 := uB Q02 hb
       clear hb hbox hg
       refine hK.out _ _ ⟨(blk_cell Q00.out 0).trans rfl, (blk_cell Q00.out 1).trans rfl⟩ (fun hHeld => ?_)
       clear hK K
       refine norm_ (a' := ?_) ?_ ?_
       rotate_left
       ·show Act.put _ (some 12) _ = _
        simp only [Act.put, List.setIfInBounds_toArray, List.set_cons_zero, List.set_cons_succ, i64_w, i32_w]
        rfl
       refine one_ (i := 9) (N := some 55) #[true, true, true, true, true, true, true, true, true, true, false, true, false] rfl rfl (one_of HT_.out (by kernel_rfl)) (by decide) (fun K hK => ?_)
       refine goes_ Try.func40 (by kernel_rfl) rfl #[.int .i64 (l0_1.length : Int), .slice A2 l2.length c2] (by rfl) rfl rfl aM ?_
       with_reducible refine (graph_left.calls k (l0_1.length : Int) _ _ l2 t110 _ ?side1 ?side2 A11.out).mono ?_
       (case side1 => repeat (first | exact (cB HR2.out HB.out) | (with_reducible refine cA ?_ _) | (with_reducible refine cN ?_ _) | (with_reducible refine cD ?_)))
       (case side2 => exact HC2.out)
       rintro e w24 ⟨v111, rfl, ho0, hb⟩
       refine ⟨_, rfl, ?_⟩
       have Q0w := Aside0.mk (Kd.R_lower (Kd.R_new' ho0 (Kd.R_lt (pR Q0m))) (below_size (pH HB)))
       replace Q0m := eR Q0m (Kd.R_base ho0) hb
       replace Q00 := uB Q00 hb
       replace Q01 := uB Q01 hb
       replace Q02 := uB Q02 hb
       replace Q04 := uB Q04 hb
       replace HB := uH HB hb
       (try clear hb)
       (try clear hb2)
       (try clear hk)
       (try clear hi)
       (try clear ho0)
       obtain ⟨Q1x, Q1y, Q1g⟩ := Kd.R_slice Q0w.out
       (first | subst Q1g | (injection Q1g with f1_ f2_ f3_; have f4_ := f1_.symm; have f5_ := f3_.symm; clear f1_ f2_ f3_; subst f4_; subst f5_))
       obtain ⟨Q2o, Q2p, Q1z⟩ := Kd.R_slice Q0m.out
       (first | subst Q1z | (injection Q1z with f1_ f2_ f3_; have f4_ := f1_.symm; have f5_ := f3_.symm; clear f1_ f2_ f3_; subst f4_; subst f5_))
       refine hK.out _ _ ⟨(blk_cell Q00.out 0).trans rfl, (blk_cell Q00.out 1).trans rfl⟩ (fun hHeld => ?_)
       clear hK K
       refine norm_ (a' := ?_) ?_ ?_
       rotate_left
       ·show Act.put _ (some 55) _ = _
        simp only [Act.put, List.setIfInBounds_toArray, List.set_cons_zero, List.set_cons_succ, i64_w, i32_w]
        rfl
       refine pure_ (i := 10) (N := some 56) (v := ?_) (a' := ?_) #[true, true, true, true, true, true, true, true, true, true, true, true, false] rfl rfl (any_of HT_.out (by kernel_rfl)) (fun _ _ _ h => h) (Or.inl ⟨by rfl, ?_⟩) ?_ ?_
       rotate_left
       ·intro w'
        go_simp
        with_reducible rfl
       rotate_left
       ·simp only [Act.put, List.setIfInBounds_toArray, List.set_cons_zero, List.set_cons_succ, i64_w, i32_w]
        rfl
       exact norm_ (by simp only [putAll, Act.put, List.setIfInBounds_toArray, List.set_cons_zero, List.set_cons_succ]) (hCont (.slice Q2o t107.length Q2p, .slice Q1x t110.length Q1y, Q0c) _ ⟨hHeld, (by (with_reducible repeat (first | apply rA | apply rN | apply rD)); exact Kd.R_mono Q0m.out (fun _ hk => hk.2)), (by (with_reducible repeat (first | apply rA | apply rN | apply rD)); exact Kd.R_mono Q0w.out (fun _ hk => hk.2)), (pB Q00), (pB Q01), (pB Q02), (pB Q04), Q1p.out, Q1h.out, Q0n.out, Q0x.out, Q0q.out, Q0t.out, Q0r.out, Q0u.out, (pH HB)⟩)
     ·skip
      refine box_step ?hg (N := 12) ?hd (cs := #[.slice none 0 0, .slice none 0 0]) (t := 29) ?hr ?_; (case hd => rfl); (case hg => rfl); (case hr => first | (go_simp; done) | (go_simp; rfl))
      intro Q0c hg w22 hbox hb
      have Q04 := Aside0.mk (hbox)
      have Q1p := uS HB hg
      have Q1h := uS HB hg
      replace HB := uH HB hb
      have Q0n := uL Q00 hg
      have Q0x := uG Q00 hg
      replace Q00 := uB Q00 hb
      have Q0q := uL Q01 hg
      have Q0t := uG Q01 hg
      replace Q01 := uB Q01 hb
      have Q0r := uL Q02 hg
      have Q0u := uG Q02 hg
      replace Q02 := uB Q02 hb
      clear hb hbox hg
      refine hK.out _ _ ⟨(blk_cell Q00.out 0).trans rfl, (blk_cell Q00.out 1).trans rfl⟩ (fun hHeld => ?_)
      clear hK K
      refine norm_ (a' := ?_) ?_ ?_
      rotate_left
      ·show Act.put _ (some 12) _ = _
       simp only [Act.put, List.setIfInBounds_toArray, List.set_cons_zero, List.set_cons_succ, i64_w, i32_w]
       rfl
      refine one_ (i := 4) (N := some 50) #[true, true, true, true, true, true, true, true, true, false, false, true, false] rfl rfl (one_of HT_.out (by kernel_rfl)) (by decide) (fun K hK => ?_)
      refine goes_ Try.func40 (by kernel_rfl) rfl #[.int .i64 (l0_0.length : Int), .slice A1 l1.length c1] (by rfl) rfl rfl aM ?_
      with_reducible refine (graph_left.calls k (l0_0.length : Int) _ _ l1 t107 _ ?side1 ?side2 A10.out).mono ?_
      (case side1 => repeat (first | exact (cB HR1.out HB.out) | (with_reducible refine cA ?_ _) | (with_reducible refine cN ?_ _) | (with_reducible refine cD ?_)))
      (case side2 => exact HC1.out)
      rintro e w23 ⟨v108, rfl, ho0, hb⟩
      refine ⟨_, rfl, ?_⟩
      have Q0m := Aside0.mk (Kd.R_lower ho0 (below_size (pH HB)))
      replace Q00 := uB Q00 hb
      replace Q01 := uB Q01 hb
      replace Q02 := uB Q02 hb
      replace Q04 := uB Q04 hb
      replace HB := uH HB hb
      (try clear hb)
      (try clear hb2)
      (try clear hk)
      (try clear hi)
      (try clear ho0)
      refine hK.out _ _ ⟨(blk_cell Q00.out 0).trans rfl, (blk_cell Q00.out 1).trans rfl⟩ (fun hHeld => ?_)
      clear hK K
      refine norm_ (a' := ?_) ?_ ?_
      rotate_left
      ·show Act.put _ (some 50) _ = _
       simp only [Act.put, List.setIfInBounds_toArray, List.set_cons_zero, List.set_cons_succ, i64_w, i32_w]
       rfl
      refine one_ (i := 9) (N := some 55) #[true, true, true, true, true, true, true, true, true, true, false, true, false] rfl rfl (one_of HT_.out (by kernel_rfl)) (by decide) (fun K hK => ?_)
      refine goes_ Try.func40 (by kernel_rfl) rfl #[.int .i64 (l0_1.length : Int), .slice A2 l2.length c2] (by rfl) rfl rfl aM ?_
      with_reducible refine (graph_left.calls k (l0_1.length : Int) _ _ l2 t110 _ ?side1 ?side2 A11.out).mono ?_
      (case side1 => repeat (first | exact (cB HR2.out HB.out) | (with_reducible refine cA ?_ _) | (with_reducible refine cN ?_ _) | (with_reducible refine cD ?_)))
      (case side2 => exact HC2.out)
      rintro e w24 ⟨v111, rfl, ho0, hb⟩
      refine ⟨_, rfl, ?_⟩
      have Q0w := Aside0.mk (Kd.R_lower (Kd.R_new' ho0 (Kd.R_lt (pR Q0m))) (below_size (pH HB)))
      replace Q0m := eR Q0m (Kd.R_base ho0) hb
      replace Q00 := uB Q00 hb
      replace Q01 := uB Q01 hb
      replace Q02 := uB Q02 hb
      replace Q04 := uB Q04 hb
      replace HB := uH HB hb
      (try clear hb)
      (try clear hb2)
      (try clear hk)
      (try clear hi)
      (try clear ho0)
      obtain ⟨Q1x, Q1y, Q1g⟩ := Kd.R_slice Q0w.out
      (first | subst Q1g | (injection Q1g with f1_ f2_ f3_; have f4_ := f1_.symm; have f5_ := f3_.symm; clear f1_ f2_ f3_; subst f4_; subst f5_))
      obtain ⟨Q2o, Q2p, Q1z⟩ := Kd.R_slice Q0m.out
      (first | subst Q1z | (injection Q1z with f1_ f2_ f3_; have f4_ := f1_.symm; have f5_ := f3_.symm; clear f1_ f2_ f3_; subst f4_; subst f5_))
      refine hK.out _ _ ⟨(blk_cell Q00.out 0).trans rfl, (blk_cell Q00.out 1).trans rfl⟩ (fun hHeld => ?_)
      clear hK K
      refine norm_ (a' := ?_) ?_ ?_
      rotate_left
      ·show Act.put _ (some 55) _ = _
       simp only [Act.put, List.setIfInBounds_toArray, List.set_cons_zero, List.set_cons_succ, i64_w, i32_w]
       rfl
      refine pure_ (i := 10) (N := some 56) (v := ?_) (a' := ?_) #[true, true, true, true, true, true, true, true, true, true, true, true, false] rfl rfl (any_of HT_.out (by kernel_rfl)) (fun _ _ _ h => h) (Or.inl ⟨by rfl, ?_⟩) ?_ ?_
      rotate_left
      ·intro w'
       go_simp
       with_reducible rfl
      rotate_left
      ·simp only [Act.put, List.setIfInBounds_toArray, List.set_cons_zero, List.set_cons_succ, i64_w, i32_w]
       rfl
      exact norm_ (by simp only [putAll, Act.put, List.setIfInBounds_toArray, List.set_cons_zero, List.set_cons_succ]) (hCont (.slice Q2o t107.length Q2p, .slice Q1x t110.length Q1y, Q0c) _ ⟨hHeld, (by (with_reducible repeat (first | apply rA | apply rN | apply rD)); exact Kd.R_mono Q0m.out (fun _ hk => hk.2)), (by (with_reducible repeat (first | apply rA | apply rN | apply rD)); exact Kd.R_mono Q0w.out (fun _ hk => hk.2)), (pB Q00), (pB Q01), (pB Q02), (pB Q04), Q1p.out, Q1h.out, Q0n.out, Q0x.out, Q0q.out, Q0t.out, Q0r.out, Q0u.out, (pH HB)⟩)
    rintro ⟨v108, v111, Q0c⟩ w27 ⟨hS_, h0_, h1_, h2_, h3_, h4_, h5_, h6_, h7_, h8_, h9_, h10_, h11_, h12_, h13_, h14_⟩
    have n0_ : Aside0 (Kd.R (Kd.int .i64) 3 w27 w.heap.size (fun k_ => some k_ ≠ (v111 : Value).ownBlock) v108 t107) := ⟨h0_⟩
    have n1_ : Aside0 (Kd.R (Kd.int .i64) 3 w27 w.heap.size (fun k_ => some k_ ≠ (v108 : Value).ownBlock) v111 t110) := ⟨h1_⟩
    have n2_ : Aside0 (w27.heap[Q07]? = some (.cells #[.slice A0_0 l0_0.length c0_0, .slice A0_1 l0_1.length c0_1] 25 (0, 0))) := ⟨h2_⟩
    have n3_ : Aside0 (w27.heap[Q0a]? = some (.cells #[.slice none 0 0, .slice none 0 0] 25 (0, 0))) := ⟨h3_⟩
    have n4_ : Aside0 (w27.heap[Q0b]? = some (.cells #[.slice none 0 0, .slice none 0 0] 29 (0, 0))) := ⟨h4_⟩
    have n5_ : Aside0 (w27.heap[Q0c]? = some (.cells #[.slice none 0 0, .slice none 0 0] 29 (0, 0))) := ⟨h5_⟩
    have n6_ : Aside0 (w.heap.size ≤ Q0c) := ⟨h6_⟩
    have n7_ : Aside0 (w.heap.size ≤ Q0c) := ⟨h7_⟩
    have n8_ : Aside0 (Q07 ≠ Q0c) := ⟨h8_⟩
    have n9_ : Aside0 (Q0c ≠ Q07) := ⟨h9_⟩
    have n10_ : Aside0 (Q0a ≠ Q0c) := ⟨h10_⟩
    have n11_ : Aside0 (Q0c ≠ Q0a) := ⟨h11_⟩
    have n12_ : Aside0 (Q0b ≠ Q0c) := ⟨h12_⟩
    have n13_ : Aside0 (Q0c ≠ Q0b) := ⟨h13_⟩
    have n14_ : Aside0 (Below w.heap.size w w27) := ⟨h14_⟩
    clear Q00
    clear Q01
    clear Q02
    clear HB
    clear h0_ h1_ h2_ h3_ h4_ h5_ h6_ h7_ h8_ h9_ h10_ h11_ h12_ h13_ h14_
    have Q0m := n0_
    have Q0w := n1_
    have Q00 := n2_
    have Q01 := n3_
    have Q02 := n4_
    have Q04 := n5_
    have Q1p := n6_
    have Q1h := n7_
    have Q0n := n8_
    have Q0x := n9_
    have Q0q := n10_
    have Q0t := n11_
    have Q0r := n12_
    have Q0u := n13_
    have HB := n14_
    clear n0_ n1_ n2_ n3_ n4_ n5_ n6_ n7_ n8_ n9_ n10_ n11_ n12_ n13_ n14_
    have hHeld : w27.cell? ⟨Q07, 0, none⟩ = some (.slice A0_0 l0_0.length c0_0) ∧ w27.cell? ⟨Q07, 1, none⟩ = some (.slice A0_1 l0_1.length c0_1) := hS_
    obtain ⟨Q0l, Q0g, Q2x⟩ := Kd.R_slice Q0w.out
    (first | subst Q2x | (injection Q2x with f1_ f2_ f3_; have f4_ := f1_.symm; have f5_ := f3_.symm; clear f1_ f2_ f3_; subst f4_; subst f5_))
    obtain ⟨Q0j, Q0e, Q2y⟩ := Kd.R_slice Q0m.out
    (first | subst Q2y | (injection Q2y with f1_ f2_ f3_; have f4_ := f1_.symm; have f5_ := f3_.symm; clear f1_ f2_ f3_; subst f4_; subst f5_))
    refine norm_ (a' := ?_) ?_ ?_
    rotate_left
    ·simp only [putAll, Act.put, List.setIfInBounds_toArray, List.set_cons_zero, List.set_cons_succ]
     rfl
    refine one_ (i := 12) (N := none) #[true, true, true, true, true, true, true, true, true, true, true, true, true] rfl rfl (one_of HT_.out (by kernel_rfl)) (by decide) (fun K hK => ?_)
    have Q4v : w27.cell? ⟨Q0c, 0, none⟩ = some (.slice none 0 0) := (blk_cell Q04.out 0).trans rfl
    have Q4w := blk_frozen Q04.out 0
    have Q4x := Q0n.out
    have Q4y := Q0q.out
    have Q4z := Q0r.out
    have Q50 := Q0x.out
    have Q51 := Q0t.out
    have Q52 := Q0u.out
    have Q53 : w27.cell? ⟨Q0c, 1, none⟩ = some (.slice none 0 0) := (blk_cell Q04.out 1).trans rfl
    have Q54 := blk_frozen Q04.out 1
    have Q55 := Q0n.out
    have Q56 := Q0q.out
    have Q57 := Q0r.out
    have Q58 := Q0x.out
    have Q59 := Q0t.out
    have Q5a := Q0u.out
    refine skip_ (w1 := ?_) (by rfl) rfl ?_ ?_
    rotate_left
    ·go_simp
     rfl
    refine hK.out _ _ ⟨((cell_far (p := ⟨Q0c, _, none⟩) Q0n.out _).trans (((cell_far (p := ⟨Q0c, _, none⟩) Q0n.out _).trans (hHeld.1)))), ((cell_far (p := ⟨Q0c, _, none⟩) Q0n.out _).trans (((cell_far (p := ⟨Q0c, _, none⟩) Q0n.out _).trans (hHeld.2))))⟩ (fun hHeld => ?_)
    clear hK K
    refine done_ (done_of HT_.out (by kernel_rfl)) ?_
    try go_wp2_with (first | ((with_reducible refine gate_dst (N := 13) rfl ?_); refine box_event ?hg (N := 13) ?hd (cs := #[.slice none 0 0, .slice none 0 0]) (t := 25) ?hr ?_; (case hd => rfl); (case hg => rfl); (case hr => first | (go_simp; done) | (go_simp; rfl)); intro Q0k hg w32 hbox hb; replace Q0m := Aside0.mk (rB (by (with_reducible repeat (first | apply rA | apply rN | apply rD)); exact (Kd.R_mono (Kd.R_far (p := ⟨Q0c, 1, none⟩) (Kd.R_far (p := ⟨Q0c, 0, none⟩) (Kd.R_types Q0m.out Q04.out (by decide)) (fun _ hk => hk.2) (.slice Q0j t107.length Q0e)) (fun _ hk => hk.2) (.slice Q0l t110.length Q0g)) (fun _ h_ => h_.1))) hb); replace Q0w := Aside0.mk (rB (by (with_reducible repeat (first | apply rA | apply rN | apply rD)); exact (Kd.R_mono (Kd.R_far (p := ⟨Q0c, 1, none⟩) (Kd.R_far (p := ⟨Q0c, 0, none⟩) (Kd.R_types Q0w.out Q04.out (by decide)) (fun _ hk => hk.2) (.slice Q0j t107.length Q0e)) (fun _ hk => hk.2) (.slice Q0l t110.length Q0g)) (fun _ h_ => h_.1))) hb); have Q06 := Aside0.mk (hbox); have Q5b := uS HB hg; have Q2z := uS HB hg; replace HB := uH HB hb; have Q1q := Aside0.mk ((by rw [hg]; exact Nat.ne_of_lt (blk_lt (g := Q07) (o := .cells #[.slice A0_0 l0_0.length c0_0, .slice A0_1 l0_1.length c0_1] 25 (0, 0)) (by (with_reducible repeat (first | refine bN ?_ _ | refine bD ?_ | refine bA ?_ _)); refine blk_far ?_ Q0n.out _; (with_reducible repeat (first | refine bN ?_ _ | refine bD ?_ | refine bA ?_ _)); refine blk_far ?_ Q0n.out _; (with_reducible repeat (first | refine bN ?_ _ | refine bD ?_ | refine bA ?_ _)); exact Q00.out)) : Q07 ≠ Q0k)); have Q23 := Aside0.mk ((by rw [hg]; exact Nat.ne_of_gt (blk_lt (g := Q07) (o := .cells #[.slice A0_0 l0_0.length c0_0, .slice A0_1 l0_1.length c0_1] 25 (0, 0)) (by (with_reducible repeat (first | refine bN ?_ _ | refine bD ?_ | refine bA ?_ _)); refine blk_far ?_ Q0n.out _; (with_reducible repeat (first | refine bN ?_ _ | refine bD ?_ | refine bA ?_ _)); refine blk_far ?_ Q0n.out _; (with_reducible repeat (first | refine bN ?_ _ | refine bD ?_ | refine bA ?_ _)); exact Q00.out)) : Q0k ≠ Q07)); replace Q00 := Aside0.mk (bB (g := Q07) (o := .cells #[.slice A0_0 l0_0.length c0_0, .slice A0_1 l0_1.length c0_1] 25 (0, 0)) (by (with_reducible repeat (first | refine bN ?_ _ | refine bD ?_ | refine bA ?_ _)); refine blk_far ?_ Q0n.out _; (with_reducible repeat (first | refine bN ?_ _ | refine bD ?_ | refine bA ?_ _)); refine blk_far ?_ Q0n.out _; (with_reducible repeat (first | refine bN ?_ _ | refine bD ?_ | refine bA ?_ _)); exact Q00.out) hb); have Q1i := Aside0.mk ((by rw [hg]; exact Nat.ne_of_lt (blk_lt (g := Q0a) (o := .cells #[.slice none 0 0, .slice none 0 0] 25 (0, 0)) (by (with_reducible repeat (first | refine bN ?_ _ | refine bD ?_ | refine bA ?_ _)); refine blk_far ?_ Q0q.out _; (with_reducible repeat (first | refine bN ?_ _ | refine bD ?_ | refine bA ?_ _)); refine blk_far ?_ Q0q.out _; (with_reducible repeat (first | refine bN ?_ _ | refine bD ?_ | refine bA ?_ _)); exact Q01.out)) : Q0a ≠ Q0k)); have Q19 := Aside0.mk ((by rw [hg]; exact Nat.ne_of_gt (blk_lt (g := Q0a) (o := .cells #[.slice none 0 0, .slice none 0 0] 25 (0, 0)) (by (with_reducible repeat (first | refine bN ?_ _ | refine bD ?_ | refine bA ?_ _)); refine blk_far ?_ Q0q.out _; (with_reducible repeat (first | refine bN ?_ _ | refine bD ?_ | refine bA ?_ _)); refine blk_far ?_ Q0q.out _; (with_reducible repeat (first | refine bN ?_ _ | refine bD ?_ | refine bA ?_ _)); exact Q01.out)) : Q0k ≠ Q0a)); replace Q01 := Aside0.mk (bB (g := Q0a) (o := .cells #[.slice none 0 0, .slice none 0 0] 25 (0, 0)) (by (with_reducible repeat (first | refine bN ?_ _ | refine bD ?_ | refine bA ?_ _)); refine blk_far ?_ Q0q.out _; (with_reducible repeat (first | refine bN ?_ _ | refine bD ?_ | refine bA ?_ _)); refine blk_far ?_ Q0q.out _; (with_reducible repeat (first | refine bN ?_ _ | refine bD ?_ | refine bA ?_ _)); exact Q01.out) hb); have Q1j := Aside0.mk ((by rw [hg]; exact Nat.ne_of_lt (blk_lt (g := Q0b) (o := .cells #[.slice none 0 0, .slice none 0 0] 29 (0, 0)) (by (with_reducible repeat (first | refine bN ?_ _ | refine bD ?_ | refine bA ?_ _)); refine blk_far ?_ Q0r.out _; (with_reducible repeat (first | refine bN ?_ _ | refine bD ?_ | refine bA ?_ _)); refine blk_far ?_ Q0r.out _; (with_reducible repeat (first | refine bN ?_ _ | refine bD ?_ | refine bA ?_ _)); exact Q02.out)) : Q0b ≠ Q0k)); have Q1a := Aside0.mk ((by rw [hg]; exact Nat.ne_of_gt (blk_lt (g := Q0b) (o := .cells #[.slice none 0 0, .slice none 0 0] 29 (0, 0)) (by (with_reducible repeat (first | refine bN ?_ _ | refine bD ?_ | refine bA ?_ _)); refine blk_far ?_ Q0r.out _; (with_reducible repeat (first | refine bN ?_ _ | refine bD ?_ | refine bA ?_ _)); refine blk_far ?_ Q0r.out _; (with_reducible repeat (first | refine bN ?_ _ | refine bD ?_ | refine bA ?_ _)); exact Q02.out)) : Q0k ≠ Q0b)); replace Q02 := Aside0.mk (bB (g := Q0b) (o := .cells #[.slice none 0 0, .slice none 0 0] 29 (0, 0)) (by (with_reducible repeat (first | refine bN ?_ _ | refine bD ?_ | refine bA ?_ _)); refine blk_far ?_ Q0r.out _; (with_reducible repeat (first | refine bN ?_ _ | refine bD ?_ | refine bA ?_ _)); refine blk_far ?_ Q0r.out _; (with_reducible repeat (first | refine bN ?_ _ | refine bD ?_ | refine bA ?_ _)); exact Q02.out) hb); have Q1k := Aside0.mk ((by rw [hg]; exact Nat.ne_of_lt (blk_lt (g := Q0c) (o := .cells #[.slice Q0j t107.length Q0e, .slice Q0l t110.length Q0g] 29 (0, 0)) (by (with_reducible repeat (first | refine bN ?_ _ | refine bD ?_ | refine bA ?_ _)); refine blk_put (cs := #[.slice Q0j t107.length Q0e, .slice none 0 0]) ?_ 1 _ rfl; (with_reducible repeat (first | refine bN ?_ _ | refine bD ?_ | refine bA ?_ _)); refine blk_put (cs := #[.slice none 0 0, .slice none 0 0]) ?_ 0 _ rfl; (with_reducible repeat (first | refine bN ?_ _ | refine bD ?_ | refine bA ?_ _)); exact Q04.out)) : Q0c ≠ Q0k)); have Q20 := Aside0.mk ((by rw [hg]; exact Nat.ne_of_gt (blk_lt (g := Q0c) (o := .cells #[.slice Q0j t107.length Q0e, .slice Q0l t110.length Q0g] 29 (0, 0)) (by (with_reducible repeat (first | refine bN ?_ _ | refine bD ?_ | refine bA ?_ _)); refine blk_put (cs := #[.slice Q0j t107.length Q0e, .slice none 0 0]) ?_ 1 _ rfl; (with_reducible repeat (first | refine bN ?_ _ | refine bD ?_ | refine bA ?_ _)); refine blk_put (cs := #[.slice none 0 0, .slice none 0 0]) ?_ 0 _ rfl; (with_reducible repeat (first | refine bN ?_ _ | refine bD ?_ | refine bA ?_ _)); exact Q04.out)) : Q0k ≠ Q0c)); replace Q04 := Aside0.mk (bB (g := Q0c) (o := .cells #[.slice Q0j t107.length Q0e, .slice Q0l t110.length Q0g] 29 (0, 0)) (by (with_reducible repeat (first | refine bN ?_ _ | refine bD ?_ | refine bA ?_ _)); refine blk_put (cs := #[.slice Q0j t107.length Q0e, .slice none 0 0]) ?_ 1 _ rfl; (with_reducible repeat (first | refine bN ?_ _ | refine bD ?_ | refine bA ?_ _)); refine blk_put (cs := #[.slice none 0 0, .slice none 0 0]) ?_ 0 _ rfl; (with_reducible repeat (first | refine bN ?_ _ | refine bD ?_ | refine bA ?_ _)); exact Q04.out) hb); clear hb hbox hg; have Q5c := Q0n.out; have Q5d := Q0x.out; have Q5e := Q1q.out; have Q5f := Q23.out; have Q2q : w32.cell? ⟨Q07, 0, none⟩ = some (.slice A0_0 l0_0.length c0_0) := (blk_cell Q00.out 0).trans rfl; have Q2r : w32.cell? ⟨Q07, 1, none⟩ = some (.slice A0_1 l0_1.length c0_1) := (blk_cell Q00.out 1).trans rfl; have Q2s := blk_frozen Q00.out 0; have Q2t := blk_frozen Q00.out 1))
    go_loopg [60] k (fun kq v60 w' => ∃ (x60_1 : Int) (x115000_1 : List Int) (u115000 : Value), v60 = .int .i64 x60_1 ∧ Aside0 (graph_Remove.l0 kq l0_0 (l0_0.length : Int) x60_1 l0_0 l0_1 t107 t110 x115000_1 = some (r1, r2, r3, r4, r5)) ∧ Aside0 (kq ≤ k) ∧ Aside0 (Kd.R (Kd.int .i64) 3 w' w.heap.size (fun k_ => some k_ ≠ ((.slice Q0l t110.length Q0g) : Value).ownBlock ∧ some k_ ≠ (u115000 : Value).ownBlock) (.slice Q0j t107.length Q0e) t107) ∧ Aside0 (Kd.R (Kd.int .i64) 3 w' w.heap.size (fun k_ => some k_ ≠ ((.slice Q0j t107.length Q0e) : Value).ownBlock ∧ some k_ ≠ (u115000 : Value).ownBlock) (.slice Q0l t110.length Q0g) t110) ∧ Aside0 (Kd.R (Kd.int .i64) 3 w' w.heap.size (fun k_ => some k_ ≠ ((.slice Q0j t107.length Q0e) : Value).ownBlock ∧ some k_ ≠ ((.slice Q0l t110.length Q0g) : Value).ownBlock) u115000 x115000_1) ∧ Aside0 (w'.heap[Q07]? = some (.cells #[(.slice A0_0 l0_0.length c0_0), (.slice A0_1 l0_1.length c0_1)] 25 (0, 0))) ∧ Aside0 (w'.heap[Q0a]? = some (.cells #[(.slice none 0 0), (.slice none 0 0)] 25 (0, 0))) ∧ Aside0 (w'.heap[Q0b]? = some (.cells #[(.slice none 0 0), (.slice none 0 0)] 29 (0, 0))) ∧ Aside0 (w'.heap[Q0c]? = some (.cells #[(.slice Q0j t107.length Q0e), (.slice Q0l t110.length Q0g)] 29 (0, 0))) ∧ Aside0 (w'.heap[Q0k]? = some (.cells #[u115000, (.slice none 0 0)] 25 (0, 0))) ∧ Aside0 (Below w.heap.size w w'))
    case atStart => exact ⟨(0), (([] : List Int)), (.slice none 0 0), rS, H', ⟨Nat.le_refl _⟩, ⟨by (with_reducible repeat (first | apply rA | apply rN | apply rD)); exact Kd.R_mono Q0m.out (fun _ hk => ⟨hk, (by simp [Value.ownBlock])⟩)⟩, ⟨by (with_reducible repeat (first | apply rA | apply rN | apply rD)); exact Kd.R_mono Q0w.out (fun _ hk => ⟨hk, (by simp [Value.ownBlock])⟩)⟩, ⟨by first | exact Kd.R_nil _ _ _ _ _ | exact Kd.N_nil _ _ _ _ _ | exact Kd.V_nil _ _ _ _ _ | exact Kd.Q_nil _ _ _ _ _ | exact Kd.S_nil _ _ _ _ _⟩, ⟨pB Q00⟩, ⟨pB Q01⟩, ⟨pB Q02⟩, ⟨pB Q04⟩, ⟨pB Q06⟩, ⟨pH HB⟩⟩
    case round =>
     clear H'
     try clear c1; try clear c2; try clear p2; try clear c3; try clear c4; try clear c5; try clear c5b0; try clear c5b1; try clear c7; try clear c7b0; try clear c7b1; try clear c9; try clear c9b0; try clear c9b1; try clear c12; try clear c15; try clear c16; try clear c26; try clear c33; try clear c34; try clear Q2c; try clear Q2d; try clear Q2g; try clear Q2h; try clear Q2k; try clear Q2l; try clear Q2q; try clear Q2r; try clear Q2e; try clear Q2f; try clear Q2i; try clear Q2j; try clear Q2m; try clear Q2n; try clear Q2s; try clear Q2t
     obtain ⟨x60_1, x115000_1, u115000, rfl, HA, HK1, Q09, Q0f, Q0h, Q00, Q01, Q02, Q04, Q06, HB⟩ := hrel
     cases gk with
     | zero => exact absurd HA.out (by simp [graph_Remove.l0])
     | succ k1 =>
      have H := HA.out
      clear HA
      simp only [graph_Remove.l0] at H
      by_cases c36 : x60_1 < (l0_0.length : Int)
      ·rw [if_pos c36] at H
       have c36b0 : decide (x60_1 < (l0_0.length : Int)) = true := decide_eq_true c36
       clear c36
       by_cases c37 : 0 ≤ x60_1
       ·rw [if_pos c37] at H
        have c37b0 : decide (0 ≤ x60_1) = true := decide_eq_true c37
        clear c37
        by_cases c38 : x60_1 < (l0_0.length : Int)
        ·rw [if_pos c38] at H
         have c38b0 : decide (x60_1 < (l0_0.length : Int)) = true := decide_eq_true c38
         clear c38
         by_cases c39 : x60_1 < (t107.length : Int)
         ·rw [if_pos c39] at H
          have c39b0 : decide (x60_1 < (t107.length : Int)) = true := decide_eq_true c39
          clear c39
          by_cases c40 : (rd t107 x60_1) ≥ 0
          ·rw [if_pos c40] at H
           have c40b0 : decide (0 ≤ (rd t107 x60_1)) = true := decide_eq_true c40
           clear c40
           by_cases c41 : x115000_1.length < 17592186044416
           ·rw [if_pos c41] at H
            have LMc41 := Aside0.mk c41
            clear c41
            obtain ⟨y117, hy117⟩ : ∃ y_ : List Int, y_ = (x115000_1 ++ [rd l0_0 x60_1]) := ⟨_, rfl⟩
            replace H : (graph_Remove.l0 k1 l0_0 (l0_0.length : Int) (wrap64 (x60_1 + 1)) l0_0 l0_1 t107 t110 y117) = some (r1, r2, r3, r4, r5) := by first | (rw [hy117]; with_reducible exact H) | (have H2_ := (Option.bind_some _ _).symm.trans H; rw [hy117]; with_reducible exact H2_) | (have H2_ := (Option.bind_some _ _).symm.trans H; with_reducible exact H2_) | with_reducible exact H | (rw [hy117]; exact H) | exact H
            have Ny117 := Aside0.mk hy117
            clear hy117
            have H' := Aside0.mk H
            clear H
            have p115 : 0 ≤ (x60_1 : Int) := oT
            have q115 : x60_1 < (l0_0.length : Int) := oT
            obtain ⟨ad115, e115, hx115_0⟩ := Kd.at_int HR0_0.out x60_1 p115 q115
            cases e115
            replace hx115_0 := (HB.out.cell (World.block_lt_of_cell? w _ hx115_0)).trans hx115_0
            replace p115 := eq_true p115
            replace q115 := eq_true q115
            have Q5g := Q0x.out
            have Q5h := Q0n.out
            have Q5i := Q0t.out
            have Q5j := Q0q.out
            have Q5k := Q0u.out
            have Q5l := Q0r.out
            have Q5m := Q1k.out
            have Q5n := Q20.out
            have Q30 : wr.cell? ⟨Q0c, 0, none⟩ = some (.slice Q0j t107.length Q0e) := (blk_cell Q04.out 0).trans rfl
            have Q31 : wr.cell? ⟨Q0c, 1, none⟩ = some (.slice Q0l t110.length Q0g) := (blk_cell Q04.out 1).trans rfl
            have Q32 := blk_frozen Q04.out 0
            have Q33 := blk_frozen Q04.out 1
            have p116 : 0 ≤ (x60_1 : Int) := oT
            have q116 : x60_1 < (t107.length : Int) := oT
            obtain ⟨ad116, e116, hx116_0⟩ := Kd.at_int (Kd.R_reads' Q09.out).2.2 x60_1 p116 q116
            cases e116
            replace p116 := eq_true p116
            replace q116 := eq_true q116
            have Q5o := Q23.out
            have Q5p := Q1q.out
            have Q5q := Q19.out
            have Q5r := Q1i.out
            have Q5s := Q1a.out
            have Q5t := Q1j.out
            have Q34 : wr.cell? ⟨Q0k, 0, none⟩ = some (u115000) := (blk_cell Q06.out 0).trans rfl
            have Q35 : wr.cell? ⟨Q0k, 1, none⟩ = some (.slice none 0 0) := (blk_cell Q06.out 1).trans rfl
            have Q36 := blk_frozen Q06.out 0
            have Q37 := blk_frozen Q06.out 1
            go_wp2_with (first | ((with_reducible refine gate_builtin (b := .append) (xs := #[.tmp 72, .tmp 74]) rfl ?_); at_builtin; refine Kd.R_append (Kd.int .i64) (w0 := w) w.heap.size rfl (.tmp 72) (.tmp 74) 22 3 (.int .i64 0) 8 rfl Try.underlying22 info3 rfl (by decide) (by omega) u115000 x115000_1 (rd l0_0 x60_1) [.int .i64 (rd l0_0 x60_1)] (fun k_ => some k_ ≠ (.slice (some ad116) t107.length Q0e : Value).ownBlock ∧ some k_ ≠ (.slice Q0l t110.length Q0g : Value).ownBlock) (fun _ => False) rfl rfl ?aP (fun _ hk => hk.elim) ?aF ?aO ?aB ?aS ?aL ?_; (case aP => exact rfl); (case aB => exact (pH HB)); (case aF => exact (fun k_ hk => ⟨Kd.fresh' (Kd.R_lt (pR Q09)) k_ hk, Kd.fresh' (Kd.R_lt (pR Q0f)) k_ hk⟩)); (case aO => exact (pR Q0h)); (case aS => exact (below_size (pH HB))); (case aL => have := LMc41.out; omega); intro v118 w51 ho hb hg hat; rw [← Ny117.out] at ho; replace Q09 := Aside0.mk (Kd.R_after (ok := (fun k_ => some k_ ≠ (.slice Q0l t110.length Q0g : Value).ownBlock)) (pR Q09) hg hat); replace Q0f := Aside0.mk (Kd.R_after (ok := (fun k_ => some k_ ≠ (.slice (some ad116) t107.length Q0e : Value).ownBlock)) (pR Q0f) hg hat); replace Q00 := Aside0.mk (bG (g := Q07) (o := .cells #[.slice (some ad115) l0_0.length c0_0, .slice A0_1 l0_1.length c0_1] 25 (0, 0)) (pB Q00) hg (Kd.R_ne Q0h.out Q00.out (by decide))); replace Q01 := Aside0.mk (bG (g := Q0a) (o := .cells #[.slice none 0 0, .slice none 0 0] 25 (0, 0)) (pB Q01) hg (Kd.R_ne Q0h.out Q01.out (by decide))); replace Q02 := Aside0.mk (bG (g := Q0b) (o := .cells #[.slice none 0 0, .slice none 0 0] 29 (0, 0)) (pB Q02) hg (Kd.R_ne Q0h.out Q02.out (by decide))); replace Q04 := Aside0.mk (bG (g := Q0c) (o := .cells #[.slice (some ad116) t107.length Q0e, .slice Q0l t110.length Q0g] 29 (0, 0)) (pB Q04) hg (Kd.R_ne Q0h.out Q04.out (by decide))); replace Q06 := Aside0.mk (bG (g := Q0k) (o := .cells #[u115000, .slice none 0 0] 25 (0, 0)) (pB Q06) hg (Kd.R_ne Q0h.out Q06.out (by decide))); replace HB := Aside0.mk (hb); have Q38 := Aside0.mk (ho); clear Q0h; clear ho hb hg hat; obtain ⟨Q24, Q25, Q3r⟩ := Kd.R_slice Q38.out; subst Q3r; have Q39 : w51.cell? ⟨Q0k, 0, none⟩ = some (u115000) := (blk_cell Q06.out 0).trans rfl; have Q3a : w51.cell? ⟨Q0k, 1, none⟩ = some (.slice none 0 0) := (blk_cell Q06.out 1).trans rfl; have Q3b := blk_frozen Q06.out 0; have Q3c := blk_frozen Q06.out 1))
            go_roundg k1
            case measure => have := HK1.out; omega
            case rel => exact ⟨(wrap64 (x60_1 + 1)), (y117), (.slice Q24 y117.length Q25), rS, H', ⟨by have := HK1.out; omega⟩, ⟨by (with_reducible repeat (first | apply rA | apply rN | apply rD)); exact Kd.R_mono (Kd.R_far (p := ⟨Q0k, 0, none⟩) (Kd.R_types Q09.out Q06.out (by decide)) (fun _ hk => hk.2) (.slice Q24 y117.length Q25)) (fun _ hk => ⟨hk.1.1, hk.1.2⟩)⟩, ⟨by (with_reducible repeat (first | apply rA | apply rN | apply rD)); exact Kd.R_mono (Kd.R_far (p := ⟨Q0k, 0, none⟩) (Kd.R_types Q0f.out Q06.out (by decide)) (fun _ hk => hk.2) (.slice Q24 y117.length Q25)) (fun _ hk => ⟨hk.1.1, hk.1.2⟩)⟩, ⟨by (with_reducible repeat (first | apply rA | apply rN | apply rD)); exact Kd.R_mono (Kd.R_far (p := ⟨Q0k, 0, none⟩) (Kd.R_types Q38.out Q06.out (by decide)) (fun _ hk => hk.2) (.slice Q24 y117.length Q25)) (fun _ hk => ⟨hk.1.1, hk.1.2⟩)⟩, ⟨by (with_reducible repeat (first | refine bN ?_ _ | refine bD ?_ | refine bA ?_ _)); refine blk_far ?_ Q1q.out _; (with_reducible repeat (first | refine bN ?_ _ | refine bD ?_ | refine bA ?_ _)); exact Q00.out⟩, ⟨by (with_reducible repeat (first | refine bN ?_ _ | refine bD ?_ | refine bA ?_ _)); refine blk_far ?_ Q1i.out _; (with_reducible repeat (first | refine bN ?_ _ | refine bD ?_ | refine bA ?_ _)); exact Q01.out⟩, ⟨by (with_reducible repeat (first | refine bN ?_ _ | refine bD ?_ | refine bA ?_ _)); refine blk_far ?_ Q1j.out _; (with_reducible repeat (first | refine bN ?_ _ | refine bD ?_ | refine bA ?_ _)); exact Q02.out⟩, ⟨by (with_reducible repeat (first | refine bN ?_ _ | refine bD ?_ | refine bA ?_ _)); refine blk_far ?_ Q1k.out _; (with_reducible repeat (first | refine bN ?_ _ | refine bD ?_ | refine bA ?_ _)); exact Q04.out⟩, ⟨by (with_reducible repeat (first | refine bN ?_ _ | refine bD ?_ | refine bA ?_ _)); refine blk_put (cs := #[u115000, .slice none 0 0]) ?_ 0 _ rfl; (with_reducible repeat (first | refine bN ?_ _ | refine bD ?_ | refine bA ?_ _)); exact Q06.out⟩, ⟨pH HB⟩⟩
           ·rw [if_neg c41] at H
            exact absurd H (by simp)
          ·rw [if_neg c40] at H
           have c40b0 : decide (0 ≤ (rd t107 x60_1)) = false := decide_eq_false c40
           clear c40
           have H' := Aside0.mk H
           clear H
           have p115 : 0 ≤ (x60_1 : Int) := oT
           have q115 : x60_1 < (l0_0.length : Int) := oT
           obtain ⟨ad115, e115, hx115_0⟩ := Kd.at_int HR0_0.out x60_1 p115 q115
           cases e115
           replace hx115_0 := (HB.out.cell (World.block_lt_of_cell? w _ hx115_0)).trans hx115_0
           replace p115 := eq_true p115
           replace q115 := eq_true q115
           have Q5u := Q0x.out
           have Q5v := Q0n.out
           have Q5w := Q0t.out
           have Q5x := Q0q.out
           have Q5y := Q0u.out
           have Q5z := Q0r.out
           have Q60 := Q1k.out
           have Q61 := Q20.out
           have Q3d : wr.cell? ⟨Q0c, 0, none⟩ = some (.slice Q0j t107.length Q0e) := (blk_cell Q04.out 0).trans rfl
           have Q3e : wr.cell? ⟨Q0c, 1, none⟩ = some (.slice Q0l t110.length Q0g) := (blk_cell Q04.out 1).trans rfl
           have Q3f := blk_frozen Q04.out 0
           have Q3g := blk_frozen Q04.out 1
           have p116 : 0 ≤ (x60_1 : Int) := oT
           have q116 : x60_1 < (t107.length : Int) := oT
           obtain ⟨ad116, e116, hx116_0⟩ := Kd.at_int (Kd.R_reads' Q09.out).2.2 x60_1 p116 q116
           cases e116
           replace p116 := eq_true p116
           replace q116 := eq_true q116
           go_wp2
           go_roundg k1
           case measure => have := HK1.out; omega
           case rel => exact ⟨(wrap64 (x60_1 + 1)), (x115000_1), (u115000), rS, H', ⟨by have := HK1.out; omega⟩, ⟨pR Q09⟩, ⟨pR Q0f⟩, ⟨pR Q0h⟩, ⟨pB Q00⟩, ⟨pB Q01⟩, ⟨pB Q02⟩, ⟨pB Q04⟩, ⟨pB Q06⟩, ⟨pH HB⟩⟩
         ·rw [if_neg c39] at H
          exact absurd H (by simp)
        ·rw [if_neg c38] at H
         exact absurd H (by simp)
       ·rw [if_neg c37] at H
        exact absurd H (by simp)
      ·rw [if_neg c36] at H
       have c36b0 : decide (x60_1 < (l0_0.length : Int)) = false := decide_eq_false c36
       clear c36
       have H' := Aside0.mk H
       clear H
       have Q62 := Q12.out
       have Q63 := Q13.out
       have Q64 := Q14.out
       have Q65 := Q15.out
       have Q66 := Q0n.out
       have Q67 := Q0x.out
       have Q68 := Q1q.out
       have Q69 := Q23.out
       have Q3h : wr.cell? ⟨Q07, 0, none⟩ = some (.slice A0_0 l0_0.length c0_0) := (blk_cell Q00.out 0).trans rfl
       have Q3i : wr.cell? ⟨Q07, 1, none⟩ = some (.slice A0_1 l0_1.length c0_1) := (blk_cell Q00.out 1).trans rfl
       have Q3j := blk_frozen Q00.out 0
       have Q3k := blk_frozen Q00.out 1
       go_wp2
       go_loopg [81] k1 (fun kq v81 w' => ∃ (x81_2 : Int) (x115001_2 : List (S38)) (u115001 : Value), v81 = .int .i64 x81_2 ∧ Aside0 (graph_Remove.l1 kq l0_1 (l0_1.length : Int) x81_2 t107 t110 x115000_1 x115001_2 = some (r1, r2, r3, r4, r5)) ∧ Aside0 (kq ≤ k1) ∧ Aside0 (Kd.R (Kd.int .i64) 3 w' w.heap.size (fun k_ => some k_ ≠ ((.slice Q0l t110.length Q0g) : Value).ownBlock ∧ some k_ ≠ (u115000 : Value).ownBlock) (.slice Q0j t107.length Q0e) t107) ∧ Aside0 (Kd.R (Kd.int .i64) 3 w' w.heap.size (fun k_ => some k_ ≠ ((.slice Q0j t107.length Q0e) : Value).ownBlock ∧ some k_ ≠ (u115000 : Value).ownBlock) (.slice Q0l t110.length Q0g) t110) ∧ Aside0 (Kd.R (Kd.int .i64) 3 w' w.heap.size (fun k_ => some k_ ≠ ((.slice Q0j t107.length Q0e) : Value).ownBlock ∧ some k_ ≠ ((.slice Q0l t110.length Q0g) : Value).ownBlock) u115000 x115000_1) ∧ Aside0 (Kd.R k38 38 w' w.heap.size (fun _ => True) u115001 x115001_2) ∧ Aside0 (w'.heap[Q07]? = some (.cells #[(.slice A0_0 l0_0.length c0_0), (.slice A0_1 l0_1.length c0_1)] 25 (0, 0))) ∧ Aside0 (w'.heap[Q0a]? = some (.cells #[(.slice none 0 0), (.slice none 0 0)] 25 (0, 0))) ∧ Aside0 (w'.heap[Q0b]? = some (.cells #[(.slice none 0 0), (.slice none 0 0)] 29 (0, 0))) ∧ Aside0 (w'.heap[Q0c]? = some (.cells #[(.slice Q0j t107.length Q0e), (.slice Q0l t110.length Q0g)] 29 (0, 0))) ∧ Aside0 (w'.heap[Q0k]? = some (.cells #[u115000, u115001] 25 (0, 0))) ∧ Aside0 (Below w.heap.size w w'))
       case atStart => exact ⟨(0), (([] : List (S38))), (.slice none 0 0), rS, H', ⟨Nat.le_refl _⟩, ⟨pR Q09⟩, ⟨pR Q0f⟩, ⟨pR Q0h⟩, ⟨by first | exact Kd.R_nil _ _ _ _ _ | exact Kd.N_nil _ _ _ _ _ | exact Kd.V_nil _ _ _ _ _ | exact Kd.Q_nil _ _ _ _ _ | exact Kd.S_nil _ _ _ _ _⟩, ⟨pB Q00⟩, ⟨pB Q01⟩, ⟨pB Q02⟩, ⟨pB Q04⟩, ⟨pB Q06⟩, ⟨pH HB⟩⟩
       case round =>
        clear H'
        try clear c1; try clear p1; try clear q1; try clear hx1; try clear c2; try clear p2; try clear c3; try clear c4; try clear c5; try clear c5b0; try clear c5b1; try clear c6; try clear p6; try clear c7; try clear c7b0; try clear c7b1; try clear c9; try clear c9b0; try clear c9b1; try clear c12; try clear p12; try clear q12; try clear hx12; try clear c15; try clear c16; try clear c26; try clear c33; try clear c34; try clear c36; try clear c36b0; try clear c37; try clear c37b0; try clear c38; try clear c38b0; try clear c39; try clear c39b0; try clear c40; try clear c40b0; try clear c41; try clear c42; try clear c43; try clear c44; try clear c45; try clear c47; try clear c48; try clear c49; try clear c54; try clear c55; try clear c56; try clear c57; try clear c59; try clear c60; try clear c61; try clear c62; try clear Q2c; try clear Q2d; try clear Q2g; try clear Q2h; try clear Q2k; try clear Q2l; try clear Q2q; try clear Q2r; try clear Q30; try clear Q31; try clear Q34; try clear Q35; try clear Q39; try clear Q3a; try clear Q3d; try clear Q3e; try clear Q3h; try clear Q3i; try clear Q2e; try clear Q2f; try clear Q2i; try clear Q2j; try clear Q2m; try clear Q2n; try clear Q2s; try clear Q2t; try clear Q32; try clear Q33; try clear Q36; try clear Q37; try clear Q3b; try clear Q3c; try clear Q3f; try clear Q3g; try clear Q3j; try clear Q3k; try clear hx115_0; try clear hx116_0; try clear p115; try clear p116; try clear p2; try clear q115; try clear q116
        obtain ⟨x81_2, x115001_2, u115001, rfl, HA, HK2, Q09, Q0f, Q0h, Q0i, Q00, Q01, Q02, Q04, Q06, HB⟩ := hrel
        cases gk with
        | zero => exact absurd HA.out (by simp [graph_Remove.l1])
        | succ k2 =>
         have H := HA.out
         clear HA
         simp only [graph_Remove.l1] at H
         by_cases c64 : x81_2 < (l0_1.length : Int)
         ·rw [if_pos c64] at H
          have c64b0 : decide (x81_2 < (l0_1.length : Int)) = true := decide_eq_true c64
          clear c64
          by_cases c65 : 0 ≤ x81_2
          ·rw [if_pos c65] at H
           have c65b0 : decide (0 ≤ x81_2) = true := decide_eq_true c65
           clear c65
           by_cases c66 : x81_2 < (l0_1.length : Int)
           ·rw [if_pos c66] at H
            have c66b0 : decide (x81_2 < (l0_1.length : Int)) = true := decide_eq_true c66
            clear c66
            by_cases c67 : x81_2 < (t110.length : Int)
            ·rw [if_pos c67] at H
             have c67b0 : decide (x81_2 < (t110.length : Int)) = true := decide_eq_true c67
             clear c67
             by_cases c68 : (rd t110 x81_2) < 0
             ·rw [if_pos c68] at H
              have c68b0 : decide ((rd t110 x81_2) < 0) = true := decide_eq_true c68
              clear c68
              have H' := Aside0.mk H
              clear H
              have p120 : 0 ≤ (x81_2 : Int) := oT
              have q120 : x81_2 < (l0_1.length : Int) := oT
              obtain ⟨ad120, e120, hx120_0, hx120_1, hx120_2⟩ := at_T38 HR0_1.out x81_2 p120 q120
              cases e120
              replace hx120_0 := (HB.out.cell (World.block_lt_of_cell? w _ hx120_0)).trans hx120_0
              replace hx120_1 := (HB.out.cell (World.block_lt_of_cell? w _ hx120_1)).trans hx120_1
              replace hx120_2 := (HB.out.cell (World.block_lt_of_cell? w _ hx120_2)).trans hx120_2
              replace p120 := eq_true p120
              replace q120 := eq_true q120
              go_wp2_with (first | ((with_reducible refine gate_dst (N := 17) rfl ?_); refine box_event ?hg (N := 17) ?hd (cs := #[.int .i64 0, .int .i64 0, .int .i64 0]) (t := 38) ?hr ?_; (case hd => rfl); (case hg => rfl); (case hr => first | (go_simp; done) | (go_simp; rfl)); intro Q03 hg w69 hbox hb; replace Q09 := uR Q09 hb; replace Q0f := uR Q0f hb; replace Q0h := uR Q0h hb; replace Q0i := gR Q0i Q03 hg hb; have Q0d := Aside0.mk (hbox); have Q3s := uS HB hg; have Q3l := uS HB hg; replace HB := uH HB hb; have Q1b := uL Q00 hg; have Q2u := uG Q00 hg; replace Q00 := uB Q00 hb; have Q16 := uL Q01 hg; have Q26 := uG Q01 hg; replace Q01 := uB Q01 hb; have Q17 := uL Q02 hg; have Q27 := uG Q02 hg; replace Q02 := uB Q02 hb; have Q1c := uL Q04 hg; have Q2v := uG Q04 hg; replace Q04 := uB Q04 hb; have Q18 := uL Q06 hg; have Q28 := uG Q06 hg; replace Q06 := uB Q06 hb; clear hb hbox hg; have Q6a := Q2u.out; have Q6b := Q1b.out; have Q6c := Q26.out; have Q6d := Q16.out; have Q6e := Q27.out; have Q6f := Q17.out; have Q6g := Q2v.out; have Q6h := Q1c.out; have Q6i := Q28.out; have Q6j := Q18.out; have Q3t : w69.cell? ⟨Q03, 0, none⟩ = some (.int .i64 0) := (blk_cell Q0d.out 0).trans rfl; have Q3u : w69.cell? ⟨Q03, 1, none⟩ = some (.int .i64 0) := (blk_cell Q0d.out 1).trans rfl; have Q3v : w69.cell? ⟨Q03, 2, none⟩ = some (.int .i64 0) := (blk_cell Q0d.out 2).trans rfl; have Q3w := blk_frozen Q0d.out 0; have Q3x := blk_frozen Q0d.out 1; have Q3y := blk_frozen Q0d.out 2; have Q6k := Q0x.out; have Q6l := Q0n.out; have Q6m := Q0t.out; have Q6n := Q0q.out; have Q6o := Q0u.out; have Q6p := Q0r.out; have Q6q := Q1k.out; have Q6r := Q20.out; have Q3z : w69.cell? ⟨Q0c, 0, none⟩ = some (.slice Q0j t107.length Q0e) := (blk_cell Q04.out 0).trans rfl; have Q40 : w69.cell? ⟨Q0c, 1, none⟩ = some (.slice Q0l t110.length Q0g) := (blk_cell Q04.out 1).trans rfl; have Q41 := blk_frozen Q04.out 0; have Q42 := blk_frozen Q04.out 1; have p122 : 0 ≤ (x81_2 : Int) := oT; have q122 : x81_2 < (t110.length : Int) := oT; obtain ⟨ad122, e122, hx122_0⟩ := Kd.at_int (Kd.R_reads' Q0f.out).2.2 x81_2 p122 q122; cases e122; have hn122_0 : ad122.block ≠ Q03 := Kd.own_blk (Kd.R_ne Q0f.out Q0d.out (by decide)); have hn122_1 : ad122.block ≠ Q03 := Kd.own_blk (Kd.R_ne Q0f.out Q0d.out (by decide)); have hn122_2 : ad122.block ≠ Q03 := Kd.own_blk (Kd.R_ne Q0f.out Q0d.out (by decide)); replace hx122_0 := (cell_far (p := ⟨Q03, 0, none⟩) (by first | (rw [add_block]; exact hn122_0) | (show (Addr.add _ _).block ≠ _; rw [add_block]; exact hn122_0) | exact hn122_0) (.int .i64 ((rd_T38 l0_1 x81_2).f0))).trans hx122_0; replace hx122_0 := (cell_far (p := ⟨Q03, 1, none⟩) (by first | (rw [add_block]; exact hn122_1) | (show (Addr.add _ _).block ≠ _; rw [add_block]; exact hn122_1) | exact hn122_1) (.int .i64 ((rd_T38 l0_1 x81_2).f1))).trans hx122_0; replace hx122_0 := (cell_far (p := ⟨Q03, 2, none⟩) (by first | (rw [add_block]; exact hn122_2) | (show (Addr.add _ _).block ≠ _; rw [add_block]; exact hn122_2) | exact hn122_2) (.int .i64 ((rd_T38 l0_1 x81_2).f2))).trans hx122_0; clear hn122_0; clear hn122_1; clear hn122_2; replace p122 := eq_true p122; replace q122 := eq_true q122))
              go_roundg k2
              case measure => have := HK1.out; have := HK2.out; omega
              case rel => exact ⟨(wrap64 (x81_2 + 1)), (x115001_2), (u115001), rS, H', ⟨by have := HK1.out; have := HK2.out; omega⟩, ⟨by (with_reducible repeat (first | apply rA | apply rN | apply rD)); exact Kd.R_mono (Kd.R_far (p := ⟨Q03, 2, none⟩) (Kd.R_far (p := ⟨Q03, 1, none⟩) (Kd.R_far (p := ⟨Q03, 0, none⟩) (Kd.R_types Q09.out Q0d.out (by decide)) (fun _ hk => hk.2) (.int .i64 ((rd_T38 l0_1 x81_2).f0))) (fun _ hk => hk.2) (.int .i64 ((rd_T38 l0_1 x81_2).f1))) (fun _ hk => hk.2) (.int .i64 ((rd_T38 l0_1 x81_2).f2))) (fun _ hk => ⟨hk.1.1, hk.1.2⟩)⟩, ⟨by (with_reducible repeat (first | apply rA | apply rN | apply rD)); exact Kd.R_mono (Kd.R_far (p := ⟨Q03, 2, none⟩) (Kd.R_far (p := ⟨Q03, 1, none⟩) (Kd.R_far (p := ⟨Q03, 0, none⟩) (Kd.R_types Q0f.out Q0d.out (by decide)) (fun _ hk => hk.2) (.int .i64 ((rd_T38 l0_1 x81_2).f0))) (fun _ hk => hk.2) (.int .i64 ((rd_T38 l0_1 x81_2).f1))) (fun _ hk => hk.2) (.int .i64 ((rd_T38 l0_1 x81_2).f2))) (fun _ hk => ⟨hk.1.1, hk.1.2⟩)⟩, ⟨by (with_reducible repeat (first | apply rA | apply rN | apply rD)); exact Kd.R_mono (Kd.R_far (p := ⟨Q03, 2, none⟩) (Kd.R_far (p := ⟨Q03, 1, none⟩) (Kd.R_far (p := ⟨Q03, 0, none⟩) (Kd.R_types Q0h.out Q0d.out (by decide)) (fun _ hk => hk.2) (.int .i64 ((rd_T38 l0_1 x81_2).f0))) (fun _ hk => hk.2) (.int .i64 ((rd_T38 l0_1 x81_2).f1))) (fun _ hk => hk.2) (.int .i64 ((rd_T38 l0_1 x81_2).f2))) (fun _ hk => ⟨hk.1.1, hk.1.2⟩)⟩, ⟨by (with_reducible repeat (first | apply rA | apply rN | apply rD)); exact Kd.R_mono (Kd.R_far (p := ⟨Q03, 2, none⟩) (Kd.R_far (p := ⟨Q03, 1, none⟩) (Kd.R_far (p := ⟨Q03, 0, none⟩) (Kd.R_mono Q0i.out (fun k_ hk => (⟨hk, hk.2⟩ : _ ∧ k_ ≠ Q03))) (fun _ hk => hk.2) (.int .i64 ((rd_T38 l0_1 x81_2).f0))) (fun _ hk => hk.2) (.int .i64 ((rd_T38 l0_1 x81_2).f1))) (fun _ hk => hk.2) (.int .i64 ((rd_T38 l0_1 x81_2).f2))) (fun _ hk => trivial)⟩, ⟨by (with_reducible repeat (first | refine bN ?_ _ | refine bD ?_ | refine bA ?_ _)); refine blk_far ?_ Q1b.out _; (with_reducible repeat (first | refine bN ?_ _ | refine bD ?_ | refine bA ?_ _)); refine blk_far ?_ Q1b.out _; (with_reducible repeat (first | refine bN ?_ _ | refine bD ?_ | refine bA ?_ _)); refine blk_far ?_ Q1b.out _; (with_reducible repeat (first | refine bN ?_ _ | refine bD ?_ | refine bA ?_ _)); exact Q00.out⟩, ⟨by (with_reducible repeat (first | refine bN ?_ _ | refine bD ?_ | refine bA ?_ _)); refine blk_far ?_ Q16.out _; (with_reducible repeat (first | refine bN ?_ _ | refine bD ?_ | refine bA ?_ _)); refine blk_far ?_ Q16.out _; (with_reducible repeat (first | refine bN ?_ _ | refine bD ?_ | refine bA ?_ _)); refine blk_far ?_ Q16.out _; (with_reducible repeat (first | refine bN ?_ _ | refine bD ?_ | refine bA ?_ _)); exact Q01.out⟩, ⟨by (with_reducible repeat (first | refine bN ?_ _ | refine bD ?_ | refine bA ?_ _)); refine blk_far ?_ Q17.out _; (with_reducible repeat (first | refine bN ?_ _ | refine bD ?_ | refine bA ?_ _)); refine blk_far ?_ Q17.out _; (with_reducible repeat (first | refine bN ?_ _ | refine bD ?_ | refine bA ?_ _)); refine blk_far ?_ Q17.out _; (with_reducible repeat (first | refine bN ?_ _ | refine bD ?_ | refine bA ?_ _)); exact Q02.out⟩, ⟨by (with_reducible repeat (first | refine bN ?_ _ | refine bD ?_ | refine bA ?_ _)); refine blk_far ?_ Q1c.out _; (with_reducible repeat (first | refine bN ?_ _ | refine bD ?_ | refine bA ?_ _)); refine blk_far ?_ Q1c.out _; (with_reducible repeat (first | refine bN ?_ _ | refine bD ?_ | refine bA ?_ _)); refine blk_far ?_ Q1c.out _; (with_reducible repeat (first | refine bN ?_ _ | refine bD ?_ | refine bA ?_ _)); exact Q04.out⟩, ⟨by (with_reducible repeat (first | refine bN ?_ _ | refine bD ?_ | refine bA ?_ _)); refine blk_far ?_ Q18.out _; (with_reducible repeat (first | refine bN ?_ _ | refine bD ?_ | refine bA ?_ _)); refine blk_far ?_ Q18.out _; (with_reducible repeat (first | refine bN ?_ _ | refine bD ?_ | refine bA ?_ _)); refine blk_far ?_ Q18.out _; (with_reducible repeat (first | refine bN ?_ _ | refine bD ?_ | refine bA ?_ _)); exact Q06.out⟩, ⟨pH HB⟩⟩
             ·rw [if_neg c68] at H
              have c68b0 : decide ((rd t110 x81_2) < 0) = false := decide_eq_false c68
              clear c68
              by_cases c81 : 0 ≤ ((rd_T38 l0_1 x81_2).f1)
              ·rw [if_pos c81] at H
               have c81b0 : decide (0 ≤ ((rd_T38 l0_1 x81_2).f1)) = true := decide_eq_true c81
               clear c81
               by_cases c82 : ((rd_T38 l0_1 x81_2).f1) < (t107.length : Int)
               ·rw [if_pos c82] at H
                have c82b0 : decide (((rd_T38 l0_1 x81_2).f1) < (t107.length : Int)) = true := decide_eq_true c82
                clear c82
                by_cases c83 : 0 ≤ ((rd_T38 l0_1 x81_2).f2)
                ·rw [if_pos c83] at H
                 have c83b0 : decide (0 ≤ ((rd_T38 l0_1 x81_2).f2)) = true := decide_eq_true c83
                 clear c83
                 by_cases c84 : ((rd_T38 l0_1 x81_2).f2) < (t107.length : Int)
                 ·rw [if_pos c84] at H
                  have c84b0 : decide (((rd_T38 l0_1 x81_2).f2) < (t107.length : Int)) = true := decide_eq_true c84
                  clear c84
                  have HC85 := Aside0.mk H
                  clear H
                  have p120 : 0 ≤ (x81_2 : Int) := oT
                  have q120 : x81_2 < (l0_1.length : Int) := oT
                  obtain ⟨ad120, e120, hx120_0, hx120_1, hx120_2⟩ := at_T38 HR0_1.out x81_2 p120 q120
                  cases e120
                  replace hx120_0 := (HB.out.cell (World.block_lt_of_cell? w _ hx120_0)).trans hx120_0
                  replace hx120_1 := (HB.out.cell (World.block_lt_of_cell? w _ hx120_1)).trans hx120_1
                  replace hx120_2 := (HB.out.cell (World.block_lt_of_cell? w _ hx120_2)).trans hx120_2
                  replace p120 := eq_true p120
                  replace q120 := eq_true q120
                  try go_wp2_with (first | ((with_reducible refine gate_dst (N := 17) rfl ?_); refine box_event ?hg (N := 17) ?hd (cs := #[.int .i64 0, .int .i64 0, .int .i64 0]) (t := 38) ?hr ?_; (case hd => rfl); (case hg => rfl); (case hr => first | (go_simp; done) | (go_simp; rfl)); intro Q03 hg w86 hbox hb; replace Q09 := uR Q09 hb; replace Q0f := uR Q0f hb; replace Q0h := uR Q0h hb; replace Q0i := gR Q0i Q03 hg hb; have Q0d := Aside0.mk (hbox); have Q3s := uS HB hg; have Q3l := uS HB hg; replace HB := uH HB hb; have Q1b := uL Q00 hg; have Q2u := uG Q00 hg; replace Q00 := uB Q00 hb; have Q16 := uL Q01 hg; have Q26 := uG Q01 hg; replace Q01 := uB Q01 hb; have Q17 := uL Q02 hg; have Q27 := uG Q02 hg; replace Q02 := uB Q02 hb; have Q1c := uL Q04 hg; have Q2v := uG Q04 hg; replace Q04 := uB Q04 hb; have Q18 := uL Q06 hg; have Q28 := uG Q06 hg; replace Q06 := uB Q06 hb; clear hb hbox hg; have Q6s := Q2u.out; have Q6t := Q1b.out; have Q6u := Q26.out; have Q6v := Q16.out; have Q6w := Q27.out; have Q6x := Q17.out; have Q6y := Q2v.out; have Q6z := Q1c.out; have Q70 := Q28.out; have Q71 := Q18.out; have Q43 : w86.cell? ⟨Q03, 0, none⟩ = some (.int .i64 0) := (blk_cell Q0d.out 0).trans rfl; have Q44 : w86.cell? ⟨Q03, 1, none⟩ = some (.int .i64 0) := (blk_cell Q0d.out 1).trans rfl; have Q45 : w86.cell? ⟨Q03, 2, none⟩ = some (.int .i64 0) := (blk_cell Q0d.out 2).trans rfl; have Q46 := blk_frozen Q0d.out 0; have Q47 := blk_frozen Q0d.out 1; have Q48 := blk_frozen Q0d.out 2; have Q72 := Q0x.out; have Q73 := Q0n.out; have Q74 := Q0t.out; have Q75 := Q0q.out; have Q76 := Q0u.out; have Q77 := Q0r.out; have Q78 := Q1k.out; have Q79 := Q20.out; have Q49 : w86.cell? ⟨Q0c, 0, none⟩ = some (.slice Q0j t107.length Q0e) := (blk_cell Q04.out 0).trans rfl; have Q4a : w86.cell? ⟨Q0c, 1, none⟩ = some (.slice Q0l t110.length Q0g) := (blk_cell Q04.out 1).trans rfl; have Q4b := blk_frozen Q04.out 0; have Q4c := blk_frozen Q04.out 1; have p122 : 0 ≤ (x81_2 : Int) := oT; have q122 : x81_2 < (t110.length : Int) := oT; obtain ⟨ad122, e122, hx122_0⟩ := Kd.at_int (Kd.R_reads' Q0f.out).2.2 x81_2 p122 q122; cases e122; have hn122_0 : ad122.block ≠ Q03 := Kd.own_blk (Kd.R_ne Q0f.out Q0d.out (by decide)); have hn122_1 : ad122.block ≠ Q03 := Kd.own_blk (Kd.R_ne Q0f.out Q0d.out (by decide)); have hn122_2 : ad122.block ≠ Q03 := Kd.own_blk (Kd.R_ne Q0f.out Q0d.out (by decide)); replace hx122_0 := (cell_far (p := ⟨Q03, 0, none⟩) (by first | (rw [add_block]; exact hn122_0) | (show (Addr.add _ _).block ≠ _; rw [add_block]; exact hn122_0) | exact hn122_0) (.int .i64 ((rd_T38 l0_1 x81_2).f0))).trans hx122_0; replace hx122_0 := (cell_far (p := ⟨Q03, 1, none⟩) (by first | (rw [add_block]; exact hn122_1) | (show (Addr.add _ _).block ≠ _; rw [add_block]; exact hn122_1) | exact hn122_1) (.int .i64 ((rd_T38 l0_1 x81_2).f1))).trans hx122_0; replace hx122_0 := (cell_far (p := ⟨Q03, 2, none⟩) (by first | (rw [add_block]; exact hn122_2) | (show (Addr.add _ _).block ≠ _; rw [add_block]; exact hn122_2) | exact hn122_2) (.int .i64 ((rd_T38 l0_1 x81_2).f2))).trans hx122_0; clear hn122_0; clear hn122_1; clear hn122_2; replace p122 := eq_true p122; replace q122 := eq_true q122))
                  have n0_ : Aside0 (Kd.R (Kd.int .i64) 3 (((w86.setCell ⟨Q03, 0, none⟩ (.int .i64 ((rd_T38 l0_1 x81_2).f0))).setCell ⟨Q03, 1, none⟩ (.int .i64 ((rd_T38 l0_1 x81_2).f1))).setCell ⟨Q03, 2, none⟩ (.int .i64 ((rd_T38 l0_1 x81_2).f2))) w.heap.size (fun k_ => some k_ ≠ (.slice (some ad122) t110.length Q0g : Value).ownBlock ∧ some k_ ≠ (u115000 : Value).ownBlock) (.slice Q0j t107.length Q0e) t107) := ⟨by (with_reducible repeat (first | apply rA | apply rN | apply rD)); exact Kd.R_mono (Kd.R_far (p := ⟨Q03, 2, none⟩) (Kd.R_far (p := ⟨Q03, 1, none⟩) (Kd.R_far (p := ⟨Q03, 0, none⟩) (Kd.R_types Q09.out Q0d.out (by decide)) (fun _ hk => hk.2) (.int .i64 ((rd_T38 l0_1 x81_2).f0))) (fun _ hk => hk.2) (.int .i64 ((rd_T38 l0_1 x81_2).f1))) (fun _ hk => hk.2) (.int .i64 ((rd_T38 l0_1 x81_2).f2))) (fun _ hk => ⟨hk.1.1, hk.1.2⟩)⟩
                  have n1_ : Aside0 (Kd.R (Kd.int .i64) 3 (((w86.setCell ⟨Q03, 0, none⟩ (.int .i64 ((rd_T38 l0_1 x81_2).f0))).setCell ⟨Q03, 1, none⟩ (.int .i64 ((rd_T38 l0_1 x81_2).f1))).setCell ⟨Q03, 2, none⟩ (.int .i64 ((rd_T38 l0_1 x81_2).f2))) w.heap.size (fun k_ => some k_ ≠ (.slice Q0j t107.length Q0e : Value).ownBlock ∧ some k_ ≠ (u115000 : Value).ownBlock) (.slice (some ad122) t110.length Q0g) t110) := ⟨by (with_reducible repeat (first | apply rA | apply rN | apply rD)); exact Kd.R_mono (Kd.R_far (p := ⟨Q03, 2, none⟩) (Kd.R_far (p := ⟨Q03, 1, none⟩) (Kd.R_far (p := ⟨Q03, 0, none⟩) (Kd.R_types Q0f.out Q0d.out (by decide)) (fun _ hk => hk.2) (.int .i64 ((rd_T38 l0_1 x81_2).f0))) (fun _ hk => hk.2) (.int .i64 ((rd_T38 l0_1 x81_2).f1))) (fun _ hk => hk.2) (.int .i64 ((rd_T38 l0_1 x81_2).f2))) (fun _ hk => ⟨hk.1.1, hk.1.2⟩)⟩
                  have n2_ : Aside0 (Kd.R (Kd.int .i64) 3 (((w86.setCell ⟨Q03, 0, none⟩ (.int .i64 ((rd_T38 l0_1 x81_2).f0))).setCell ⟨Q03, 1, none⟩ (.int .i64 ((rd_T38 l0_1 x81_2).f1))).setCell ⟨Q03, 2, none⟩ (.int .i64 ((rd_T38 l0_1 x81_2).f2))) w.heap.size (fun k_ => some k_ ≠ (.slice Q0j t107.length Q0e : Value).ownBlock ∧ some k_ ≠ (.slice (some ad122) t110.length Q0g : Value).ownBlock) u115000 x115000_1) := ⟨by (with_reducible repeat (first | apply rA | apply rN | apply rD)); exact Kd.R_mono (Kd.R_far (p := ⟨Q03, 2, none⟩) (Kd.R_far (p := ⟨Q03, 1, none⟩) (Kd.R_far (p := ⟨Q03, 0, none⟩) (Kd.R_types Q0h.out Q0d.out (by decide)) (fun _ hk => hk.2) (.int .i64 ((rd_T38 l0_1 x81_2).f0))) (fun _ hk => hk.2) (.int .i64 ((rd_T38 l0_1 x81_2).f1))) (fun _ hk => hk.2) (.int .i64 ((rd_T38 l0_1 x81_2).f2))) (fun _ hk => ⟨hk.1.1, hk.1.2⟩)⟩
                  have n3_ : Aside0 (Kd.R k38 38 (((w86.setCell ⟨Q03, 0, none⟩ (.int .i64 ((rd_T38 l0_1 x81_2).f0))).setCell ⟨Q03, 1, none⟩ (.int .i64 ((rd_T38 l0_1 x81_2).f1))).setCell ⟨Q03, 2, none⟩ (.int .i64 ((rd_T38 l0_1 x81_2).f2))) w.heap.size (fun k_ => k_ ≠ Q03) u115001 x115001_2) := ⟨by (with_reducible repeat (first | apply rA | apply rN | apply rD)); exact Kd.R_mono (Kd.R_far (p := ⟨Q03, 2, none⟩) (Kd.R_far (p := ⟨Q03, 1, none⟩) (Kd.R_far (p := ⟨Q03, 0, none⟩) (Kd.R_mono Q0i.out (fun k_ hk => (⟨hk, hk.2⟩ : _ ∧ k_ ≠ Q03))) (fun _ hk => hk.2) (.int .i64 ((rd_T38 l0_1 x81_2).f0))) (fun _ hk => hk.2) (.int .i64 ((rd_T38 l0_1 x81_2).f1))) (fun _ hk => hk.2) (.int .i64 ((rd_T38 l0_1 x81_2).f2))) (fun _ hk => hk.1.2)⟩
                  have n4_ : Aside0 ((((w86.setCell ⟨Q03, 0, none⟩ (.int .i64 ((rd_T38 l0_1 x81_2).f0))).setCell ⟨Q03, 1, none⟩ (.int .i64 ((rd_T38 l0_1 x81_2).f1))).setCell ⟨Q03, 2, none⟩ (.int .i64 ((rd_T38 l0_1 x81_2).f2))).heap[Q07]? = some (.cells #[.slice A0_0 l0_0.length c0_0, .slice (some ad120) l0_1.length c0_1] 25 (0, 0))) := ⟨by (with_reducible repeat (first | refine bN ?_ _ | refine bD ?_ | refine bA ?_ _)); refine blk_far ?_ Q1b.out _; (with_reducible repeat (first | refine bN ?_ _ | refine bD ?_ | refine bA ?_ _)); refine blk_far ?_ Q1b.out _; (with_reducible repeat (first | refine bN ?_ _ | refine bD ?_ | refine bA ?_ _)); refine blk_far ?_ Q1b.out _; (with_reducible repeat (first | refine bN ?_ _ | refine bD ?_ | refine bA ?_ _)); exact Q00.out⟩
                  have n5_ : Aside0 ((((w86.setCell ⟨Q03, 0, none⟩ (.int .i64 ((rd_T38 l0_1 x81_2).f0))).setCell ⟨Q03, 1, none⟩ (.int .i64 ((rd_T38 l0_1 x81_2).f1))).setCell ⟨Q03, 2, none⟩ (.int .i64 ((rd_T38 l0_1 x81_2).f2))).heap[Q0a]? = some (.cells #[.slice none 0 0, .slice none 0 0] 25 (0, 0))) := ⟨by (with_reducible repeat (first | refine bN ?_ _ | refine bD ?_ | refine bA ?_ _)); refine blk_far ?_ Q16.out _; (with_reducible repeat (first | refine bN ?_ _ | refine bD ?_ | refine bA ?_ _)); refine blk_far ?_ Q16.out _; (with_reducible repeat (first | refine bN ?_ _ | refine bD ?_ | refine bA ?_ _)); refine blk_far ?_ Q16.out _; (with_reducible repeat (first | refine bN ?_ _ | refine bD ?_ | refine bA ?_ _)); exact Q01.out⟩
                  have n6_ : Aside0 ((((w86.setCell ⟨Q03, 0, none⟩ (.int .i64 ((rd_T38 l0_1 x81_2).f0))).setCell ⟨Q03, 1, none⟩ (.int .i64 ((rd_T38 l0_1 x81_2).f1))).setCell ⟨Q03, 2, none⟩ (.int .i64 ((rd_T38 l0_1 x81_2).f2))).heap[Q0b]? = some (.cells #[.slice none 0 0, .slice none 0 0] 29 (0, 0))) := ⟨by (with_reducible repeat (first | refine bN ?_ _ | refine bD ?_ | refine bA ?_ _)); refine blk_far ?_ Q17.out _; (with_reducible repeat (first | refine bN ?_ _ | refine bD ?_ | refine bA ?_ _)); refine blk_far ?_ Q17.out _; (with_reducible repeat (first | refine bN ?_ _ | refine bD ?_ | refine bA ?_ _)); refine blk_far ?_ Q17.out _; (with_reducible repeat (first | refine bN ?_ _ | refine bD ?_ | refine bA ?_ _)); exact Q02.out⟩
                  have n7_ : Aside0 ((((w86.setCell ⟨Q03, 0, none⟩ (.int .i64 ((rd_T38 l0_1 x81_2).f0))).setCell ⟨Q03, 1, none⟩ (.int .i64 ((rd_T38 l0_1 x81_2).f1))).setCell ⟨Q03, 2, none⟩ (.int .i64 ((rd_T38 l0_1 x81_2).f2))).heap[Q0c]? = some (.cells #[.slice Q0j t107.length Q0e, .slice (some ad122) t110.length Q0g] 29 (0, 0))) := ⟨by (with_reducible repeat (first | refine bN ?_ _ | refine bD ?_ | refine bA ?_ _)); refine blk_far ?_ Q1c.out _; (with_reducible repeat (first | refine bN ?_ _ | refine bD ?_ | refine bA ?_ _)); refine blk_far ?_ Q1c.out _; (with_reducible repeat (first | refine bN ?_ _ | refine bD ?_ | refine bA ?_ _)); refine blk_far ?_ Q1c.out _; (with_reducible repeat (first | refine bN ?_ _ | refine bD ?_ | refine bA ?_ _)); exact Q04.out⟩
                  have n8_ : Aside0 ((((w86.setCell ⟨Q03, 0, none⟩ (.int .i64 ((rd_T38 l0_1 x81_2).f0))).setCell ⟨Q03, 1, none⟩ (.int .i64 ((rd_T38 l0_1 x81_2).f1))).setCell ⟨Q03, 2, none⟩ (.int .i64 ((rd_T38 l0_1 x81_2).f2))).heap[Q0k]? = some (.cells #[u115000, u115001] 25 (0, 0))) := ⟨by (with_reducible repeat (first | refine bN ?_ _ | refine bD ?_ | refine bA ?_ _)); refine blk_far ?_ Q18.out _; (with_reducible repeat (first | refine bN ?_ _ | refine bD ?_ | refine bA ?_ _)); refine blk_far ?_ Q18.out _; (with_reducible repeat (first | refine bN ?_ _ | refine bD ?_ | refine bA ?_ _)); refine blk_far ?_ Q18.out _; (with_reducible repeat (first | refine bN ?_ _ | refine bD ?_ | refine bA ?_ _)); exact Q06.out⟩
                  have n9_ : Aside0 ((((w86.setCell ⟨Q03, 0, none⟩ (.int .i64 ((rd_T38 l0_1 x81_2).f0))).setCell ⟨Q03, 1, none⟩ (.int .i64 ((rd_T38 l0_1 x81_2).f1))).setCell ⟨Q03, 2, none⟩ (.int .i64 ((rd_T38 l0_1 x81_2).f2))).heap[Q03]? = some (.cells #[.int .i64 ((rd_T38 l0_1 x81_2).f0), .int .i64 ((rd_T38 l0_1 x81_2).f1), .int .i64 ((rd_T38 l0_1 x81_2).f2)] 38 (0, 0))) := ⟨by (with_reducible repeat (first | refine bN ?_ _ | refine bD ?_ | refine bA ?_ _)); refine blk_put (cs := #[.int .i64 ((rd_T38 l0_1 x81_2).f0), .int .i64 ((rd_T38 l0_1 x81_2).f1), .int .i64 0]) ?_ 2 _ rfl; (with_reducible repeat (first | refine bN ?_ _ | refine bD ?_ | refine bA ?_ _)); refine blk_put (cs := #[.int .i64 ((rd_T38 l0_1 x81_2).f0), .int .i64 0, .int .i64 0]) ?_ 1 _ rfl; (with_reducible repeat (first | refine bN ?_ _ | refine bD ?_ | refine bA ?_ _)); refine blk_put (cs := #[.int .i64 0, .int .i64 0, .int .i64 0]) ?_ 0 _ rfl; (with_reducible repeat (first | refine bN ?_ _ | refine bD ?_ | refine bA ?_ _)); exact Q0d.out⟩
                  have n10_ : Aside0 (Below w.heap.size w (((w86.setCell ⟨Q03, 0, none⟩ (.int .i64 ((rd_T38 l0_1 x81_2).f0))).setCell ⟨Q03, 1, none⟩ (.int .i64 ((rd_T38 l0_1 x81_2).f1))).setCell ⟨Q03, 2, none⟩ (.int .i64 ((rd_T38 l0_1 x81_2).f2)))) := ⟨pH HB⟩
                  (try clear Q09)
                  (try clear Q0f)
                  (try clear Q0h)
                  (try clear Q0i)
                  (try clear Q00)
                  (try clear Q01)
                  (try clear Q02)
                  (try clear Q04)
                  (try clear Q06)
                  (try clear Q0d)
                  (try clear HB)
                  generalize (((w86.setCell ⟨Q03, 0, none⟩ (.int .i64 ((rd_T38 l0_1 x81_2).f0))).setCell ⟨Q03, 1, none⟩ (.int .i64 ((rd_T38 l0_1 x81_2).f1))).setCell ⟨Q03, 2, none⟩ (.int .i64 ((rd_T38 l0_1 x81_2).f2))) = w98 at n0_ n1_ n2_ n3_ n4_ n5_ n6_ n7_ n8_ n9_ n10_ ⊢
                  have Q09 := n0_
                  have Q0f := n1_
                  have Q0h := n2_
                  have Q0i := n3_
                  have Q00 := n4_
                  have Q01 := n5_
                  have Q02 := n6_
                  have Q04 := n7_
                  have Q06 := n8_
                  have Q0d := n9_
                  have HB := n10_
                  clear n0_ n1_ n2_ n3_ n4_ n5_ n6_ n7_ n8_ n9_ n10_
                  replace Q09 := Aside0.mk (rD Q09.out)
                  replace Q0f := Aside0.mk (rD Q0f.out)
                  replace Q0h := Aside0.mk (rD Q0h.out)
                  replace Q0i := Aside0.mk (rD Q0i.out)
                  replace Q00 := Aside0.mk (bD Q00.out)
                  replace Q01 := Aside0.mk (bD Q01.out)
                  replace Q02 := Aside0.mk (bD Q02.out)
                  replace Q04 := Aside0.mk (bD Q04.out)
                  replace Q06 := Aside0.mk (bD Q06.out)
                  replace Q0d := Aside0.mk (bD Q0d.out)
                  replace HB := Aside0.mk (wD HB.out)
                  have p123 : 0 ≤ (((rd_T38 l0_1 x81_2).f1) : Int) := oT
                  have q123 : ((rd_T38 l0_1 x81_2).f1) < (t107.length : Int) := oT
                  obtain ⟨ad123, e123, hx123_0⟩ := Kd.at_int (Kd.R_reads' Q09.out).2.2 ((rd_T38 l0_1 x81_2).f1) p123 q123
                  cases e123
                  replace p123 := eq_true p123
                  replace q123 := eq_true q123
                  have p124 : 0 ≤ (((rd_T38 l0_1 x81_2).f2) : Int) := oT
                  have q124 : ((rd_T38 l0_1 x81_2).f2) < (t107.length : Int) := oT
                  obtain ⟨ad124, e124, hx124_0⟩ := Kd.at_int (Kd.R_reads' Q09.out).2.2 ((rd_T38 l0_1 x81_2).f2) p124 q124
                  obtain rfl : ad123 = ad124 := (by injection e124)
                  replace p124 := eq_true p124
                  replace q124 := eq_true q124
                  refine start_ (n := 17) (S := fun w' => w'.cell? ⟨Q03, 0, none⟩ = some (.int .i64 ((rd_T38 l0_1 x81_2).f0)) ∧ w'.cell? ⟨Q03, 1, none⟩ = some (.int .i64 ((rd_T38 l0_1 x81_2).f1)) ∧ w'.cell? ⟨Q03, 2, none⟩ = some (.int .i64 ((rd_T38 l0_1 x81_2).f2)) ∧ w'.cell? ⟨Q0c, 0, none⟩ = some (.slice (some ad123) t107.length Q0e) ∧ w'.cell? ⟨Q0c, 1, none⟩ = some (.slice (some ad122) t110.length Q0g) ∧ w'.cell? (ad123.add (((rd_T38 l0_1 x81_2).f1)).toNat) = some (.int .i64 (rd t107 ((rd_T38 l0_1 x81_2).f1))) ∧ w'.cell? (ad123.add (((rd_T38 l0_1 x81_2).f2)).toNat) = some (.int .i64 (rd t107 ((rd_T38 l0_1 x81_2).f2)))) (ds := []) #[false, false, false, false, false, false, false, false, false, false, false, false, false, false, false, false, false] (by kernel_rfl) rfl rfl ⟨(blk_cell Q0d.out 0).trans rfl, (blk_cell Q0d.out 1).trans rfl, (blk_cell Q0d.out 2).trans rfl, (blk_cell Q04.out 0).trans rfl, (blk_cell Q04.out 1).trans rfl, hx123_0, hx124_0⟩ (fun hHeld => ?_); refine with_tabW graph_Remove.tab22 graph_Remove.bits22 (fun HT_ HW_ => ?_)
                  generalize w98.drew = w99 at Q09 Q0f Q0h Q0i Q00 Q01 Q02 Q04 Q06 Q0d HB hx123_0 hx124_0 hHeld ⊢
                  refine pure_ (i := 0) (N := some 92) (v := ?_) (a' := ?_) #[true, false, false, false, false, false, false, false, false, false, false, false, false, false, false, false, false] rfl rfl (any_of HT_.out (by kernel_rfl)) (fun _ _ _ h => h) (Or.inl ⟨by rfl, ?_⟩) ?_ ?_
                  rotate_left
                  ·intro w'
                   go_simp
                   with_reducible rfl
                  rotate_left
                  ·simp only [Act.put, List.setIfInBounds_toArray, List.set_cons_zero, List.set_cons_succ, i64_w, i32_w]
                   rfl
                  refine pure_ (i := 2) (N := some 94) (v := ?_) (a' := ?_) #[true, false, true, false, false, false, false, false, false, false, false, false, false, false, false, false, false] rfl rfl (any_of HT_.out (by kernel_rfl)) (fun _ _ _ h => h) (Or.inl ⟨by rfl, ?_⟩) ?_ ?_
                  rotate_left
                  ·intro w'
                   go_simp
                   with_reducible rfl
                  rotate_left
                  ·simp only [Act.put, List.setIfInBounds_toArray, List.set_cons_zero, List.set_cons_succ, i64_w, i32_w]
                   rfl
                  refine pure_ (i := 4) (N := some 96) (v := ?_) (a' := ?_) #[true, false, true, false, true, false, false, false, false, false, false, false, false, false, false, false, false] rfl rfl (any_of HT_.out (by kernel_rfl)) (fun _ _ _ h => h) (Or.inl ⟨by rfl, ?_⟩) ?_ ?_
                  rotate_left
                  ·intro w'
                   go_simp
                   with_reducible rfl
                  rotate_left
                  ·simp only [Act.put, List.setIfInBounds_toArray, List.set_cons_zero, List.set_cons_succ, i64_w, i32_w]
                   rfl
                  refine pure_ (i := 8) (N := some 100) (v := ?_) (a' := ?_) #[true, false, true, false, true, false, false, false, true, false, false, false, false, false, false, false, false] rfl rfl (any_of HT_.out (by kernel_rfl)) (fun _ _ _ h => h) (Or.inl ⟨by rfl, ?_⟩) ?_ ?_
                  rotate_left
                  ·intro w'
                   go_simp
                   with_reducible rfl
                  rotate_left
                  ·simp only [Act.put, List.setIfInBounds_toArray, List.set_cons_zero, List.set_cons_succ, i64_w, i32_w]
                   rfl
                  refine pure_ (i := 10) (N := some 102) (v := ?_) (a' := ?_) #[true, false, true, false, true, false, false, false, true, false, true, false, false, false, false, false, false] rfl rfl (any_of HT_.out (by kernel_rfl)) (fun _ _ _ h => h) (Or.inl ⟨by rfl, ?_⟩) ?_ ?_
                  rotate_left
                  ·intro w'
                   go_simp
                   with_reducible rfl
                  rotate_left
                  ·simp only [Act.put, List.setIfInBounds_toArray, List.set_cons_zero, List.set_cons_succ, i64_w, i32_w]
                   rfl
                  refine take_ (i := 1) (N := some 93) (v := ?_) (a' := ?_) #[true, true, true, false, true, false, false, false, true, false, true, false, false, false, false, false, false] rfl rfl (take_ofW HT_.out HW_.out (by kernel_rfl)) (fun _ _ _ h => h) (Or.inl ⟨by rfl, ?_⟩) hHeld ?_ ?_
                  rotate_left
                  ·rintro w' ⟨s0, s1, s2, s3, s4, s5, s6⟩
                   go_simp
                   with_reducible rfl
                  rotate_left
                  ·simp only [Act.put, List.setIfInBounds_toArray, List.set_cons_zero, List.set_cons_succ, i64_w, i32_w]
                   rfl
                  refine take_ (i := 3) (N := some 95) (v := ?_) (a' := ?_) #[true, true, true, true, true, false, false, false, true, false, true, false, false, false, false, false, false] rfl rfl (take_ofW HT_.out HW_.out (by kernel_rfl)) (fun _ _ _ h => h) (Or.inl ⟨by rfl, ?_⟩) hHeld ?_ ?_
                  rotate_left
                  ·rintro w' ⟨s0, s1, s2, s3, s4, s5, s6⟩
                   go_simp
                   with_reducible rfl
                  rotate_left
                  ·simp only [Act.put, List.setIfInBounds_toArray, List.set_cons_zero, List.set_cons_succ, i64_w, i32_w]
                   rfl
                  refine take_ (i := 5) (N := some 97) (v := ?_) (a' := ?_) #[true, true, true, true, true, true, false, false, true, false, true, false, false, false, false, false, false] rfl rfl (take_ofW HT_.out HW_.out (by kernel_rfl)) (fun _ _ _ h => h) (Or.inl ⟨by rfl, ?_⟩) hHeld ?_ ?_
                  rotate_left
                  ·rintro w' ⟨s0, s1, s2, s3, s4, s5, s6⟩
                   go_simp
                   with_reducible rfl
                  rotate_left
                  ·simp only [Act.put, List.setIfInBounds_toArray, List.set_cons_zero, List.set_cons_succ, i64_w, i32_w]
                   rfl
                  refine pure_ (i := 6) (N := some 98) (v := ?_) (a' := ?_) #[true, true, true, true, true, true, true, false, true, false, true, false, false, false, false, false, false] rfl rfl (any_of HT_.out (by kernel_rfl)) (fun _ _ _ h => h) (Or.inl ⟨by rfl, ?_⟩) ?_ ?_
                  rotate_left
                  ·intro w'
                   go_simp
                   with_reducible rfl
                  rotate_left
                  ·simp only [Act.put, List.setIfInBounds_toArray, List.set_cons_zero, List.set_cons_succ, i64_w, i32_w]
                   rfl
                  refine take_ (i := 7) (N := some 99) (v := ?_) (a' := ?_) #[true, true, true, true, true, true, true, true, true, false, true, false, false, false, false, false, false] rfl rfl (take_ofW HT_.out HW_.out (by kernel_rfl)) (fun _ _ _ h => h) (Or.inl ⟨by rfl, ?_⟩) hHeld ?_ ?_
                  rotate_left
                  ·rintro w' ⟨s0, s1, s2, s3, s4, s5, s6⟩
                   go_simp
                   with_reducible rfl
                  rotate_left
                  ·simp only [Act.put, List.setIfInBounds_toArray, List.set_cons_zero, List.set_cons_succ, i64_w, i32_w]
                   rfl
                  refine take_ (i := 9) (N := some 101) (v := ?_) (a' := ?_) #[true, true, true, true, true, true, true, true, true, true, true, false, false, false, false, false, false] rfl rfl (take_ofW HT_.out HW_.out (by kernel_rfl)) (fun _ _ _ h => h) (Or.inl ⟨by rfl, ?_⟩) hHeld ?_ ?_
                  rotate_left
                  ·rintro w' ⟨s0, s1, s2, s3, s4, s5, s6⟩
                   go_simp
                   with_reducible rfl
                  rotate_left
                  ·simp only [Act.put, List.setIfInBounds_toArray, List.set_cons_zero, List.set_cons_succ, i64_w, i32_w]
                   rfl
                  refine take_ (i := 11) (N := some 103) (v := ?_) (a' := ?_) #[true, true, true, true, true, true, true, true, true, true, true, true, false, false, false, false, false] rfl rfl (take_ofW HT_.out HW_.out (by kernel_rfl)) (fun _ _ _ h => h) (Or.inl ⟨by rfl, ?_⟩) hHeld ?_ ?_
                  rotate_left
                  ·rintro w' ⟨s0, s1, s2, s3, s4, s5, s6⟩
                   go_simp
                   with_reducible rfl
                  rotate_left
                  ·simp only [Act.put, List.setIfInBounds_toArray, List.set_cons_zero, List.set_cons_succ, i64_w, i32_w]
                   rfl
                  refine pure_ (i := 12) (N := some 104) (v := ?_) (a' := ?_) #[true, true, true, true, true, true, true, true, true, true, true, true, true, false, false, false, false] rfl rfl (any_of HT_.out (by kernel_rfl)) (fun _ _ _ h => h) (Or.inl ⟨by rfl, ?_⟩) ?_ ?_
                  rotate_left
                  ·intro w'
                   go_simp
                   with_reducible rfl
                  rotate_left
                  ·simp only [Act.put, List.setIfInBounds_toArray, List.set_cons_zero, List.set_cons_succ, i64_w, i32_w]
                   rfl
                  refine take_ (i := 13) (N := some 105) (v := ?_) (a' := ?_) #[true, true, true, true, true, true, true, true, true, true, true, true, true, true, false, false, false] rfl rfl (take_ofW HT_.out HW_.out (by kernel_rfl)) (fun _ _ _ h => h) (Or.inl ⟨by rfl, ?_⟩) hHeld ?_ ?_
                  rotate_left
                  ·rintro w' ⟨s0, s1, s2, s3, s4, s5, s6⟩
                   go_simp
                   with_reducible rfl
                  rotate_left
                  ·simp only [Act.put, List.setIfInBounds_toArray, List.set_cons_zero, List.set_cons_succ, i64_w, i32_w]
                   rfl
                  refine pure_ (i := 14) (N := some 106) (v := ?_) (a' := ?_) #[true, true, true, true, true, true, true, true, true, true, true, true, true, true, true, false, false] rfl rfl (any_of HT_.out (by kernel_rfl)) (fun _ _ _ h => h) (Or.inl ⟨by rfl, ?_⟩) ?_ ?_
                  rotate_left
                  ·intro w'
                   go_simp
                   with_reducible rfl
                  rotate_left
                  ·simp only [Act.put, List.setIfInBounds_toArray, List.set_cons_zero, List.set_cons_succ, i64_w, i32_w]
                   rfl
                  refine one_ (i := 15) (N := some 18) #[true, true, true, true, true, true, true, true, true, true, true, true, true, true, true, true, false] rfl rfl (one_of HT_.out (by kernel_rfl)) (by decide) (fun K hK => ?_)
                  refine box_step ?hg (N := 18) ?hd (cs := #[.int .i64 0, .int .i64 0, .int .i64 0]) (t := 38) ?hr ?_; (case hd => rfl); (case hg => rfl); (case hr => first | (go_simp; done) | (go_simp; rfl))
                  intro Q05 hg w100 hbox hb
                  have HS5_ := (hb.cell (World.block_lt_of_cell? _ _ (hHeld.2.2.2.2.2.1))).trans (hHeld.2.2.2.2.2.1)
                  have HS6_ := (hb.cell (World.block_lt_of_cell? _ _ (hHeld.2.2.2.2.2.2))).trans (hHeld.2.2.2.2.2.2)
                  replace Q09 := uR Q09 hb
                  replace Q0f := uR Q0f hb
                  replace Q0h := uR Q0h hb
                  replace Q0i := gR Q0i Q05 hg hb
                  have Q08 := Aside0.mk (hbox)
                  have Q7a := uS HB hg
                  have Q4d := uS HB hg
                  replace HB := uH HB hb
                  have Q10 := uL Q00 hg
                  have Q1r := uG Q00 hg
                  replace Q00 := uB Q00 hb
                  have Q0y := uL Q01 hg
                  have Q1l := uG Q01 hg
                  replace Q01 := uB Q01 hb
                  have Q0z := uL Q02 hg
                  have Q1m := uG Q02 hg
                  replace Q02 := uB Q02 hb
                  have Q0v := uL Q04 hg
                  have Q1s := uG Q04 hg
                  replace Q04 := uB Q04 hb
                  have Q11 := uL Q06 hg
                  have Q1t := uG Q06 hg
                  replace Q06 := uB Q06 hb
                  have Q0s := uL Q0d hg
                  have Q1u := uG Q0d hg
                  replace Q0d := uB Q0d hb
                  clear hb hbox hg
                  refine hK.out _ _ ⟨(blk_cell Q0d.out 0).trans rfl, (blk_cell Q0d.out 1).trans rfl, (blk_cell Q0d.out 2).trans rfl, (blk_cell Q04.out 0).trans rfl, (blk_cell Q04.out 1).trans rfl, HS5_, HS6_⟩ (fun hHeld => ?_)
                  clear hK K
                  refine norm_ (a' := ?_) ?_ ?_
                  rotate_left
                  ·show Act.put _ (some 18) _ = _
                   simp only [Act.put, List.setIfInBounds_toArray, List.set_cons_zero, List.set_cons_succ, i64_w, i32_w]
                   rfl
                  refine one_ (i := 16) (N := none) #[true, true, true, true, true, true, true, true, true, true, true, true, true, true, true, true, true] rfl rfl (one_of HT_.out (by kernel_rfl)) (by decide) (fun K hK => ?_)
                  have Q7b : w100.cell? ⟨Q05, 0, none⟩ = some (.int .i64 0) := (blk_cell Q08.out 0).trans rfl
                  have Q7c := blk_frozen Q08.out 0
                  have Q7d := Q10.out
                  have Q7e := Q0y.out
                  have Q7f := Q0z.out
                  have Q7g := Q0v.out
                  have Q7h := Q11.out
                  have Q7i := Q0s.out
                  have Q7j := Q1r.out
                  have Q7k := Q1l.out
                  have Q7l := Q1m.out
                  have Q7m := Q1s.out
                  have Q7n := Q1t.out
                  have Q7o := Q1u.out
                  have Q7p : w100.cell? ⟨Q05, 1, none⟩ = some (.int .i64 0) := (blk_cell Q08.out 1).trans rfl
                  have Q7q := blk_frozen Q08.out 1
                  have Q7r := Q10.out
                  have Q7s := Q0y.out
                  have Q7t := Q0z.out
                  have Q7u := Q0v.out
                  have Q7v := Q11.out
                  have Q7w := Q0s.out
                  have Q7x := Q1r.out
                  have Q7y := Q1l.out
                  have Q7z := Q1m.out
                  have Q80 := Q1s.out
                  have Q81 := Q1t.out
                  have Q82 := Q1u.out
                  have Q83 : w100.cell? ⟨Q05, 2, none⟩ = some (.int .i64 0) := (blk_cell Q08.out 2).trans rfl
                  have Q84 := blk_frozen Q08.out 2
                  have Q85 := Q10.out
                  have Q86 := Q0y.out
                  have Q87 := Q0z.out
                  have Q88 := Q0v.out
                  have Q89 := Q11.out
                  have Q8a := Q0s.out
                  have Q8b := Q1r.out
                  have Q8c := Q1l.out
                  have Q8d := Q1m.out
                  have Q8e := Q1s.out
                  have Q8f := Q1t.out
                  have Q8g := Q1u.out
                  refine skip_ (w1 := ?_) (by rfl) rfl ?_ ?_
                  rotate_left
                  ·go_simp
                   rfl
                  refine hK.out _ _ ⟨((cell_far (p := ⟨Q05, _, none⟩) Q0s.out _).trans (((cell_far (p := ⟨Q05, _, none⟩) Q0s.out _).trans (((cell_far (p := ⟨Q05, _, none⟩) Q0s.out _).trans (hHeld.1)))))), ((cell_far (p := ⟨Q05, _, none⟩) Q0s.out _).trans (((cell_far (p := ⟨Q05, _, none⟩) Q0s.out _).trans (((cell_far (p := ⟨Q05, _, none⟩) Q0s.out _).trans (hHeld.2.1)))))), ((cell_far (p := ⟨Q05, _, none⟩) Q0s.out _).trans (((cell_far (p := ⟨Q05, _, none⟩) Q0s.out _).trans (((cell_far (p := ⟨Q05, _, none⟩) Q0s.out _).trans (hHeld.2.2.1)))))), ((cell_far (p := ⟨Q05, _, none⟩) Q0v.out _).trans (((cell_far (p := ⟨Q05, _, none⟩) Q0v.out _).trans (((cell_far (p := ⟨Q05, _, none⟩) Q0v.out _).trans (hHeld.2.2.2.1)))))), ((cell_far (p := ⟨Q05, _, none⟩) Q0v.out _).trans (((cell_far (p := ⟨Q05, _, none⟩) Q0v.out _).trans (((cell_far (p := ⟨Q05, _, none⟩) Q0v.out _).trans (hHeld.2.2.2.2.1)))))), ((cell_far (p := ⟨Q05, _, none⟩) (by first | exact Kd.own_blk (Kd.R_ne Q09.out Q08.out (by decide)) | (rw [add_block]; exact Kd.own_blk (Kd.R_ne Q09.out Q08.out (by decide))) | (show (Addr.add _ _).block ≠ _; rw [add_block]; exact Kd.own_blk (Kd.R_ne Q09.out Q08.out (by decide))) | (dsimp only; exact Kd.own_blk (Kd.R_ne Q09.out Q08.out (by decide)))) _).trans (((cell_far (p := ⟨Q05, _, none⟩) (by first | exact Kd.own_blk (Kd.R_ne Q09.out Q08.out (by decide)) | (rw [add_block]; exact Kd.own_blk (Kd.R_ne Q09.out Q08.out (by decide))) | (show (Addr.add _ _).block ≠ _; rw [add_block]; exact Kd.own_blk (Kd.R_ne Q09.out Q08.out (by decide))) | (dsimp only; exact Kd.own_blk (Kd.R_ne Q09.out Q08.out (by decide)))) _).trans (((cell_far (p := ⟨Q05, _, none⟩) (by first | exact Kd.own_blk (Kd.R_ne Q09.out Q08.out (by decide)) | (rw [add_block]; exact Kd.own_blk (Kd.R_ne Q09.out Q08.out (by decide))) | (show (Addr.add _ _).block ≠ _; rw [add_block]; exact Kd.own_blk (Kd.R_ne Q09.out Q08.out (by decide))) | (dsimp only; exact Kd.own_blk (Kd.R_ne Q09.out Q08.out (by decide)))) _).trans (hHeld.2.2.2.2.2.1)))))), ((cell_far (p := ⟨Q05, _, none⟩) (by first | exact Kd.own_blk (Kd.R_ne Q09.out Q08.out (by decide)) | (rw [add_block]; exact Kd.own_blk (Kd.R_ne Q09.out Q08.out (by decide))) | (show (Addr.add _ _).block ≠ _; rw [add_block]; exact Kd.own_blk (Kd.R_ne Q09.out Q08.out (by decide))) | (dsimp only; exact Kd.own_blk (Kd.R_ne Q09.out Q08.out (by decide)))) _).trans (((cell_far (p := ⟨Q05, _, none⟩) (by first | exact Kd.own_blk (Kd.R_ne Q09.out Q08.out (by decide)) | (rw [add_block]; exact Kd.own_blk (Kd.R_ne Q09.out Q08.out (by decide))) | (show (Addr.add _ _).block ≠ _; rw [add_block]; exact Kd.own_blk (Kd.R_ne Q09.out Q08.out (by decide))) | (dsimp only; exact Kd.own_blk (Kd.R_ne Q09.out Q08.out (by decide)))) _).trans (((cell_far (p := ⟨Q05, _, none⟩) (by first | exact Kd.own_blk (Kd.R_ne Q09.out Q08.out (by decide)) | (rw [add_block]; exact Kd.own_blk (Kd.R_ne Q09.out Q08.out (by decide))) | (show (Addr.add _ _).block ≠ _; rw [add_block]; exact Kd.own_blk (Kd.R_ne Q09.out Q08.out (by decide))) | (dsimp only; exact Kd.own_blk (Kd.R_ne Q09.out Q08.out (by decide)))) _).trans (hHeld.2.2.2.2.2.2))))))⟩ (fun hHeld => ?_)
                  clear hK K
                  refine done_ (done_of HT_.out (by kernel_rfl)) ?_
                  go_upto_region 23 with (fail)
                  go_cut [114] (fun v114 wc => ∃ (kq : Nat) (x114_84 : Bool), v114 = .bool x114_84 ∧ Aside0 (graph_Remove.j2 kq l0_1 (l0_1.length : Int) x81_2 x114_84 t107 t110 x115000_1 x115001_2 ((rd_T38 l0_1 x81_2).f0) (rd t107 ((rd_T38 l0_1 x81_2).f1)) (rd t107 ((rd_T38 l0_1 x81_2).f2)) = some (r1, r2, r3, r4, r5)) ∧ Aside0 (kq ≤ k2) ∧ Aside0 (Kd.R (Kd.int .i64) 3 wc w.heap.size (fun k_ => some k_ ≠ ((.slice (some ad122) t110.length Q0g) : Value).ownBlock ∧ some k_ ≠ (u115000 : Value).ownBlock) (.slice (some ad123) t107.length Q0e) t107) ∧ Aside0 (Kd.R (Kd.int .i64) 3 wc w.heap.size (fun k_ => some k_ ≠ ((.slice (some ad123) t107.length Q0e) : Value).ownBlock ∧ some k_ ≠ (u115000 : Value).ownBlock) (.slice (some ad122) t110.length Q0g) t110) ∧ Aside0 (Kd.R (Kd.int .i64) 3 wc w.heap.size (fun k_ => some k_ ≠ ((.slice (some ad123) t107.length Q0e) : Value).ownBlock ∧ some k_ ≠ ((.slice (some ad122) t110.length Q0g) : Value).ownBlock) u115000 x115000_1) ∧ Aside0 (Kd.R k38 38 wc w.heap.size (fun k_ => k_ ≠ Q03 ∧ k_ ≠ Q05) u115001 x115001_2) ∧ Aside0 (wc.heap[Q07]? = some (.cells #[(.slice A0_0 l0_0.length c0_0), (.slice (some ad120) l0_1.length c0_1)] 25 (0, 0))) ∧ Aside0 (wc.heap[Q0a]? = some (.cells #[(.slice none 0 0), (.slice none 0 0)] 25 (0, 0))) ∧ Aside0 (wc.heap[Q0b]? = some (.cells #[(.slice none 0 0), (.slice none 0 0)] 29 (0, 0))) ∧ Aside0 (wc.heap[Q0c]? = some (.cells #[(.slice (some ad123) t107.length Q0e), (.slice (some ad122) t110.length Q0g)] 29 (0, 0))) ∧ Aside0 (wc.heap[Q0k]? = some (.cells #[u115000, u115001] 25 (0, 0))) ∧ Aside0 (wc.heap[Q03]? = some (.cells #[.int .i64 ((rd_T38 l0_1 x81_2).f0), .int .i64 ((rd_T38 l0_1 x81_2).f1), .int .i64 ((rd_T38 l0_1 x81_2).f2)] 38 (0, 0))) ∧ Aside0 (wc.heap[Q05]? = some (.cells #[.int .i64 ((rd_T38 l0_1 x81_2).f0), .int .i64 (rd t107 ((rd_T38 l0_1 x81_2).f1)), .int .i64 (rd t107 ((rd_T38 l0_1 x81_2).f2))] 38 (0, 0))) ∧ Aside0 (Below w.heap.size w wc))
                  case first =>
                   have H := HC85.out
                   clear HC85
                   by_cases c104 : (rd t107 ((rd_T38 l0_1 x81_2).f1)) < 0
                   ·rw [if_pos c104] at H
                    have c104b0 : decide ((rd t107 ((rd_T38 l0_1 x81_2).f1)) < 0) = true := decide_eq_true c104
                    clear c104
                    (first | rw [c104b0] | (simp only [i64_w, i32_w]; rw [c104b0]) | skip)
                    have H' := Aside0.mk H
                    clear H
                    have Q8h := Q1r.out
                    have Q8i := Q10.out
                    have Q8j := Q1l.out
                    have Q8k := Q0y.out
                    have Q8l := Q1m.out
                    have Q8m := Q0z.out
                    have Q8n := Q1s.out
                    have Q8o := Q0v.out
                    have Q8p := Q1t.out
                    have Q8q := Q11.out
                    have Q8r := Q1u.out
                    have Q8s := Q0s.out
                    have Q4e : w100.cell? ⟨Q05, 0, none⟩ = some (.int .i64 0) := (blk_cell Q08.out 0).trans rfl
                    have Q4f : w100.cell? ⟨Q05, 1, none⟩ = some (.int .i64 0) := (blk_cell Q08.out 1).trans rfl
                    have Q4g : w100.cell? ⟨Q05, 2, none⟩ = some (.int .i64 0) := (blk_cell Q08.out 2).trans rfl
                    have Q4h := blk_frozen Q08.out 0
                    have Q4i := blk_frozen Q08.out 1
                    have Q4j := blk_frozen Q08.out 2
                    go_wp2
                    go_meet
                    case rel => exact ⟨_, (true), rS, H', ⟨by have := HK1.out; have := HK2.out; first | omega | exact Nat.le_refl _⟩, ⟨by (with_reducible repeat (first | apply rA | apply rN | apply rD)); exact Kd.R_mono (Kd.R_far (p := ⟨Q05, 2, none⟩) (Kd.R_far (p := ⟨Q05, 1, none⟩) (Kd.R_far (p := ⟨Q05, 0, none⟩) (Kd.R_types Q09.out Q08.out (by decide)) (fun _ hk => hk.2) (.int .i64 ((rd_T38 l0_1 x81_2).f0))) (fun _ hk => hk.2) (.int .i64 (rd t107 ((rd_T38 l0_1 x81_2).f1)))) (fun _ hk => hk.2) (.int .i64 (rd t107 ((rd_T38 l0_1 x81_2).f2)))) (fun _ hk => ⟨hk.1.1, hk.1.2⟩)⟩, ⟨by (with_reducible repeat (first | apply rA | apply rN | apply rD)); exact Kd.R_mono (Kd.R_far (p := ⟨Q05, 2, none⟩) (Kd.R_far (p := ⟨Q05, 1, none⟩) (Kd.R_far (p := ⟨Q05, 0, none⟩) (Kd.R_types Q0f.out Q08.out (by decide)) (fun _ hk => hk.2) (.int .i64 ((rd_T38 l0_1 x81_2).f0))) (fun _ hk => hk.2) (.int .i64 (rd t107 ((rd_T38 l0_1 x81_2).f1)))) (fun _ hk => hk.2) (.int .i64 (rd t107 ((rd_T38 l0_1 x81_2).f2)))) (fun _ hk => ⟨hk.1.1, hk.1.2⟩)⟩, ⟨by (with_reducible repeat (first | apply rA | apply rN | apply rD)); exact Kd.R_mono (Kd.R_far (p := ⟨Q05, 2, none⟩) (Kd.R_far (p := ⟨Q05, 1, none⟩) (Kd.R_far (p := ⟨Q05, 0, none⟩) (Kd.R_types Q0h.out Q08.out (by decide)) (fun _ hk => hk.2) (.int .i64 ((rd_T38 l0_1 x81_2).f0))) (fun _ hk => hk.2) (.int .i64 (rd t107 ((rd_T38 l0_1 x81_2).f1)))) (fun _ hk => hk.2) (.int .i64 (rd t107 ((rd_T38 l0_1 x81_2).f2)))) (fun _ hk => ⟨hk.1.1, hk.1.2⟩)⟩, ⟨by (with_reducible repeat (first | apply rA | apply rN | apply rD)); exact Kd.R_mono (Kd.R_far (p := ⟨Q05, 2, none⟩) (Kd.R_far (p := ⟨Q05, 1, none⟩) (Kd.R_far (p := ⟨Q05, 0, none⟩) (Kd.R_mono Q0i.out (fun k_ hk => (⟨hk, hk.2⟩ : _ ∧ k_ ≠ Q05))) (fun _ hk => hk.2) (.int .i64 ((rd_T38 l0_1 x81_2).f0))) (fun _ hk => hk.2) (.int .i64 (rd t107 ((rd_T38 l0_1 x81_2).f1)))) (fun _ hk => hk.2) (.int .i64 (rd t107 ((rd_T38 l0_1 x81_2).f2)))) (fun _ hk => ⟨hk.1.1, hk.1.2⟩)⟩, ⟨by (with_reducible repeat (first | refine bN ?_ _ | refine bD ?_ | refine bA ?_ _)); refine blk_far ?_ Q10.out _; (with_reducible repeat (first | refine bN ?_ _ | refine bD ?_ | refine bA ?_ _)); refine blk_far ?_ Q10.out _; (with_reducible repeat (first | refine bN ?_ _ | refine bD ?_ | refine bA ?_ _)); refine blk_far ?_ Q10.out _; (with_reducible repeat (first | refine bN ?_ _ | refine bD ?_ | refine bA ?_ _)); exact Q00.out⟩, ⟨by (with_reducible repeat (first | refine bN ?_ _ | refine bD ?_ | refine bA ?_ _)); refine blk_far ?_ Q0y.out _; (with_reducible repeat (first | refine bN ?_ _ | refine bD ?_ | refine bA ?_ _)); refine blk_far ?_ Q0y.out _; (with_reducible repeat (first | refine bN ?_ _ | refine bD ?_ | refine bA ?_ _)); refine blk_far ?_ Q0y.out _; (with_reducible repeat (first | refine bN ?_ _ | refine bD ?_ | refine bA ?_ _)); exact Q01.out⟩, ⟨by (with_reducible repeat (first | refine bN ?_ _ | refine bD ?_ | refine bA ?_ _)); refine blk_far ?_ Q0z.out _; (with_reducible repeat (first | refine bN ?_ _ | refine bD ?_ | refine bA ?_ _)); refine blk_far ?_ Q0z.out _; (with_reducible repeat (first | refine bN ?_ _ | refine bD ?_ | refine bA ?_ _)); refine blk_far ?_ Q0z.out _; (with_reducible repeat (first | refine bN ?_ _ | refine bD ?_ | refine bA ?_ _)); exact Q02.out⟩, ⟨by (with_reducible repeat (first | refine bN ?_ _ | refine bD ?_ | refine bA ?_ _)); refine blk_far ?_ Q0v.out _; (with_reducible repeat (first | refine bN ?_ _ | refine bD ?_ | refine bA ?_ _)); refine blk_far ?_ Q0v.out _; (with_reducible repeat (first | refine bN ?_ _ | refine bD ?_ | refine bA ?_ _)); refine blk_far ?_ Q0v.out _; (with_reducible repeat (first | refine bN ?_ _ | refine bD ?_ | refine bA ?_ _)); exact Q04.out⟩, ⟨by (with_reducible repeat (first | refine bN ?_ _ | refine bD ?_ | refine bA ?_ _)); refine blk_far ?_ Q11.out _; (with_reducible repeat (first | refine bN ?_ _ | refine bD ?_ | refine bA ?_ _)); refine blk_far ?_ Q11.out _; (with_reducible repeat (first | refine bN ?_ _ | refine bD ?_ | refine bA ?_ _)); refine blk_far ?_ Q11.out _; (with_reducible repeat (first | refine bN ?_ _ | refine bD ?_ | refine bA ?_ _)); exact Q06.out⟩, ⟨by (with_reducible repeat (first | refine bN ?_ _ | refine bD ?_ | refine bA ?_ _)); refine blk_far ?_ Q0s.out _; (with_reducible repeat (first | refine bN ?_ _ | refine bD ?_ | refine bA ?_ _)); refine blk_far ?_ Q0s.out _; (with_reducible repeat (first | refine bN ?_ _ | refine bD ?_ | refine bA ?_ _)); refine blk_far ?_ Q0s.out _; (with_reducible repeat (first | refine bN ?_ _ | refine bD ?_ | refine bA ?_ _)); exact Q0d.out⟩, ⟨by (with_reducible repeat (first | refine bN ?_ _ | refine bD ?_ | refine bA ?_ _)); refine blk_put (cs := #[.int .i64 ((rd_T38 l0_1 x81_2).f0), .int .i64 (rd t107 ((rd_T38 l0_1 x81_2).f1)), .int .i64 0]) ?_ 2 _ rfl; (with_reducible repeat (first | refine bN ?_ _ | refine bD ?_ | refine bA ?_ _)); refine blk_put (cs := #[.int .i64 ((rd_T38 l0_1 x81_2).f0), .int .i64 0, .int .i64 0]) ?_ 1 _ rfl; (with_reducible repeat (first | refine bN ?_ _ | refine bD ?_ | refine bA ?_ _)); refine blk_put (cs := #[.int .i64 0, .int .i64 0, .int .i64 0]) ?_ 0 _ rfl; (with_reducible repeat (first | refine bN ?_ _ | refine bD ?_ | refine bA ?_ _)); exact Q08.out⟩, ⟨pH HB⟩⟩
                   ·rw [if_neg c104] at H
                    have c104b0 : decide ((rd t107 ((rd_T38 l0_1 x81_2).f1)) < 0) = false := decide_eq_false c104
                    clear c104
                    (first | rw [c104b0] | (simp only [i64_w, i32_w]; rw [c104b0]) | skip)
                    have H' := Aside0.mk H
                    clear H
                    have Q8t := Q1r.out
                    have Q8u := Q10.out
                    have Q8v := Q1l.out
                    have Q8w := Q0y.out
                    have Q8x := Q1m.out
                    have Q8y := Q0z.out
                    have Q8z := Q1s.out
                    have Q90 := Q0v.out
                    have Q91 := Q1t.out
                    have Q92 := Q11.out
                    have Q93 := Q1u.out
                    have Q94 := Q0s.out
                    have Q4k : w100.cell? ⟨Q05, 0, none⟩ = some (.int .i64 0) := (blk_cell Q08.out 0).trans rfl
                    have Q4l : w100.cell? ⟨Q05, 1, none⟩ = some (.int .i64 0) := (blk_cell Q08.out 1).trans rfl
                    have Q4m : w100.cell? ⟨Q05, 2, none⟩ = some (.int .i64 0) := (blk_cell Q08.out 2).trans rfl
                    have Q4n := blk_frozen Q08.out 0
                    have Q4o := blk_frozen Q08.out 1
                    have Q4p := blk_frozen Q08.out 2
                    go_wp2
                    go_meet
                    case rel => exact ⟨_, (decide ((rd t107 ((rd_T38 l0_1 x81_2).f2)) < 0)), rS, H', ⟨by have := HK1.out; have := HK2.out; first | omega | exact Nat.le_refl _⟩, ⟨by (with_reducible repeat (first | apply rA | apply rN | apply rD)); exact Kd.R_mono (Kd.R_far (p := ⟨Q05, 2, none⟩) (Kd.R_far (p := ⟨Q05, 1, none⟩) (Kd.R_far (p := ⟨Q05, 0, none⟩) (Kd.R_types Q09.out Q08.out (by decide)) (fun _ hk => hk.2) (.int .i64 ((rd_T38 l0_1 x81_2).f0))) (fun _ hk => hk.2) (.int .i64 (rd t107 ((rd_T38 l0_1 x81_2).f1)))) (fun _ hk => hk.2) (.int .i64 (rd t107 ((rd_T38 l0_1 x81_2).f2)))) (fun _ hk => ⟨hk.1.1, hk.1.2⟩)⟩, ⟨by (with_reducible repeat (first | apply rA | apply rN | apply rD)); exact Kd.R_mono (Kd.R_far (p := ⟨Q05, 2, none⟩) (Kd.R_far (p := ⟨Q05, 1, none⟩) (Kd.R_far (p := ⟨Q05, 0, none⟩) (Kd.R_types Q0f.out Q08.out (by decide)) (fun _ hk => hk.2) (.int .i64 ((rd_T38 l0_1 x81_2).f0))) (fun _ hk => hk.2) (.int .i64 (rd t107 ((rd_T38 l0_1 x81_2).f1)))) (fun _ hk => hk.2) (.int .i64 (rd t107 ((rd_T38 l0_1 x81_2).f2)))) (fun _ hk => ⟨hk.1.1, hk.1.2⟩)⟩, ⟨by (with_reducible repeat (first | apply rA | apply rN | apply rD)); exact Kd.R_mono (Kd.R_far (p := ⟨Q05, 2, none⟩) (Kd.R_far (p := ⟨Q05, 1, none⟩) (Kd.R_far (p := ⟨Q05, 0, none⟩) (Kd.R_types Q0h.out Q08.out (by decide)) (fun _ hk => hk.2) (.int .i64 ((rd_T38 l0_1 x81_2).f0))) (fun _ hk => hk.2) (.int .i64 (rd t107 ((rd_T38 l0_1 x81_2).f1)))) (fun _ hk => hk.2) (.int .i64 (rd t107 ((rd_T38 l0_1 x81_2).f2)))) (fun _ hk => ⟨hk.1.1, hk.1.2⟩)⟩, ⟨by (with_reducible repeat (first | apply rA | apply rN | apply rD)); exact Kd.R_mono (Kd.R_far (p := ⟨Q05, 2, none⟩) (Kd.R_far (p := ⟨Q05, 1, none⟩) (Kd.R_far (p := ⟨Q05, 0, none⟩) (Kd.R_mono Q0i.out (fun k_ hk => (⟨hk, hk.2⟩ : _ ∧ k_ ≠ Q05))) (fun _ hk => hk.2) (.int .i64 ((rd_T38 l0_1 x81_2).f0))) (fun _ hk => hk.2) (.int .i64 (rd t107 ((rd_T38 l0_1 x81_2).f1)))) (fun _ hk => hk.2) (.int .i64 (rd t107 ((rd_T38 l0_1 x81_2).f2)))) (fun _ hk => ⟨hk.1.1, hk.1.2⟩)⟩, ⟨by (with_reducible repeat (first | refine bN ?_ _ | refine bD ?_ | refine bA ?_ _)); refine blk_far ?_ Q10.out _; (with_reducible repeat (first | refine bN ?_ _ | refine bD ?_ | refine bA ?_ _)); refine blk_far ?_ Q10.out _; (with_reducible repeat (first | refine bN ?_ _ | refine bD ?_ | refine bA ?_ _)); refine blk_far ?_ Q10.out _; (with_reducible repeat (first | refine bN ?_ _ | refine bD ?_ | refine bA ?_ _)); exact Q00.out⟩, ⟨by (with_reducible repeat (first | refine bN ?_ _ | refine bD ?_ | refine bA ?_ _)); refine blk_far ?_ Q0y.out _; (with_reducible repeat (first | refine bN ?_ _ | refine bD ?_ | refine bA ?_ _)); refine blk_far ?_ Q0y.out _; (with_reducible repeat (first | refine bN ?_ _ | refine bD ?_ | refine bA ?_ _)); refine blk_far ?_ Q0y.out _; (with_reducible repeat (first | refine bN ?_ _ | refine bD ?_ | refine bA ?_ _)); exact Q01.out⟩, ⟨by (with_reducible repeat (first | refine bN ?_ _ | refine bD ?_ | refine bA ?_ _)); refine blk_far ?_ Q0z.out _; (with_reducible repeat (first | refine bN ?_ _ | refine bD ?_ | refine bA ?_ _)); refine blk_far ?_ Q0z.out _; (with_reducible repeat (first | refine bN ?_ _ | refine bD ?_ | refine bA ?_ _)); refine blk_far ?_ Q0z.out _; (with_reducible repeat (first | refine bN ?_ _ | refine bD ?_ | refine bA ?_ _)); exact Q02.out⟩, ⟨by (with_reducible repeat (first | refine bN ?_ _ | refine bD ?_ | refine bA ?_ _)); refine blk_far ?_ Q0v.out _; (with_reducible repeat (first | refine bN ?_ _ | refine bD ?_ | refine bA ?_ _)); refine blk_far ?_ Q0v.out _; (with_reducible repeat (first | refine bN ?_ _ | refine bD ?_ | refine bA ?_ _)); refine blk_far ?_ Q0v.out _; (with_reducible repeat (first | refine bN ?_ _ | refine bD ?_ | refine bA ?_ _)); exact Q04.out⟩, ⟨by (with_reducible repeat (first | refine bN ?_ _ | refine bD ?_ | refine bA ?_ _)); refine blk_far ?_ Q11.out _; (with_reducible repeat (first | refine bN ?_ _ | refine bD ?_ | refine bA ?_ _)); refine blk_far ?_ Q11.out _; (with_reducible repeat (first | refine bN ?_ _ | refine bD ?_ | refine bA ?_ _)); refine blk_far ?_ Q11.out _; (with_reducible repeat (first | refine bN ?_ _ | refine bD ?_ | refine bA ?_ _)); exact Q06.out⟩, ⟨by (with_reducible repeat (first | refine bN ?_ _ | refine bD ?_ | refine bA ?_ _)); refine blk_far ?_ Q0s.out _; (with_reducible repeat (first | refine bN ?_ _ | refine bD ?_ | refine bA ?_ _)); refine blk_far ?_ Q0s.out _; (with_reducible repeat (first | refine bN ?_ _ | refine bD ?_ | refine bA ?_ _)); refine blk_far ?_ Q0s.out _; (with_reducible repeat (first | refine bN ?_ _ | refine bD ?_ | refine bA ?_ _)); exact Q0d.out⟩, ⟨by (with_reducible repeat (first | refine bN ?_ _ | refine bD ?_ | refine bA ?_ _)); refine blk_put (cs := #[.int .i64 ((rd_T38 l0_1 x81_2).f0), .int .i64 (rd t107 ((rd_T38 l0_1 x81_2).f1)), .int .i64 0]) ?_ 2 _ rfl; (with_reducible repeat (first | refine bN ?_ _ | refine bD ?_ | refine bA ?_ _)); refine blk_put (cs := #[.int .i64 ((rd_T38 l0_1 x81_2).f0), .int .i64 0, .int .i64 0]) ?_ 1 _ rfl; (with_reducible repeat (first | refine bN ?_ _ | refine bD ?_ | refine bA ?_ _)); refine blk_put (cs := #[.int .i64 0, .int .i64 0, .int .i64 0]) ?_ 0 _ rfl; (with_reducible repeat (first | refine bN ?_ _ | refine bD ?_ | refine bA ?_ _)); exact Q08.out⟩, ⟨pH HB⟩⟩
                  case rest =>
                   clear HC85
                   try clear c1; try clear p1; try clear q1; try clear hx1; try clear c2; try clear p2; try clear c3; try clear c4; try clear c5; try clear c5b0; try clear c5b1; try clear c6; try clear p6; try clear c7; try clear c7b0; try clear c7b1; try clear c8; try clear c9; try clear c9b0; try clear c9b1; try clear c10; try clear c11; try clear c12; try clear p12; try clear q12; try clear hx12; try clear c15; try clear c16; try clear c26; try clear c33; try clear c34; try clear c36; try clear c36b0; try clear c37; try clear c37b0; try clear c38; try clear c38b0; try clear c39; try clear c39b0; try clear c40; try clear c40b0; try clear c41; try clear c42; try clear c43; try clear c44; try clear c45; try clear c47; try clear c48; try clear c49; try clear c54; try clear c55; try clear c56; try clear c57; try clear c59; try clear c60; try clear c61; try clear c62; try clear c64; try clear c64b0; try clear p64; try clear c65; try clear c65b0; try clear c66; try clear c66b0; try clear c67; try clear c67b0; try clear c68; try clear c68b0; try clear c70; try clear c71; try clear c72; try clear c73; try clear c74; try clear c76; try clear c77; try clear c78; try clear c79; try clear c81; try clear c81b0; try clear c82; try clear c82b0; try clear c83; try clear c83b0; try clear c84; try clear c84b0; try clear c87; try clear c88; try clear c89; try clear c90; try clear c91; try clear c93; try clear c94; try clear c95; try clear c96; try clear c104; try clear c104b0; try clear c105; try clear c106; try clear c107; try clear c108; try clear c109; try clear c110; try clear c112; try clear c113; try clear c114; try clear c115; try clear c116; try clear c117; try clear Q4e; try clear Q4f; try clear Q4g; try clear Q4k; try clear Q4l; try clear Q4m; try clear Q2c; try clear Q2d; try clear Q2g; try clear Q2h; try clear Q2k; try clear Q2l; try clear Q2q; try clear Q2r; try clear Q30; try clear Q31; try clear Q34; try clear Q35; try clear Q39; try clear Q3a; try clear Q3d; try clear Q3e; try clear Q3h; try clear Q3i; try clear Q3t; try clear Q3u; try clear Q3v; try clear Q3z; try clear Q40; try clear Q43; try clear Q44; try clear Q45; try clear Q49; try clear Q4a; try clear Q4h; try clear Q4i; try clear Q4j; try clear Q4n; try clear Q4o; try clear Q4p; try clear Q2e; try clear Q2f; try clear Q2i; try clear Q2j; try clear Q2m; try clear Q2n; try clear Q2s; try clear Q2t; try clear Q32; try clear Q33; try clear Q36; try clear Q37; try clear Q3b; try clear Q3c; try clear Q3f; try clear Q3g; try clear Q3j; try clear Q3k; try clear Q3w; try clear Q3x; try clear Q3y; try clear Q41; try clear Q42; try clear Q46; try clear Q47; try clear Q48; try clear Q4b; try clear Q4c; try clear hx115_0; try clear hx116_0; try clear hx120_0; try clear hx120_1; try clear hx120_2; try clear hx122_0; try clear hx123_0; try clear hx124_0; try clear p1; try clear p12; try clear p115; try clear p116; try clear p120; try clear p122; try clear p123; try clear p124; try clear p2; try clear p6; try clear q1; try clear q12; try clear q115; try clear q116; try clear q120; try clear q122; try clear q123; try clear q124
                   obtain ⟨kq, x114_84, rfl, HA, HJ84, Q09, Q0f, Q0h, Q0i, Q00, Q01, Q02, Q04, Q06, Q0d, Q08, HB⟩ := hcut
                   cases kq with
                   | zero => exact absurd HA.out (by simp [graph_Remove.j2])
                   | succ kj84 =>
                    have H := HA.out
                    clear HA
                    simp only [graph_Remove.j2] at H
                    by_cases c119 : x114_84 = true
                    ·subst c119
                     have H1 : (some (([] : List Int), ([] : List (S38)), ([] : List Int), ([] : List Int), 14)) = some (r1, r2, r3, r4, r5) := by rw [if_pos rfl] at H; exact H
                     clear H
                     have H := H1
                     clear H1
                     simp only [Option.some.injEq, Prod.mk.injEq] at H
                     obtain ⟨rfl, rfl, rfl, rfl, rfl⟩ := H
                     have Q95 := Q13.out
                     have Q96 := Q12.out
                     have Q97 := Q0o.out
                     have Q98 := Q0p.out
                     have Q99 := Q0q.out
                     have Q9a := Q0t.out
                     have Q9b := Q1i.out
                     have Q9c := Q19.out
                     have Q9d := Q16.out
                     have Q9e := Q26.out
                     have Q9f := Q0y.out
                     have Q9g := Q1l.out
                     have Q9h : wc.cell? ⟨Q0a, 0, none⟩ = some (.slice none 0 0) := (blk_cell Q01.out 0).trans rfl
                     have Q9i : wc.cell? ⟨Q0a, 1, none⟩ = some (.slice none 0 0) := (blk_cell Q01.out 1).trans rfl
                     have Q9j := blk_frozen Q01.out 0
                     have Q9k := blk_frozen Q01.out 1
                     have Q9l := Q15.out
                     have Q9m := Q14.out
                     have Q9n := Q0r.out
                     have Q9o := Q0u.out
                     have Q9p := Q1j.out
                     have Q9q := Q1a.out
                     have Q9r := Q17.out
                     have Q9s := Q27.out
                     have Q9t := Q0z.out
                     have Q9u := Q1m.out
                     have Q9v : wc.cell? ⟨Q0b, 0, none⟩ = some (.slice none 0 0) := (blk_cell Q02.out 0).trans rfl
                     have Q9w : wc.cell? ⟨Q0b, 1, none⟩ = some (.slice none 0 0) := (blk_cell Q02.out 1).trans rfl
                     have Q9x := blk_frozen Q02.out 0
                     have Q9y := blk_frozen Q02.out 1
                     go_wp2
                     refine bodyPost_ret (results_list (rs := [.cell 6 25, .cell 7 29, .tmp 8]) rfl (by simp) (.cell Q0a 25 #[.slice none 0 0, .slice none 0 0] (0, 0) _ rfl (by (with_reducible repeat (first | refine bN ?_ _ | refine bD ?_ | refine bA ?_ _)); refine blk_far ?_ Q0o.out _; (with_reducible repeat (first | refine bN ?_ _ | refine bD ?_ | refine bA ?_ _)); refine blk_far ?_ Q0o.out _; (with_reducible repeat (first | refine bN ?_ _ | refine bD ?_ | refine bA ?_ _)); refine blk_put (cs := #[.slice none 0 0, .slice none 0 0]) ?_ 1 _ rfl; (with_reducible repeat (first | refine bN ?_ _ | refine bD ?_ | refine bA ?_ _)); refine blk_put (cs := #[.slice none 0 0, .slice none 0 0]) ?_ 0 _ rfl; (with_reducible repeat (first | refine bN ?_ _ | refine bD ?_ | refine bA ?_ _)); exact Q01.out) Try.underlying25 rfl (by kernel_rfl) (.cell Q0b 29 #[.slice none 0 0, .slice none 0 0] (0, 0) _ rfl (by (with_reducible repeat (first | refine bN ?_ _ | refine bD ?_ | refine bA ?_ _)); refine blk_put (cs := #[.slice none 0 0, .slice none 0 0]) ?_ 1 _ rfl; (with_reducible repeat (first | refine bN ?_ _ | refine bD ?_ | refine bA ?_ _)); refine blk_put (cs := #[.slice none 0 0, .slice none 0 0]) ?_ 0 _ rfl; (with_reducible repeat (first | refine bN ?_ _ | refine bD ?_ | refine bA ?_ _)); refine blk_far ?_ Q0p.out _; (with_reducible repeat (first | refine bN ?_ _ | refine bD ?_ | refine bA ?_ _)); refine blk_far ?_ Q0p.out _; (with_reducible repeat (first | refine bN ?_ _ | refine bD ?_ | refine bA ?_ _)); exact Q02.out) Try.underlying29 rfl (by kernel_rfl) (.tmp .nil)))) rfl ?_
                     exact ⟨_, _, _, _, by first | rfl | (simp [errW_none, errW_some] <;> rfl) | (simp [*, errW_none, errW_some] <;> rfl), by first | exact Kd.R_nil _ _ _ _ _ | exact Kd.N_nil _ _ _ _ _ | exact Kd.V_nil _ _ _ _ _ | exact Kd.Q_nil _ _ _ _ _ | exact Kd.S_nil _ _ _ _ _, by first | exact Kd.R_nil _ _ _ _ _ | exact Kd.N_nil _ _ _ _ _ | exact Kd.V_nil _ _ _ _ _ | exact Kd.Q_nil _ _ _ _ _ | exact Kd.S_nil _ _ _ _ _, by first | exact Kd.R_nil _ _ _ _ _ | exact Kd.N_nil _ _ _ _ _ | exact Kd.V_nil _ _ _ _ _ | exact Kd.Q_nil _ _ _ _ _ | exact Kd.S_nil _ _ _ _ _, by first | exact Kd.R_nil _ _ _ _ _ | exact Kd.N_nil _ _ _ _ _ | exact Kd.V_nil _ _ _ _ _ | exact Kd.Q_nil _ _ _ _ _ | exact Kd.S_nil _ _ _ _ _, by repeat (first | (with_reducible first | exact HB.out | apply wA | apply wN | apply wD | refine below_set ?_ Q1d.out | refine below_set ?_ Q1e.out | refine below_set ?_ Q1f.out | refine below_set ?_ Q1h.out | refine below_set ?_ Q2z.out | refine below_set ?_ Q3l.out | refine below_set ?_ Q4d.out) | exact HB.out)⟩
                    ·replace c119 := Bool.eq_false_iff.mpr c119
                     subst c119
                     have H1 : (if x115001_2.length < 5864062014805 then (graph_Remove.l1 kj84 l0_1 (l0_1.length : Int) (wrap64 (x81_2 + 1)) t107 t110 x115000_1 (x115001_2 ++ [(⟨((rd_T38 l0_1 x81_2).f0), (rd t107 ((rd_T38 l0_1 x81_2).f1)), (rd t107 ((rd_T38 l0_1 x81_2).f2))⟩ : S38)])) else (none)) = some (r1, r2, r3, r4, r5) := by rw [if_neg (show ¬ (false = true) by decide)] at H; exact H
                     clear H
                     have H := H1
                     clear H1
                     by_cases c133 : x115001_2.length < 5864062014805
                     ·rw [if_pos c133] at H
                      have LMc133 := Aside0.mk c133
                      clear c133
                      obtain ⟨y126, hy126⟩ : ∃ y_ : List (S38), y_ = (x115001_2 ++ [(⟨((rd_T38 l0_1 x81_2).f0), (rd t107 ((rd_T38 l0_1 x81_2).f1)), (rd t107 ((rd_T38 l0_1 x81_2).f2))⟩ : S38)]) := ⟨_, rfl⟩
                      replace H : (graph_Remove.l1 kj84 l0_1 (l0_1.length : Int) (wrap64 (x81_2 + 1)) t107 t110 x115000_1 y126) = some (r1, r2, r3, r4, r5) := by first | (rw [hy126]; with_reducible exact H) | (have H2_ := (Option.bind_some _ _).symm.trans H; rw [hy126]; with_reducible exact H2_) | (have H2_ := (Option.bind_some _ _).symm.trans H; with_reducible exact H2_) | with_reducible exact H | (rw [hy126]; exact H) | exact H
                      have Ny126 := Aside0.mk hy126
                      clear hy126
                      have H' := Aside0.mk H
                      clear H
                      have Q9z := Q23.out
                      have Qa0 := Q1q.out
                      have Qa1 := Q19.out
                      have Qa2 := Q1i.out
                      have Qa3 := Q1a.out
                      have Qa4 := Q1j.out
                      have Qa5 := Q20.out
                      have Qa6 := Q1k.out
                      have Qa7 := Q18.out
                      have Qa8 := Q28.out
                      have Qa9 := Q11.out
                      have Qaa := Q1t.out
                      have Qab : wc.cell? ⟨Q0k, 0, none⟩ = some (u115000) := (blk_cell Q06.out 0).trans rfl
                      have Qac : wc.cell? ⟨Q0k, 1, none⟩ = some (u115001) := (blk_cell Q06.out 1).trans rfl
                      have Qad := blk_frozen Q06.out 0
                      have Qae := blk_frozen Q06.out 1
                      have Qaf := Q1r.out
                      have Qag := Q10.out
                      have Qah := Q1l.out
                      have Qai := Q0y.out
                      have Qaj := Q1m.out
                      have Qak := Q0z.out
                      have Qal := Q1s.out
                      have Qam := Q0v.out
                      have Qan := Q1u.out
                      have Qao := Q0s.out
                      have Qap : wc.cell? ⟨Q05, 0, none⟩ = some (.int .i64 ((rd_T38 l0_1 x81_2).f0)) := (blk_cell Q08.out 0).trans rfl
                      have Qaq : wc.cell? ⟨Q05, 1, none⟩ = some (.int .i64 (rd t107 ((rd_T38 l0_1 x81_2).f1))) := (blk_cell Q08.out 1).trans rfl
                      have Qar : wc.cell? ⟨Q05, 2, none⟩ = some (.int .i64 (rd t107 ((rd_T38 l0_1 x81_2).f2))) := (blk_cell Q08.out 2).trans rfl
                      have Qas := blk_frozen Q08.out 0
                      have Qat := blk_frozen Q08.out 1
                      have Qau := blk_frozen Q08.out 2
                      go_wp2_with (first | ((with_reducible refine gate_builtin (b := .append) (xs := #[.tmp 118, .tmp 120]) rfl ?_); at_builtin; refine Kd.R_append k38 (w0 := w) w.heap.size rfl (.tmp 118) (.tmp 120) 23 38 (.agg #[(.int .i64 0), (.int .i64 0), (.int .i64 0)]) 24 rfl Try.underlying23 info38 rfl (by decide) (by omega) u115001 x115001_2 (⟨((rd_T38 l0_1 x81_2).f0), (rd t107 ((rd_T38 l0_1 x81_2).f1)), (rd t107 ((rd_T38 l0_1 x81_2).f2))⟩ : S38) [.int .i64 ((rd_T38 l0_1 x81_2).f0), .int .i64 (rd t107 ((rd_T38 l0_1 x81_2).f1)), .int .i64 (rd t107 ((rd_T38 l0_1 x81_2).f2))] (fun k_ => k_ ≠ Q03 ∧ k_ ≠ Q05) (fun _ => False) rfl rfl ?aP (fun _ hk => hk.elim) ?aF ?aO ?aB ?aS ?aL ?_; (case aP => exact k38_mkM _ _ _ (⟨((rd_T38 l0_1 x81_2).f0), (rd t107 ((rd_T38 l0_1 x81_2).f1)), (rd t107 ((rd_T38 l0_1 x81_2).f2))⟩ : S38)); (case aB => exact (pH HB)); (case aF => exact (fun k_ hk => ⟨Kd.freshB (g := Q03) (o := .cells #[.int .i64 ((rd_T38 l0_1 x81_2).f0), .int .i64 ((rd_T38 l0_1 x81_2).f1), .int .i64 ((rd_T38 l0_1 x81_2).f2)] 38 (0, 0)) (pB Q0d) k_ hk, Kd.freshB (g := Q05) (o := .cells #[.int .i64 ((rd_T38 l0_1 x81_2).f0), .int .i64 (rd t107 ((rd_T38 l0_1 x81_2).f1)), .int .i64 (rd t107 ((rd_T38 l0_1 x81_2).f2))] 38 (0, 0)) (pB Q08) k_ hk⟩)); (case aO => exact (pR Q0i)); (case aS => exact (below_size (pH HB))); (case aL => have := LMc133.out; omega); intro v127 w147 ho hb hg hat; rw [← Ny126.out] at ho; replace Q09 := Aside0.mk (Kd.R_over' (pR Q09) (Kd.R_typed (pR Q0i)) (by decide) hg); replace Q0f := Aside0.mk (Kd.R_over' (pR Q0f) (Kd.R_typed (pR Q0i)) (by decide) hg); replace Q0h := Aside0.mk (Kd.R_over' (pR Q0h) (Kd.R_typed (pR Q0i)) (by decide) hg); replace Q00 := Aside0.mk (bG (g := Q07) (o := .cells #[.slice A0_0 l0_0.length c0_0, .slice (some ad120) l0_1.length c0_1] 25 (0, 0)) (pB Q00) hg (Kd.R_ne Q0i.out Q00.out (by decide))); replace Q01 := Aside0.mk (bG (g := Q0a) (o := .cells #[.slice none 0 0, .slice none 0 0] 25 (0, 0)) (pB Q01) hg (Kd.R_ne Q0i.out Q01.out (by decide))); replace Q02 := Aside0.mk (bG (g := Q0b) (o := .cells #[.slice none 0 0, .slice none 0 0] 29 (0, 0)) (pB Q02) hg (Kd.R_ne Q0i.out Q02.out (by decide))); replace Q04 := Aside0.mk (bG (g := Q0c) (o := .cells #[.slice (some ad123) t107.length Q0e, .slice (some ad122) t110.length Q0g] 29 (0, 0)) (pB Q04) hg (Kd.R_ne Q0i.out Q04.out (by decide))); replace Q06 := Aside0.mk (bG (g := Q0k) (o := .cells #[u115000, u115001] 25 (0, 0)) (pB Q06) hg (Kd.R_ne Q0i.out Q06.out (by decide))); replace Q0d := Aside0.mk (bG (g := Q03) (o := .cells #[.int .i64 ((rd_T38 l0_1 x81_2).f0), .int .i64 ((rd_T38 l0_1 x81_2).f1), .int .i64 ((rd_T38 l0_1 x81_2).f2)] 38 (0, 0)) (pB Q0d) hg (Kd.R_away Q0i.out (fun _ hk => hk.1))); replace Q08 := Aside0.mk (bG (g := Q05) (o := .cells #[.int .i64 ((rd_T38 l0_1 x81_2).f0), .int .i64 (rd t107 ((rd_T38 l0_1 x81_2).f1)), .int .i64 (rd t107 ((rd_T38 l0_1 x81_2).f2))] 38 (0, 0)) (pB Q08) hg (Kd.R_away Q0i.out (fun _ hk => hk.2))); replace HB := Aside0.mk (hb); have Q3m := Aside0.mk (ho); clear Q0i; clear ho hb hg hat; obtain ⟨Q21, Q22, Q4q⟩ := Kd.R_slice Q3m.out; subst Q4q; have Qav : w147.cell? ⟨Q0k, 0, none⟩ = some (u115000) := (blk_cell Q06.out 0).trans rfl; have Qaw : w147.cell? ⟨Q0k, 1, none⟩ = some (u115001) := (blk_cell Q06.out 1).trans rfl; have Qax := blk_frozen Q06.out 0; have Qay := blk_frozen Q06.out 1))
                      go_roundg kj84
                      case measure => have := HK1.out; have := HK2.out; have := HJ84.out; omega
                      case rel => exact ⟨(wrap64 (x81_2 + 1)), (y126), (.slice Q21 y126.length Q22), rS, H', ⟨by have := HK1.out; have := HK2.out; have := HJ84.out; omega⟩, ⟨by (with_reducible repeat (first | apply rA | apply rN | apply rD)); exact Kd.R_mono (Kd.R_far (p := ⟨Q0k, 1, none⟩) (Kd.R_types Q09.out Q06.out (by decide)) (fun _ hk => hk.2) (.slice Q21 y126.length Q22)) (fun _ hk => ⟨hk.1.1, hk.1.2⟩)⟩, ⟨by (with_reducible repeat (first | apply rA | apply rN | apply rD)); exact Kd.R_mono (Kd.R_far (p := ⟨Q0k, 1, none⟩) (Kd.R_types Q0f.out Q06.out (by decide)) (fun _ hk => hk.2) (.slice Q21 y126.length Q22)) (fun _ hk => ⟨hk.1.1, hk.1.2⟩)⟩, ⟨by (with_reducible repeat (first | apply rA | apply rN | apply rD)); exact Kd.R_mono (Kd.R_far (p := ⟨Q0k, 1, none⟩) (Kd.R_types Q0h.out Q06.out (by decide)) (fun _ hk => hk.2) (.slice Q21 y126.length Q22)) (fun _ hk => ⟨hk.1.1, hk.1.2⟩)⟩, ⟨by (with_reducible repeat (first | apply rA | apply rN | apply rD)); exact Kd.R_mono (Kd.R_far (p := ⟨Q0k, 1, none⟩) (Kd.R_types Q3m.out Q06.out (by decide)) (fun _ hk => hk.2) (.slice Q21 y126.length Q22)) (fun _ hk => trivial)⟩, ⟨by (with_reducible repeat (first | refine bN ?_ _ | refine bD ?_ | refine bA ?_ _)); refine blk_far ?_ Q1q.out _; (with_reducible repeat (first | refine bN ?_ _ | refine bD ?_ | refine bA ?_ _)); exact Q00.out⟩, ⟨by (with_reducible repeat (first | refine bN ?_ _ | refine bD ?_ | refine bA ?_ _)); refine blk_far ?_ Q1i.out _; (with_reducible repeat (first | refine bN ?_ _ | refine bD ?_ | refine bA ?_ _)); exact Q01.out⟩, ⟨by (with_reducible repeat (first | refine bN ?_ _ | refine bD ?_ | refine bA ?_ _)); refine blk_far ?_ Q1j.out _; (with_reducible repeat (first | refine bN ?_ _ | refine bD ?_ | refine bA ?_ _)); exact Q02.out⟩, ⟨by (with_reducible repeat (first | refine bN ?_ _ | refine bD ?_ | refine bA ?_ _)); refine blk_far ?_ Q1k.out _; (with_reducible repeat (first | refine bN ?_ _ | refine bD ?_ | refine bA ?_ _)); exact Q04.out⟩, ⟨by (with_reducible repeat (first | refine bN ?_ _ | refine bD ?_ | refine bA ?_ _)); refine blk_put (cs := #[u115000, u115001]) ?_ 1 _ rfl; (with_reducible repeat (first | refine bN ?_ _ | refine bD ?_ | refine bA ?_ _)); exact Q06.out⟩, ⟨pH HB⟩⟩
                     ·rw [if_neg c133] at H
                      exact absurd H (by simp)
                 ·rw [if_neg c84] at H
                  exact absurd H (by simp)
                ·rw [if_neg c83] at H
                 exact absurd H (by simp)
               ·rw [if_neg c82] at H
                exact absurd H (by simp)
              ·rw [if_neg c81] at H
               exact absurd H (by simp)
            ·rw [if_neg c67] at H
             exact absurd H (by simp)
           ·rw [if_neg c66] at H
            exact absurd H (by simp)
          ·rw [if_neg c65] at H
           exact absurd H (by simp)
         ·rw [if_neg c64] at H
          have c64b0 : decide (x81_2 < (l0_1.length : Int)) = false := decide_eq_false c64
          clear c64
          simp only [Option.some.injEq, Prod.mk.injEq] at H
          obtain ⟨rfl, rfl, rfl, rfl, rfl⟩ := H
          try go_wp2
          replace Q09 := Aside0.mk (rD Q09.out)
          replace Q0f := Aside0.mk (rD Q0f.out)
          replace Q0h := Aside0.mk (rD Q0h.out)
          replace Q0i := Aside0.mk (rD Q0i.out)
          replace Q00 := Aside0.mk (bD Q00.out)
          replace Q01 := Aside0.mk (bD Q01.out)
          replace Q02 := Aside0.mk (bD Q02.out)
          replace Q04 := Aside0.mk (bD Q04.out)
          replace Q06 := Aside0.mk (bD Q06.out)
          replace HB := Aside0.mk (wD HB.out)
          obtain ⟨Q1n, Q1o, Q3n⟩ := Kd.R_slice Q0h.out
          (first | subst Q3n | (injection Q3n with f1_ f2_ f3_; have f4_ := f1_.symm; have f5_ := f3_.symm; clear f1_ f2_ f3_; subst f4_; subst f5_))
          obtain ⟨Q1v, Q1w, Q3o⟩ := Kd.R_slice Q0i.out
          (first | subst Q3o | (injection Q3o with f1_ f2_ f3_; have f4_ := f1_.symm; have f5_ := f3_.symm; clear f1_ f2_ f3_; subst f4_; subst f5_))
          refine start_ (n := 5) (S := fun w' => w'.cell? ⟨Q0k, 0, none⟩ = some (.slice Q1n x115000_1.length Q1o) ∧ w'.cell? ⟨Q0k, 1, none⟩ = some (.slice Q1v x115001_2.length Q1w) ∧ w'.cell? ⟨Q0c, 0, none⟩ = some (.slice Q0j t107.length Q0e) ∧ w'.cell? ⟨Q0c, 1, none⟩ = some (.slice Q0l t110.length Q0g)) (ds := []) #[false, false, false, false, false] (by kernel_rfl) rfl rfl ⟨(blk_cell Q06.out 0).trans rfl, (blk_cell Q06.out 1).trans rfl, (blk_cell Q04.out 0).trans rfl, (blk_cell Q04.out 1).trans rfl⟩ (fun hHeld => ?_)
          generalize wr.drew = w150 at Q09 Q0f Q0h Q0i Q00 Q01 Q02 Q04 Q06 HB hHeld ⊢
          refine take_ (i := 0) (N := some 124) (v := ?_) (a' := ?_) #[true, false, false, false, false] rfl rfl (by kernel_rfl) (fun _ _ _ h => h) (Or.inl ⟨by rfl, ?_⟩) hHeld ?_ ?_
          rotate_left
          ·rintro w' ⟨s0, s1, s2, s3⟩
           go_simp
           with_reducible rfl
          rotate_left
          ·simp only [Act.put, List.setIfInBounds_toArray, List.set_cons_zero, List.set_cons_succ, i64_w, i32_w]
           rfl
          refine take_ (i := 1) (N := some 125) (v := ?_) (a' := ?_) #[true, true, false, false, false] rfl rfl (by kernel_rfl) (fun _ _ _ h => h) (Or.inl ⟨by rfl, ?_⟩) hHeld ?_ ?_
          rotate_left
          ·rintro w' ⟨s0, s1, s2, s3⟩
           go_simp
           with_reducible rfl
          rotate_left
          ·simp only [Act.put, List.setIfInBounds_toArray, List.set_cons_zero, List.set_cons_succ, i64_w, i32_w]
           rfl
          refine one_ (i := 2) (N := none) #[true, true, true, false, false] rfl rfl (by kernel_rfl) (by decide) (fun K hK => ?_)
          have Qaz : w150.cell? ⟨Q0a, 0, none⟩ = some (.slice none 0 0) := (blk_cell Q01.out 0).trans rfl
          have Qb0 := blk_frozen Q01.out 0
          have Qb1 := Q12.out
          have Qb2 := Q0p.out
          have Qb3 := Q0t.out
          have Qb4 := Q19.out
          have Qb5 := Q13.out
          have Qb6 := Q0o.out
          have Qb7 := Q0q.out
          have Qb8 := Q1i.out
          have Qb9 : w150.cell? ⟨Q0a, 1, none⟩ = some (.slice none 0 0) := (blk_cell Q01.out 1).trans rfl
          have Qba := blk_frozen Q01.out 1
          have Qbb := Q12.out
          have Qbc := Q0p.out
          have Qbd := Q0t.out
          have Qbe := Q19.out
          have Qbf := Q13.out
          have Qbg := Q0o.out
          have Qbh := Q0q.out
          have Qbi := Q1i.out
          refine skip_ (w1 := ?_) (by rfl) rfl ?_ ?_
          rotate_left
          ·go_simp
           rfl
          refine hK.out _ _ ⟨((cell_far (p := ⟨Q0a, _, none⟩) Q19.out _).trans (((cell_far (p := ⟨Q0a, _, none⟩) Q19.out _).trans (hHeld.1)))), ((cell_far (p := ⟨Q0a, _, none⟩) Q19.out _).trans (((cell_far (p := ⟨Q0a, _, none⟩) Q19.out _).trans (hHeld.2.1)))), ((cell_far (p := ⟨Q0a, _, none⟩) Q0t.out _).trans (((cell_far (p := ⟨Q0a, _, none⟩) Q0t.out _).trans (hHeld.2.2.1)))), ((cell_far (p := ⟨Q0a, _, none⟩) Q0t.out _).trans (((cell_far (p := ⟨Q0a, _, none⟩) Q0t.out _).trans (hHeld.2.2.2))))⟩ (fun hHeld => ?_)
          clear hK K
          refine one_ (i := 3) (N := none) #[true, true, true, true, false] rfl rfl (by kernel_rfl) (by decide) (fun K hK => ?_)
          have Qbj : w150.cell? ⟨Q0b, 0, none⟩ = some (.slice none 0 0) := (blk_cell Q02.out 0).trans rfl
          have Qbk := blk_frozen Q02.out 0
          have Qbl := Q14.out
          have Qbm := Q0o.out
          have Qbn := Q0u.out
          have Qbo := Q1a.out
          have Qbp := Q15.out
          have Qbq := Q0p.out
          have Qbr := Q0r.out
          have Qbs := Q1j.out
          have Qbt : w150.cell? ⟨Q0b, 1, none⟩ = some (.slice none 0 0) := (blk_cell Q02.out 1).trans rfl
          have Qbu := blk_frozen Q02.out 1
          have Qbv := Q14.out
          have Qbw := Q0o.out
          have Qbx := Q0u.out
          have Qby := Q1a.out
          have Qbz := Q15.out
          have Qc0 := Q0p.out
          have Qc1 := Q0r.out
          have Qc2 := Q1j.out
          refine skip_ (w1 := ?_) (by rfl) rfl ?_ ?_
          rotate_left
          ·go_simp
           rfl
          refine hK.out _ _ ⟨((cell_far (p := ⟨Q0b, _, none⟩) Q1a.out _).trans (((cell_far (p := ⟨Q0b, _, none⟩) Q1a.out _).trans (hHeld.1)))), ((cell_far (p := ⟨Q0b, _, none⟩) Q1a.out _).trans (((cell_far (p := ⟨Q0b, _, none⟩) Q1a.out _).trans (hHeld.2.1)))), ((cell_far (p := ⟨Q0b, _, none⟩) Q0u.out _).trans (((cell_far (p := ⟨Q0b, _, none⟩) Q0u.out _).trans (hHeld.2.2.1)))), ((cell_far (p := ⟨Q0b, _, none⟩) Q0u.out _).trans (((cell_far (p := ⟨Q0b, _, none⟩) Q0u.out _).trans (hHeld.2.2.2))))⟩ (fun hHeld => ?_)
          clear hK K
          refine pure_ (i := 4) (N := some 8) (v := ?_) (a' := ?_) #[true, true, true, true, true] rfl rfl (by kernel_rfl) (fun _ _ _ h => h) (Or.inl ⟨by rfl, ?_⟩) ?_ ?_
          rotate_left
          ·intro w'
           go_simp
           with_reducible rfl
          rotate_left
          ·simp only [Act.put, List.setIfInBounds_toArray, List.set_cons_zero, List.set_cons_succ, i64_w, i32_w]
           rfl
          refine done_ (by kernel_rfl) ?_
          try go_wp2
          refine bodyPost_ret (results_list (rs := [.cell 6 25, .cell 7 29, .tmp 8]) rfl (by simp) (.cell Q0a 25 #[.slice Q1n x115000_1.length Q1o, .slice Q1v x115001_2.length Q1w] (0, 0) _ rfl (by (with_reducible repeat (first | refine bN ?_ _ | refine bD ?_ | refine bA ?_ _)); refine blk_far ?_ Q0o.out _; (with_reducible repeat (first | refine bN ?_ _ | refine bD ?_ | refine bA ?_ _)); refine blk_far ?_ Q0o.out _; (with_reducible repeat (first | refine bN ?_ _ | refine bD ?_ | refine bA ?_ _)); refine blk_put (cs := #[.slice Q1n x115000_1.length Q1o, .slice none 0 0]) ?_ 1 _ rfl; (with_reducible repeat (first | refine bN ?_ _ | refine bD ?_ | refine bA ?_ _)); refine blk_put (cs := #[.slice none 0 0, .slice none 0 0]) ?_ 0 _ rfl; (with_reducible repeat (first | refine bN ?_ _ | refine bD ?_ | refine bA ?_ _)); exact Q01.out) Try.underlying25 rfl (by kernel_rfl) (.cell Q0b 29 #[.slice Q0j t107.length Q0e, .slice Q0l t110.length Q0g] (0, 0) _ rfl (by (with_reducible repeat (first | refine bN ?_ _ | refine bD ?_ | refine bA ?_ _)); refine blk_put (cs := #[.slice Q0j t107.length Q0e, .slice none 0 0]) ?_ 1 _ rfl; (with_reducible repeat (first | refine bN ?_ _ | refine bD ?_ | refine bA ?_ _)); refine blk_put (cs := #[.slice none 0 0, .slice none 0 0]) ?_ 0 _ rfl; (with_reducible repeat (first | refine bN ?_ _ | refine bD ?_ | refine bA ?_ _)); refine blk_far ?_ Q0p.out _; (with_reducible repeat (first | refine bN ?_ _ | refine bD ?_ | refine bA ?_ _)); refine blk_far ?_ Q0p.out _; (with_reducible repeat (first | refine bN ?_ _ | refine bD ?_ | refine bA ?_ _)); exact Q02.out) Try.underlying29 rfl (by kernel_rfl) (.tmp .nil)))) rfl ?_
          exact ⟨_, _, _, _, by first | rfl | (simp [errW_none, errW_some] <;> rfl) | (simp [*, errW_none, errW_some] <;> rfl), by (with_reducible repeat (first | apply rA | apply rN | apply rD)); exact Kd.R_mono (Kd.R_far (p := ⟨Q0b, 1, none⟩) (Kd.R_far (p := ⟨Q0b, 0, none⟩) (Kd.R_far (p := ⟨Q0a, 1, none⟩) (Kd.R_far (p := ⟨Q0a, 0, none⟩) (Kd.R_types (Kd.R_types Q0h.out Q01.out (by decide)) Q02.out (by decide)) (fun _ hk => hk.1.2) (.slice Q1n x115000_1.length Q1o)) (fun _ hk => hk.1.2) (.slice Q1v x115001_2.length Q1w)) (fun _ hk => hk.2) (.slice Q0j t107.length Q0e)) (fun _ hk => hk.2) (.slice Q0l t110.length Q0g)) (fun _ hk => ⟨hk.1.1.1, hk.1.1.2⟩), by (with_reducible repeat (first | apply rA | apply rN | apply rD)); exact Kd.R_mono (Kd.R_far (p := ⟨Q0b, 1, none⟩) (Kd.R_far (p := ⟨Q0b, 0, none⟩) (Kd.R_far (p := ⟨Q0a, 1, none⟩) (Kd.R_far (p := ⟨Q0a, 0, none⟩) (Kd.R_types (Kd.R_types Q0i.out Q01.out (by decide)) Q02.out (by decide)) (fun _ hk => hk.1.2) (.slice Q1n x115000_1.length Q1o)) (fun _ hk => hk.1.2) (.slice Q1v x115001_2.length Q1w)) (fun _ hk => hk.2) (.slice Q0j t107.length Q0e)) (fun _ hk => hk.2) (.slice Q0l t110.length Q0g)) (fun _ hk => trivial), by (with_reducible repeat (first | apply rA | apply rN | apply rD)); exact Kd.R_mono (Kd.R_far (p := ⟨Q0b, 1, none⟩) (Kd.R_far (p := ⟨Q0b, 0, none⟩) (Kd.R_far (p := ⟨Q0a, 1, none⟩) (Kd.R_far (p := ⟨Q0a, 0, none⟩) (Kd.R_types (Kd.R_types Q09.out Q01.out (by decide)) Q02.out (by decide)) (fun _ hk => hk.1.2) (.slice Q1n x115000_1.length Q1o)) (fun _ hk => hk.1.2) (.slice Q1v x115001_2.length Q1w)) (fun _ hk => hk.2) (.slice Q0j t107.length Q0e)) (fun _ hk => hk.2) (.slice Q0l t110.length Q0g)) (fun _ hk => ⟨hk.1.1.2, hk.1.1.1⟩), by (with_reducible repeat (first | apply rA | apply rN | apply rD)); exact Kd.R_mono (Kd.R_far (p := ⟨Q0b, 1, none⟩) (Kd.R_far (p := ⟨Q0b, 0, none⟩) (Kd.R_far (p := ⟨Q0a, 1, none⟩) (Kd.R_far (p := ⟨Q0a, 0, none⟩) (Kd.R_types (Kd.R_types Q0f.out Q01.out (by decide)) Q02.out (by decide)) (fun _ hk => hk.1.2) (.slice Q1n x115000_1.length Q1o)) (fun _ hk => hk.1.2) (.slice Q1v x115001_2.length Q1w)) (fun _ hk => hk.2) (.slice Q0j t107.length Q0e)) (fun _ hk => hk.2) (.slice Q0l t110.length Q0g)) (fun _ hk => ⟨hk.1.1.2, hk.1.1.1⟩), by repeat (first | (with_reducible first | exact HB.out | apply wA | apply wN | apply wD | refine below_set ?_ Q1d.out | refine below_set ?_ Q1e.out | refine below_set ?_ Q1f.out | refine below_set ?_ Q1h.out | refine below_set ?_ Q2z.out) | exact HB.out)⟩
   ·rw [if_neg c9] at H
    have c9b0 : (t106 == 0) = false := beq_eq_false_iff_ne.mpr c9
    have c9b1 : (t106 != 0) = true := bne_iff_ne.mpr c9
    simp only [Option.some.injEq, Prod.mk.injEq] at H
    obtain ⟨rfl, rfl, rfl, rfl, rfl⟩ := H
    go_enter Try.func12, Try.ntmps12
    go_wp2_with (first | ((with_reducible refine gate_dst (N := 3) rfl ?_); refine box_event ?hg (N := 3) ?hd (cs := #[.slice A0_0 l0_0.length c0_0, .slice A0_1 l0_1.length c0_1]) (t := 25) ?hr ?_; (case hd => rfl); (case hg => rfl); (case hr => first | (go_simp; done) | (go_simp; rfl)); intro Q07 hg w157 hbox hb; have Q00 := Aside0.mk (hbox); have Q29 := Aside0.mk ((by rw [hg]; exact (below_size hB) : w.heap.size ≤ Q07)); have Q1d := Aside0.mk ((by rw [hg]; exact (below_size hB) : w.heap.size ≤ Q07)); replace HB := uH HB hb; clear hb hbox hg) | ((with_reducible refine gate_dst (N := 6) rfl ?_); refine box_event ?hg (N := 6) ?hd (cs := #[.slice none 0 0, .slice none 0 0]) (t := 25) ?hr ?_; (case hd => rfl); (case hg => rfl); (case hr => first | (go_simp; done) | (go_simp; rfl)); intro Q0a hg w158 hbox hb; have Q01 := Aside0.mk (hbox); have Q2a := uS HB hg; have Q1e := uS HB hg; replace HB := uH HB hb; have Q12 := uL Q00 hg; have Q13 := uG Q00 hg; replace Q00 := uB Q00 hb; clear hb hbox hg) | ((with_reducible refine gate_dst (N := 7) rfl ?_); refine box_event ?hg (N := 7) ?hd (cs := #[.slice none 0 0, .slice none 0 0]) (t := 29) ?hr ?_; (case hd => rfl); (case hg => rfl); (case hr => first | (go_simp; done) | (go_simp; rfl)); intro Q0b hg w159 hbox hb; have Q02 := Aside0.mk (hbox); have Q2b := uS HB hg; have Q1f := uS HB hg; replace HB := uH HB hb; have Q14 := uL Q00 hg; have Q15 := uG Q00 hg; replace Q00 := uB Q00 hb; have Q0o := uL Q01 hg; have Q0p := uG Q01 hg; replace Q01 := uB Q01 hb; clear hb hbox hg; have Qc3 := Q12.out; have Qc4 := Q13.out; have Qc5 := Q14.out; have Qc6 := Q15.out; have Qc7 : w159.cell? ⟨Q07, 0, none⟩ = some (.slice A0_0 l0_0.length c0_0) := (blk_cell Q00.out 0).trans rfl; have Qc8 : w159.cell? ⟨Q07, 1, none⟩ = some (.slice A0_1 l0_1.length c0_1) := (blk_cell Q00.out 1).trans rfl; have Qc9 := blk_frozen Q00.out 0; have Qca := blk_frozen Q00.out 1) | ((with_reducible refine gate_callee (f := 26) rfl ?_); refine goesL_ (some 20) rfl rfl Try.func26 (by kernel_rfl) rfl #[.agg #[.slice A0_0 l0_0.length c0_0, .slice A0_1 l0_1.length c0_1]] rfl aM ?_; (with_reducible refine (graph_Valid.calls _ _ l0_0 _ _ l0_1 t104 _ ?side1 ?side2 ?side3 ?side4 A4.out).mono ?_); (case side1 => repeat (first | exact (cB HR0_0.out HB.out) | (with_reducible refine cA ?_ _) | (with_reducible refine cN ?_ _) | (with_reducible refine cD ?_))); (case side2 => exact HC0_0.out); (case side3 => repeat (first | exact (cB HR0_1.out HB.out) | (with_reducible refine cA ?_ _) | (with_reducible refine cN ?_ _) | (with_reducible refine cD ?_))); (case side4 => exact HC0_1.out); rintro e w163 ⟨rfl, hb⟩; refine ⟨_, rfl, ?_⟩; replace Q00 := uB Q00 hb; replace Q01 := uB Q01 hb; replace Q02 := uB Q02 hb; replace HB := uH HB hb; (try clear hb); (try clear hb2); (try clear hk); (try clear hi); have Qcb : w163.cell? ⟨Q07, 0, none⟩ = some (.slice A0_0 l0_0.length c0_0) := (blk_cell Q00.out 0).trans rfl; have Qcc : w163.cell? ⟨Q07, 1, none⟩ = some (.slice A0_1 l0_1.length c0_1) := (blk_cell Q00.out 1).trans rfl; have Qcd := blk_frozen Q00.out 0; have Qce := blk_frozen Q00.out 1) | ((with_reducible refine gate_callee (f := 39) rfl ?_); refine goesL_ (some 30) rfl rfl Try.func39 (by kernel_rfl) rfl #[.slice A1 l1.length c1, .int .i64 (l0_0.length : Int)] rfl aM ?_; (with_reducible refine (graph_ascending.calls k _ _ l1 (l0_0.length : Int) t105 _ ?side1 ?side2 A6.out).mono ?_); (case side1 => repeat (first | exact (cB HR1.out HB.out) | (with_reducible refine cA ?_ _) | (with_reducible refine cN ?_ _) | (with_reducible refine cD ?_))); (case side2 => exact HC1.out); rintro e w' ⟨rfl, ⟨nd, rfl⟩⟩; refine ⟨_, rfl, ?_⟩; (try (rw [drewN_self w163]; generalize hq_ : World.drewN w163 _ = w163; have n0_ : Aside0 (w163.heap[Q07]? = some (.cells #[.slice A0_0 l0_0.length c0_0, .slice A0_1 l0_1.length c0_1] 25 (0, 0))) := ⟨by rw [← hq_]; exact (pB Q00)⟩; have n1_ : Aside0 (w163.heap[Q0a]? = some (.cells #[.slice none 0 0, .slice none 0 0] 25 (0, 0))) := ⟨by rw [← hq_]; exact (pB Q01)⟩; have n2_ : Aside0 (w163.heap[Q0b]? = some (.cells #[.slice none 0 0, .slice none 0 0] 29 (0, 0))) := ⟨by rw [← hq_]; exact (pB Q02)⟩; have n3_ : Aside0 (Below w.heap.size w w163) := ⟨by rw [← hq_]; exact (pH HB)⟩; clear Q00 Q01 Q02 HB hq_; have Q00 := n0_; have Q01 := n1_; have Q02 := n2_; have HB := n3_; clear n0_ n1_ n2_ n3_)); have Qcf : w163.cell? ⟨Q07, 0, none⟩ = some (.slice A0_0 l0_0.length c0_0) := (blk_cell Q00.out 0).trans rfl; have Qcg : w163.cell? ⟨Q07, 1, none⟩ = some (.slice A0_1 l0_1.length c0_1) := (blk_cell Q00.out 1).trans rfl; have Qch := blk_frozen Q00.out 0; have Qci := blk_frozen Q00.out 1) | ((with_reducible refine gate_callee (f := 39) rfl ?_); refine goesL_ (some 40) rfl rfl Try.func39 (by kernel_rfl) rfl #[.slice A2 l2.length c2, .int .i64 (l0_1.length : Int)] rfl aM ?_; (with_reducible refine (graph_ascending.calls k _ _ l2 (l0_1.length : Int) t106 _ ?side1 ?side2 A8.out).mono ?_); (case side1 => repeat (first | exact (cB HR2.out HB.out) | (with_reducible refine cA ?_ _) | (with_reducible refine cN ?_ _) | (with_reducible refine cD ?_))); (case side2 => exact HC2.out); rintro e w' ⟨rfl, ⟨nd, rfl⟩⟩; refine ⟨_, rfl, ?_⟩; (try (rw [drewN_self w163]; generalize hq_ : World.drewN w163 _ = w163; have n0_ : Aside0 (w163.heap[Q07]? = some (.cells #[.slice A0_0 l0_0.length c0_0, .slice A0_1 l0_1.length c0_1] 25 (0, 0))) := ⟨by rw [← hq_]; exact (pB Q00)⟩; have n1_ : Aside0 (w163.heap[Q0a]? = some (.cells #[.slice none 0 0, .slice none 0 0] 25 (0, 0))) := ⟨by rw [← hq_]; exact (pB Q01)⟩; have n2_ : Aside0 (w163.heap[Q0b]? = some (.cells #[.slice none 0 0, .slice none 0 0] 29 (0, 0))) := ⟨by rw [← hq_]; exact (pB Q02)⟩; have n3_ : Aside0 (Below w.heap.size w w163) := ⟨by rw [← hq_]; exact (pH HB)⟩; clear Q00 Q01 Q02 HB hq_; have Q00 := n0_; have Q01 := n1_; have Q02 := n2_; have HB := n3_; clear n0_ n1_ n2_ n3_)); have Qcj := Q0o.out; have Qck := Q0p.out; have Qcl : w163.cell? ⟨Q0a, 0, none⟩ = some (.slice none 0 0) := (blk_cell Q01.out 0).trans rfl; have Qcm : w163.cell? ⟨Q0a, 1, none⟩ = some (.slice none 0 0) := (blk_cell Q01.out 1).trans rfl; have Qcn := blk_frozen Q01.out 0; have Qco := blk_frozen Q01.out 1; have Qcp : w163.cell? ⟨Q0b, 0, none⟩ = some (.slice none 0 0) := (blk_cell Q02.out 0).trans rfl; have Qcq : w163.cell? ⟨Q0b, 1, none⟩ = some (.slice none 0 0) := (blk_cell Q02.out 1).trans rfl; have Qcr := blk_frozen Q02.out 0; have Qcs := blk_frozen Q02.out 1))
    refine bodyPost_ret (results_list (rs := [.cell 6 25, .cell 7 29, .tmp 8]) rfl (by simp) (.cell Q0a 25 #[.slice none 0 0, .slice none 0 0] (0, 0) _ rfl (by (with_reducible repeat (first | refine bN ?_ _ | refine bD ?_ | refine bA ?_ _)); refine blk_far ?_ Q0o.out _; (with_reducible repeat (first | refine bN ?_ _ | refine bD ?_ | refine bA ?_ _)); refine blk_far ?_ Q0o.out _; (with_reducible repeat (first | refine bN ?_ _ | refine bD ?_ | refine bA ?_ _)); refine blk_put (cs := #[.slice none 0 0, .slice none 0 0]) ?_ 1 _ rfl; (with_reducible repeat (first | refine bN ?_ _ | refine bD ?_ | refine bA ?_ _)); refine blk_put (cs := #[.slice none 0 0, .slice none 0 0]) ?_ 0 _ rfl; (with_reducible repeat (first | refine bN ?_ _ | refine bD ?_ | refine bA ?_ _)); exact Q01.out) Try.underlying25 rfl (by kernel_rfl) (.cell Q0b 29 #[.slice none 0 0, .slice none 0 0] (0, 0) _ rfl (by (with_reducible repeat (first | refine bN ?_ _ | refine bD ?_ | refine bA ?_ _)); refine blk_put (cs := #[.slice none 0 0, .slice none 0 0]) ?_ 1 _ rfl; (with_reducible repeat (first | refine bN ?_ _ | refine bD ?_ | refine bA ?_ _)); refine blk_put (cs := #[.slice none 0 0, .slice none 0 0]) ?_ 0 _ rfl; (with_reducible repeat (first | refine bN ?_ _ | refine bD ?_ | refine bA ?_ _)); refine blk_far ?_ Q0p.out _; (with_reducible repeat (first | refine bN ?_ _ | refine bD ?_ | refine bA ?_ _)); refine blk_far ?_ Q0p.out _; (with_reducible repeat (first | refine bN ?_ _ | refine bD ?_ | refine bA ?_ _)); exact Q02.out) Try.underlying29 rfl (by kernel_rfl) (.tmp .nil)))) rfl ?_
    exact ⟨_, _, _, _, by first | rfl | (simp [errW_none, errW_some] <;> rfl) | (simp [*, errW_none, errW_some] <;> rfl), by first | exact Kd.R_nil _ _ _ _ _ | exact Kd.N_nil _ _ _ _ _ | exact Kd.V_nil _ _ _ _ _ | exact Kd.Q_nil _ _ _ _ _ | exact Kd.S_nil _ _ _ _ _, by first | exact Kd.R_nil _ _ _ _ _ | exact Kd.N_nil _ _ _ _ _ | exact Kd.V_nil _ _ _ _ _ | exact Kd.Q_nil _ _ _ _ _ | exact Kd.S_nil _ _ _ _ _, by first | exact Kd.R_nil _ _ _ _ _ | exact Kd.N_nil _ _ _ _ _ | exact Kd.V_nil _ _ _ _ _ | exact Kd.Q_nil _ _ _ _ _ | exact Kd.S_nil _ _ _ _ _, by first | exact Kd.R_nil _ _ _ _ _ | exact Kd.N_nil _ _ _ _ _ | exact Kd.V_nil _ _ _ _ _ | exact Kd.Q_nil _ _ _ _ _ | exact Kd.S_nil _ _ _ _ _, by repeat (first | (with_reducible first | exact HB.out | apply wA | apply wN | apply wD | refine below_set ?_ Q1d.out | refine below_set ?_ Q1e.out | refine below_set ?_ Q1f.out) | exact HB.out)⟩
  ·rw [if_neg c7] at H
   have c7b0 : (t105 == 0) = false := beq_eq_false_iff_ne.mpr c7
   have c7b1 : (t105 != 0) = true := bne_iff_ne.mpr c7
   simp only [Option.some.injEq, Prod.mk.injEq] at H
   obtain ⟨rfl, rfl, rfl, rfl, rfl⟩ := H
   go_enter Try.func12, Try.ntmps12
   go_wp2_with (first | ((with_reducible refine gate_dst (N := 3) rfl ?_); refine box_event ?hg (N := 3) ?hd (cs := #[.slice A0_0 l0_0.length c0_0, .slice A0_1 l0_1.length c0_1]) (t := 25) ?hr ?_; (case hd => rfl); (case hg => rfl); (case hr => first | (go_simp; done) | (go_simp; rfl)); intro Q07 hg w169 hbox hb; have Q00 := Aside0.mk (hbox); have Q29 := Aside0.mk ((by rw [hg]; exact (below_size hB) : w.heap.size ≤ Q07)); have Q1d := Aside0.mk ((by rw [hg]; exact (below_size hB) : w.heap.size ≤ Q07)); replace HB := uH HB hb; clear hb hbox hg) | ((with_reducible refine gate_dst (N := 6) rfl ?_); refine box_event ?hg (N := 6) ?hd (cs := #[.slice none 0 0, .slice none 0 0]) (t := 25) ?hr ?_; (case hd => rfl); (case hg => rfl); (case hr => first | (go_simp; done) | (go_simp; rfl)); intro Q0a hg w170 hbox hb; have Q01 := Aside0.mk (hbox); have Q2a := uS HB hg; have Q1e := uS HB hg; replace HB := uH HB hb; have Q12 := uL Q00 hg; have Q13 := uG Q00 hg; replace Q00 := uB Q00 hb; clear hb hbox hg) | ((with_reducible refine gate_dst (N := 7) rfl ?_); refine box_event ?hg (N := 7) ?hd (cs := #[.slice none 0 0, .slice none 0 0]) (t := 29) ?hr ?_; (case hd => rfl); (case hg => rfl); (case hr => first | (go_simp; done) | (go_simp; rfl)); intro Q0b hg w171 hbox hb; have Q02 := Aside0.mk (hbox); have Q2b := uS HB hg; have Q1f := uS HB hg; replace HB := uH HB hb; have Q14 := uL Q00 hg; have Q15 := uG Q00 hg; replace Q00 := uB Q00 hb; have Q0o := uL Q01 hg; have Q0p := uG Q01 hg; replace Q01 := uB Q01 hb; clear hb hbox hg; have Qct := Q12.out; have Qcu := Q13.out; have Qcv := Q14.out; have Qcw := Q15.out; have Qcx : w171.cell? ⟨Q07, 0, none⟩ = some (.slice A0_0 l0_0.length c0_0) := (blk_cell Q00.out 0).trans rfl; have Qcy : w171.cell? ⟨Q07, 1, none⟩ = some (.slice A0_1 l0_1.length c0_1) := (blk_cell Q00.out 1).trans rfl; have Qcz := blk_frozen Q00.out 0; have Qd0 := blk_frozen Q00.out 1) | ((with_reducible refine gate_callee (f := 26) rfl ?_); refine goesL_ (some 20) rfl rfl Try.func26 (by kernel_rfl) rfl #[.agg #[.slice A0_0 l0_0.length c0_0, .slice A0_1 l0_1.length c0_1]] rfl aM ?_; (with_reducible refine (graph_Valid.calls _ _ l0_0 _ _ l0_1 t104 _ ?side1 ?side2 ?side3 ?side4 A4.out).mono ?_); (case side1 => repeat (first | exact (cB HR0_0.out HB.out) | (with_reducible refine cA ?_ _) | (with_reducible refine cN ?_ _) | (with_reducible refine cD ?_))); (case side2 => exact HC0_0.out); (case side3 => repeat (first | exact (cB HR0_1.out HB.out) | (with_reducible refine cA ?_ _) | (with_reducible refine cN ?_ _) | (with_reducible refine cD ?_))); (case side4 => exact HC0_1.out); rintro e w175 ⟨rfl, hb⟩; refine ⟨_, rfl, ?_⟩; replace Q00 := uB Q00 hb; replace Q01 := uB Q01 hb; replace Q02 := uB Q02 hb; replace HB := uH HB hb; (try clear hb); (try clear hb2); (try clear hk); (try clear hi); have Qd1 : w175.cell? ⟨Q07, 0, none⟩ = some (.slice A0_0 l0_0.length c0_0) := (blk_cell Q00.out 0).trans rfl; have Qd2 : w175.cell? ⟨Q07, 1, none⟩ = some (.slice A0_1 l0_1.length c0_1) := (blk_cell Q00.out 1).trans rfl; have Qd3 := blk_frozen Q00.out 0; have Qd4 := blk_frozen Q00.out 1) | ((with_reducible refine gate_callee (f := 39) rfl ?_); refine goesL_ (some 30) rfl rfl Try.func39 (by kernel_rfl) rfl #[.slice A1 l1.length c1, .int .i64 (l0_0.length : Int)] rfl aM ?_; (with_reducible refine (graph_ascending.calls k _ _ l1 (l0_0.length : Int) t105 _ ?side1 ?side2 A6.out).mono ?_); (case side1 => repeat (first | exact (cB HR1.out HB.out) | (with_reducible refine cA ?_ _) | (with_reducible refine cN ?_ _) | (with_reducible refine cD ?_))); (case side2 => exact HC1.out); rintro e w' ⟨rfl, ⟨nd, rfl⟩⟩; refine ⟨_, rfl, ?_⟩; (try (rw [drewN_self w175]; generalize hq_ : World.drewN w175 _ = w175; have n0_ : Aside0 (w175.heap[Q07]? = some (.cells #[.slice A0_0 l0_0.length c0_0, .slice A0_1 l0_1.length c0_1] 25 (0, 0))) := ⟨by rw [← hq_]; exact (pB Q00)⟩; have n1_ : Aside0 (w175.heap[Q0a]? = some (.cells #[.slice none 0 0, .slice none 0 0] 25 (0, 0))) := ⟨by rw [← hq_]; exact (pB Q01)⟩; have n2_ : Aside0 (w175.heap[Q0b]? = some (.cells #[.slice none 0 0, .slice none 0 0] 29 (0, 0))) := ⟨by rw [← hq_]; exact (pB Q02)⟩; have n3_ : Aside0 (Below w.heap.size w w175) := ⟨by rw [← hq_]; exact (pH HB)⟩; clear Q00 Q01 Q02 HB hq_; have Q00 := n0_; have Q01 := n1_; have Q02 := n2_; have HB := n3_; clear n0_ n1_ n2_ n3_)); have Qd5 := Q0o.out; have Qd6 := Q0p.out; have Qd7 : w175.cell? ⟨Q0a, 0, none⟩ = some (.slice none 0 0) := (blk_cell Q01.out 0).trans rfl; have Qd8 : w175.cell? ⟨Q0a, 1, none⟩ = some (.slice none 0 0) := (blk_cell Q01.out 1).trans rfl; have Qd9 := blk_frozen Q01.out 0; have Qda := blk_frozen Q01.out 1; have Qdb : w175.cell? ⟨Q0b, 0, none⟩ = some (.slice none 0 0) := (blk_cell Q02.out 0).trans rfl; have Qdc : w175.cell? ⟨Q0b, 1, none⟩ = some (.slice none 0 0) := (blk_cell Q02.out 1).trans rfl; have Qdd := blk_frozen Q02.out 0; have Qde := blk_frozen Q02.out 1))
   refine bodyPost_ret (results_list (rs := [.cell 6 25, .cell 7 29, .tmp 8]) rfl (by simp) (.cell Q0a 25 #[.slice none 0 0, .slice none 0 0] (0, 0) _ rfl (by (with_reducible repeat (first | refine bN ?_ _ | refine bD ?_ | refine bA ?_ _)); refine blk_far ?_ Q0o.out _; (with_reducible repeat (first | refine bN ?_ _ | refine bD ?_ | refine bA ?_ _)); refine blk_far ?_ Q0o.out _; (with_reducible repeat (first | refine bN ?_ _ | refine bD ?_ | refine bA ?_ _)); refine blk_put (cs := #[.slice none 0 0, .slice none 0 0]) ?_ 1 _ rfl; (with_reducible repeat (first | refine bN ?_ _ | refine bD ?_ | refine bA ?_ _)); refine blk_put (cs := #[.slice none 0 0, .slice none 0 0]) ?_ 0 _ rfl; (with_reducible repeat (first | refine bN ?_ _ | refine bD ?_ | refine bA ?_ _)); exact Q01.out) Try.underlying25 rfl (by kernel_rfl) (.cell Q0b 29 #[.slice none 0 0, .slice none 0 0] (0, 0) _ rfl (by (with_reducible repeat (first | refine bN ?_ _ | refine bD ?_ | refine bA ?_ _)); refine blk_put (cs := #[.slice none 0 0, .slice none 0 0]) ?_ 1 _ rfl; (with_reducible repeat (first | refine bN ?_ _ | refine bD ?_ | refine bA ?_ _)); refine blk_put (cs := #[.slice none 0 0, .slice none 0 0]) ?_ 0 _ rfl; (with_reducible repeat (first | refine bN ?_ _ | refine bD ?_ | refine bA ?_ _)); refine blk_far ?_ Q0p.out _; (with_reducible repeat (first | refine bN ?_ _ | refine bD ?_ | refine bA ?_ _)); refine blk_far ?_ Q0p.out _; (with_reducible repeat (first | refine bN ?_ _ | refine bD ?_ | refine bA ?_ _)); exact Q02.out) Try.underlying29 rfl (by kernel_rfl) (.tmp .nil)))) rfl ?_
   exact ⟨_, _, _, _, by first | rfl | (simp [errW_none, errW_some] <;> rfl) | (simp [*, errW_none, errW_some] <;> rfl), by first | exact Kd.R_nil _ _ _ _ _ | exact Kd.N_nil _ _ _ _ _ | exact Kd.V_nil _ _ _ _ _ | exact Kd.Q_nil _ _ _ _ _ | exact Kd.S_nil _ _ _ _ _, by first | exact Kd.R_nil _ _ _ _ _ | exact Kd.N_nil _ _ _ _ _ | exact Kd.V_nil _ _ _ _ _ | exact Kd.Q_nil _ _ _ _ _ | exact Kd.S_nil _ _ _ _ _, by first | exact Kd.R_nil _ _ _ _ _ | exact Kd.N_nil _ _ _ _ _ | exact Kd.V_nil _ _ _ _ _ | exact Kd.Q_nil _ _ _ _ _ | exact Kd.S_nil _ _ _ _ _, by first | exact Kd.R_nil _ _ _ _ _ | exact Kd.N_nil _ _ _ _ _ | exact Kd.V_nil _ _ _ _ _ | exact Kd.Q_nil _ _ _ _ _ | exact Kd.S_nil _ _ _ _ _, by repeat (first | (with_reducible first | exact HB.out | apply wA | apply wN | apply wD | refine below_set ?_ Q1d.out | refine below_set ?_ Q1e.out | refine below_set ?_ Q1f.out) | exact HB.out)⟩
 ·rw [if_neg c5] at H
  have c5b0 : (t104 == 0) = false := beq_eq_false_iff_ne.mpr c5
  have c5b1 : (t104 != 0) = true := bne_iff_ne.mpr c5
  simp only [Option.some.injEq, Prod.mk.injEq] at H
  obtain ⟨rfl, rfl, rfl, rfl, rfl⟩ := H
  go_enter Try.func12, Try.ntmps12
  go_wp2_with (first | ((with_reducible refine gate_dst (N := 3) rfl ?_); refine box_event ?hg (N := 3) ?hd (cs := #[.slice A0_0 l0_0.length c0_0, .slice A0_1 l0_1.length c0_1]) (t := 25) ?hr ?_; (case hd => rfl); (case hg => rfl); (case hr => first | (go_simp; done) | (go_simp; rfl)); intro Q07 hg w180 hbox hb; have Q00 := Aside0.mk (hbox); have Q29 := Aside0.mk ((by rw [hg]; exact (below_size hB) : w.heap.size ≤ Q07)); have Q1d := Aside0.mk ((by rw [hg]; exact (below_size hB) : w.heap.size ≤ Q07)); replace HB := uH HB hb; clear hb hbox hg) | ((with_reducible refine gate_dst (N := 6) rfl ?_); refine box_event ?hg (N := 6) ?hd (cs := #[.slice none 0 0, .slice none 0 0]) (t := 25) ?hr ?_; (case hd => rfl); (case hg => rfl); (case hr => first | (go_simp; done) | (go_simp; rfl)); intro Q0a hg w181 hbox hb; have Q01 := Aside0.mk (hbox); have Q2a := uS HB hg; have Q1e := uS HB hg; replace HB := uH HB hb; have Q12 := uL Q00 hg; have Q13 := uG Q00 hg; replace Q00 := uB Q00 hb; clear hb hbox hg) | ((with_reducible refine gate_dst (N := 7) rfl ?_); refine box_event ?hg (N := 7) ?hd (cs := #[.slice none 0 0, .slice none 0 0]) (t := 29) ?hr ?_; (case hd => rfl); (case hg => rfl); (case hr => first | (go_simp; done) | (go_simp; rfl)); intro Q0b hg w182 hbox hb; have Q02 := Aside0.mk (hbox); have Q2b := uS HB hg; have Q1f := uS HB hg; replace HB := uH HB hb; have Q14 := uL Q00 hg; have Q15 := uG Q00 hg; replace Q00 := uB Q00 hb; have Q0o := uL Q01 hg; have Q0p := uG Q01 hg; replace Q01 := uB Q01 hb; clear hb hbox hg; have Qdf := Q12.out; have Qdg := Q13.out; have Qdh := Q14.out; have Qdi := Q15.out; have Qdj : w182.cell? ⟨Q07, 0, none⟩ = some (.slice A0_0 l0_0.length c0_0) := (blk_cell Q00.out 0).trans rfl; have Qdk : w182.cell? ⟨Q07, 1, none⟩ = some (.slice A0_1 l0_1.length c0_1) := (blk_cell Q00.out 1).trans rfl; have Qdl := blk_frozen Q00.out 0; have Qdm := blk_frozen Q00.out 1) | ((with_reducible refine gate_callee (f := 26) rfl ?_); refine goesL_ (some 20) rfl rfl Try.func26 (by kernel_rfl) rfl #[.agg #[.slice A0_0 l0_0.length c0_0, .slice A0_1 l0_1.length c0_1]] rfl aM ?_; (with_reducible refine (graph_Valid.calls _ _ l0_0 _ _ l0_1 t104 _ ?side1 ?side2 ?side3 ?side4 A4.out).mono ?_); (case side1 => repeat (first | exact (cB HR0_0.out HB.out) | (with_reducible refine cA ?_ _) | (with_reducible refine cN ?_ _) | (with_reducible refine cD ?_))); (case side2 => exact HC0_0.out); (case side3 => repeat (first | exact (cB HR0_1.out HB.out) | (with_reducible refine cA ?_ _) | (with_reducible refine cN ?_ _) | (with_reducible refine cD ?_))); (case side4 => exact HC0_1.out); rintro e w186 ⟨rfl, hb⟩; refine ⟨_, rfl, ?_⟩; replace Q00 := uB Q00 hb; replace Q01 := uB Q01 hb; replace Q02 := uB Q02 hb; replace HB := uH HB hb; (try clear hb); (try clear hb2); (try clear hk); (try clear hi); have Qdn := Q0o.out; have Qdo := Q0p.out; have Qdp : w186.cell? ⟨Q0a, 0, none⟩ = some (.slice none 0 0) := (blk_cell Q01.out 0).trans rfl; have Qdq : w186.cell? ⟨Q0a, 1, none⟩ = some (.slice none 0 0) := (blk_cell Q01.out 1).trans rfl; have Qdr := blk_frozen Q01.out 0; have Qds := blk_frozen Q01.out 1; have Qdt : w186.cell? ⟨Q0b, 0, none⟩ = some (.slice none 0 0) := (blk_cell Q02.out 0).trans rfl; have Qdu : w186.cell? ⟨Q0b, 1, none⟩ = some (.slice none 0 0) := (blk_cell Q02.out 1).trans rfl; have Qdv := blk_frozen Q02.out 0; have Qdw := blk_frozen Q02.out 1))
  refine bodyPost_ret (results_list (rs := [.cell 6 25, .cell 7 29, .tmp 8]) rfl (by simp) (.cell Q0a 25 #[.slice none 0 0, .slice none 0 0] (0, 0) _ rfl (by (with_reducible repeat (first | refine bN ?_ _ | refine bD ?_ | refine bA ?_ _)); refine blk_far ?_ Q0o.out _; (with_reducible repeat (first | refine bN ?_ _ | refine bD ?_ | refine bA ?_ _)); refine blk_far ?_ Q0o.out _; (with_reducible repeat (first | refine bN ?_ _ | refine bD ?_ | refine bA ?_ _)); refine blk_put (cs := #[.slice none 0 0, .slice none 0 0]) ?_ 1 _ rfl; (with_reducible repeat (first | refine bN ?_ _ | refine bD ?_ | refine bA ?_ _)); refine blk_put (cs := #[.slice none 0 0, .slice none 0 0]) ?_ 0 _ rfl; (with_reducible repeat (first | refine bN ?_ _ | refine bD ?_ | refine bA ?_ _)); exact Q01.out) Try.underlying25 rfl (by kernel_rfl) (.cell Q0b 29 #[.slice none 0 0, .slice none 0 0] (0, 0) _ rfl (by (with_reducible repeat (first | refine bN ?_ _ | refine bD ?_ | refine bA ?_ _)); refine blk_put (cs := #[.slice none 0 0, .slice none 0 0]) ?_ 1 _ rfl; (with_reducible repeat (first | refine bN ?_ _ | refine bD ?_ | refine bA ?_ _)); refine blk_put (cs := #[.slice none 0 0, .slice none 0 0]) ?_ 0 _ rfl; (with_reducible repeat (first | refine bN ?_ _ | refine bD ?_ | refine bA ?_ _)); refine blk_far ?_ Q0p.out _; (with_reducible repeat (first | refine bN ?_ _ | refine bD ?_ | refine bA ?_ _)); refine blk_far ?_ Q0p.out _; (with_reducible repeat (first | refine bN ?_ _ | refine bD ?_ | refine bA ?_ _)); exact Q02.out) Try.underlying29 rfl (by kernel_rfl) (.tmp .nil)))) rfl ?_
  exact ⟨_, _, _, _, by first | rfl | (simp [errW_none, errW_some] <;> rfl) | (simp [*, errW_none, errW_some] <;> rfl), by first | exact Kd.R_nil _ _ _ _ _ | exact Kd.N_nil _ _ _ _ _ | exact Kd.V_nil _ _ _ _ _ | exact Kd.Q_nil _ _ _ _ _ | exact Kd.S_nil _ _ _ _ _, by first | exact Kd.R_nil _ _ _ _ _ | exact Kd.N_nil _ _ _ _ _ | exact Kd.V_nil _ _ _ _ _ | exact Kd.Q_nil _ _ _ _ _ | exact Kd.S_nil _ _ _ _ _, by first | exact Kd.R_nil _ _ _ _ _ | exact Kd.N_nil _ _ _ _ _ | exact Kd.V_nil _ _ _ _ _ | exact Kd.Q_nil _ _ _ _ _ | exact Kd.S_nil _ _ _ _ _, by first | exact Kd.R_nil _ _ _ _ _ | exact Kd.N_nil _ _ _ _ _ | exact Kd.V_nil _ _ _ _ _ | exact Kd.Q_nil _ _ _ _ _ | exact Kd.S_nil _ _ _ _ _, by repeat (first | (with_reducible first | exact HB.out | apply wA | apply wN | apply wD | refine below_set ?_ Q1d.out | refine below_set ?_ Q1e.out | refine below_set ?_ Q1f.out) | exact HB.out)⟩
end Go.Proofs.Ytmbnibonggbjgaa.X

namespace Go.Proofs.Ytmbnibonggbjgaa.X
open Go.RowKit Go.Proofs.YtmbnibonggbjgaaW.PrintWords Go.Proofs.YtmbnibonggbjgaaW.PrintLast Go.Proofs.YtmbnibonggbjgaaW.PrintMore
attribute [local go_sem] max2_int min2_int max_two min_two max_three min_three max_four min_four
set_option linter.unusedVariables false
set_option linter.unusedSimpArgs false
theorem eqA38 (d : Nat) (w : World) (x0 y0 : Int) (x1 y1 : Int) (x2 y2 : Int) :
  (Op.equalIn (d + 2) 38 (.agg #[.int .i64 x0, .int .i64 x1, .int .i64 x2]) (.agg #[.int .i64 y0, .int .i64 y1, .int .i64 y2])).run Try.prog w = .ok (x0 == y0 && (x1 == y1 && (x2 == y2))) w := by
 refine eqA_of Try.underlying38 (by kernel_rfl) ?_
 refine eqf_cons (by rfl) (by go_simp; rfl) (by go_simp; rfl) (by go_simp) ?_
 refine eqf_cons (by rfl) (by go_simp; rfl) (by go_simp; rfl) (by go_simp) ?_
 exact eqf_last (by rfl) (by go_simp; rfl) (by go_simp; rfl) (by go_simp)
end Go.Proofs.Ytmbnibonggbjgaa.X

namespace Go.Proofs.Ytmbnibonggbjgaa.X
open Go.RowKit Go.Proofs.YtmbnibonggbjgaaW.PrintWords Go.Proofs.YtmbnibonggbjgaaW.PrintLast Go.Proofs.YtmbnibonggbjgaaW.PrintMore
open Go.Proofs.YtmbnibonggbjgaaW.PrintWords renaming blk_drewN → bN, blk_drew → bD, blk_alloc → bA, below_alloc → wA, pw_below_drewN → wN, below_drew1 → wD, blk_below → bB, below_step → wS, blk_at → bT, blk_grown → bG
open Go.Proofs.YtmbnibonggbjgaaW.PrintWords.Kd renaming R_alloc → rA, R_drewN → rN, R_drew → rD, R_below → rB, R_grown → rG, C_below → cB, C_alloc → cA, C_drewN → cN, C_drew → cD
attribute [local go_sem] max2_int min2_int max_two min_two max_three min_three max_four min_four
set_option linter.unusedVariables false
set_option linter.unusedSimpArgs false
/-! ### scarfjointref05_SameInts: function 43 -/
def scarfjointref05_SameInts.l0 : Nat → List Int → List Int → Int → Option (Bool)
 | 0, _, _, _ => none
 | k + 1, x0, x1, x5 => if x5 < (x0.length : Int) then (if 0 ≤ x5 then (if x5 < (x1.length : Int) then (if (rd x0 x5) = (rd x1 x5) then (scarfjointref05_SameInts.l0 k x0 x1 (wrap64 (x5 + 1))) else (some false)) else (none)) else (none)) else (some true)
def scarfjointref05_SameInts.f (k : Nat) (l0 : List Int) (l1 : List Int) : Option (Bool) := if (l0.length : Int) = (l1.length : Int) then (scarfjointref05_SameInts.l0 k l0 l1 0) else (some false)
theorem scarfjointref05_SameInts.mono_l : ∀ k, (∀ y0 y1 y2, LeO (scarfjointref05_SameInts.l0 k y0 y1 y2) (scarfjointref05_SameInts.l0 (k + 1) y0 y1 y2))
 | 0 => fun _ _ _ r h => by simp [scarfjointref05_SameInts.l0] at h
 | k + 1 => by
  have ih0 := scarfjointref05_SameInts.mono_l k
  ·intro y0 y1 y2
   unfold scarfjointref05_SameInts.l0
   repeat' first
   | (with_reducible exact ih0 _ _ _)
   | (with_reducible exact LeO.refl _)
   | (with_reducible exact LeO.none _)
   | (with_reducible refine LeO.ite ?_ ?_)
   | (with_reducible refine LeO.bind ?_ (fun _ => ?_))
   | exact ih0 _ _ _
   | exact LeO.none _
   | refine LeO.ite ?_ ?_
   | refine LeO.bind ?_ (fun _ => ?_)
theorem scarfjointref05_SameInts.mono : ∀ a0 a1 k, LeO (scarfjointref05_SameInts.f k a0 a1) (scarfjointref05_SameInts.f (k + 1) a0 a1) := by
 intro a0 a1 k
 have ih0 := scarfjointref05_SameInts.mono_l k
 unfold scarfjointref05_SameInts.f
 repeat' first
   | (with_reducible exact ih0 _ _ _)
   | (with_reducible exact LeO.refl _)
   | (with_reducible exact LeO.none _)
   | (with_reducible refine LeO.ite ?_ ?_)
   | (with_reducible refine LeO.bind ?_ (fun _ => ?_))
   | exact ih0 _ _ _
   | exact LeO.none _
   | refine LeO.ite ?_ ?_
   | refine LeO.bind ?_ (fun _ => ?_)
set_option maxHeartbeats 8000000 in
set_option maxRecDepth 100000 in
theorem scarfjointref05_SameInts.calls (k : Nat) (A0 : Option Addr) (c0 : Nat) (l0 : List Int) (A1 : Option Addr) (c1 : Nat) (l1 : List Int) (r : Bool) (w : World) (hr0 : Kd.C (Kd.int .i64) w A0 l0.length l0) (hc0 : l0.length ≤ c0) (hr1 : Kd.C (Kd.int .i64) w A1 l1.length l1) (hc1 : l1.length ≤ c1) (h : scarfjointref05_SameInts.f k l0 l1 = some r) :
  Calls Try.prog 43 #[.slice A0 l0.length c0, .slice A1 l1.length c1] w fun e w' => e = .returned (.bool r) ∧ Drawn0 w w' := by
 have HR0 := Aside0.mk hr0
 have HC0 := Aside0.mk hc0
 clear hr0 hc0
 have HR1 := Aside0.mk hr1
 have HC1 := Aside0.mk hc1
 clear hr1 hc1
 have H : (if (l0.length : Int) = (l1.length : Int) then (scarfjointref05_SameInts.l0 k l0 l1 0) else (some false)) = some r := h
 clear h
 by_cases c3 : (l0.length : Int) = (l1.length : Int)
 ·rw [if_pos c3] at H
  have c3b0 : ((l0.length : Int) == (l1.length : Int)) = true := beq_iff_eq.mpr c3
  have c3b1 : ((l0.length : Int) != (l1.length : Int)) = false := bne_eq_false_iff_eq.mpr c3
  have c3b2 : (l0.length == l1.length) = true := by first | simpa using c3 | (simp at c3 ⊢; omega)
  clear c3
  have H' := Aside0.mk H
  clear H
  go_enter Try.func43, Try.ntmps43
  go_wp2
  repeat (go_quiet (fail); try go_wp2)
  go_loopg [5] k (fun kq v5 w' => ∃ (x5_1 : Int), v5 = .int .i64 x5_1 ∧ Aside0 (scarfjointref05_SameInts.l0 kq l0 l1 x5_1 = some r) ∧ Aside0 (kq ≤ k) ∧ Drawn0 w w')
  case atStart => exact ⟨(0), rS, H', ⟨Nat.le_refl _⟩, by repeat (first | exact Drawn0.refl _ | apply Drawn0.step)⟩
  case round =>
   clear H'
   try clear c1; try clear p2; try clear c3; try clear c3b0; try clear c3b1; try clear c3b2
   obtain ⟨x5_1, rfl, HA, HK1, ⟨m1, rfl⟩⟩ := hrel
   cases gk with
   | zero => exact absurd HA.out (by simp [scarfjointref05_SameInts.l0])
   | succ k1 =>
    have H := HA.out
    clear HA
    simp only [scarfjointref05_SameInts.l0] at H
    by_cases c4 : x5_1 < (l0.length : Int)
    ·rw [if_pos c4] at H
     have c4b0 : decide (x5_1 < (l0.length : Int)) = true := decide_eq_true c4
     clear c4
     by_cases c5 : 0 ≤ x5_1
     ·rw [if_pos c5] at H
      have c5b0 : decide (0 ≤ x5_1) = true := decide_eq_true c5
      clear c5
      by_cases c6 : x5_1 < (l1.length : Int)
      ·rw [if_pos c6] at H
       have c6b0 : decide (x5_1 < (l1.length : Int)) = true := decide_eq_true c6
       clear c6
       by_cases c7 : (rd l0 x5_1) = (rd l1 x5_1)
       ·rw [if_pos c7] at H
        have c7b0 : ((rd l0 x5_1) == (rd l1 x5_1)) = true := beq_iff_eq.mpr c7
        have c7b1 : ((rd l0 x5_1) != (rd l1 x5_1)) = false := bne_eq_false_iff_eq.mpr c7
        clear c7
        have H' := Aside0.mk H
        clear H
        have p101 : 0 ≤ (x5_1 : Int) := oT
        have q101 : x5_1 < (l0.length : Int) := oT
        obtain ⟨ad101, e101, hx101_0⟩ := Kd.at_int HR0.out x5_1 p101 q101
        cases e101
        replace p101 := eq_true p101
        replace q101 := eq_true q101
        have p102 : 0 ≤ (x5_1 : Int) := oT
        have q102 : x5_1 < (l1.length : Int) := oT
        obtain ⟨ad102, e102, hx102_0⟩ := Kd.at_int HR1.out x5_1 p102 q102
        cases e102
        replace p102 := eq_true p102
        replace q102 := eq_true q102
        go_wp2
        repeat (go_quiet (fail); try go_wp2)
        go_roundg k1
        case measure => have := HK1.out; omega
        case rel => exact ⟨(wrap64 (x5_1 + 1)), rS, H', ⟨by have := HK1.out; omega⟩, by repeat (first | exact Drawn0.refl _ | apply Drawn0.step)⟩
       ·rw [if_neg c7] at H
        have c7b0 : ((rd l0 x5_1) == (rd l1 x5_1)) = false := beq_eq_false_iff_ne.mpr c7
        have c7b1 : ((rd l0 x5_1) != (rd l1 x5_1)) = true := bne_iff_ne.mpr c7
        obtain rfl := Option.some.inj H
        have p101 : 0 ≤ (x5_1 : Int) := oT
        have q101 : x5_1 < (l0.length : Int) := oT
        obtain ⟨ad101, e101, hx101_0⟩ := Kd.at_int HR0.out x5_1 p101 q101
        cases e101
        replace p101 := eq_true p101
        replace q101 := eq_true q101
        have p102 : 0 ≤ (x5_1 : Int) := oT
        have q102 : x5_1 < (l1.length : Int) := oT
        obtain ⟨ad102, e102, hx102_0⟩ := Kd.at_int HR1.out x5_1 p102 q102
        cases e102
        replace p102 := eq_true p102
        replace q102 := eq_true q102
        go_wp2
        repeat (go_quiet (fail); try go_wp2)
        go_ret
        exact ⟨by first | rfl | (simp; done) | (simp [*]; done), by repeat (first | exact Drawn0.refl _ | apply Drawn0.step)⟩
      ·rw [if_neg c6] at H
       exact absurd H (by simp)
     ·rw [if_neg c5] at H
      exact absurd H (by simp)
    ·rw [if_neg c4] at H
     have c4b0 : decide (x5_1 < (l0.length : Int)) = false := decide_eq_false c4
     clear c4
     obtain rfl := Option.some.inj H
     go_wp2
     repeat (go_quiet (fail); try go_wp2)
     go_ret
     exact ⟨by first | rfl | (simp; done) | (simp [*]; done), by repeat (first | exact Drawn0.refl _ | apply Drawn0.step)⟩
 ·rw [if_neg c3] at H
  have c3b0 : ((l0.length : Int) == (l1.length : Int)) = false := beq_eq_false_iff_ne.mpr c3
  have c3b1 : ((l0.length : Int) != (l1.length : Int)) = true := bne_iff_ne.mpr c3
  have c3b2 : (l0.length == l1.length) = false := by first | simpa using c3 | (simp at c3 ⊢; omega)
  obtain rfl := Option.some.inj H
  go_enter Try.func43, Try.ntmps43
  go_wp2
  repeat (go_quiet (fail); try go_wp2)
  go_ret
  exact ⟨by first | rfl | (simp; done) | (simp [*]; done), by repeat (first | exact Drawn0.refl _ | apply Drawn0.step)⟩
end Go.Proofs.Ytmbnibonggbjgaa.X

namespace Go.Proofs.Ytmbnibonggbjgaa.X
open Go.RowKit Go.Proofs.YtmbnibonggbjgaaW.PrintWords Go.Proofs.YtmbnibonggbjgaaW.PrintLast Go.Proofs.YtmbnibonggbjgaaW.PrintMore
open Go.Proofs.YtmbnibonggbjgaaW.PrintWords renaming blk_drewN → bN, blk_drew → bD, blk_alloc → bA, below_alloc → wA, pw_below_drewN → wN, below_drew1 → wD, blk_below → bB, below_step → wS, blk_at → bT, blk_grown → bG
open Go.Proofs.YtmbnibonggbjgaaW.PrintWords.Kd renaming R_alloc → rA, R_drewN → rN, R_drew → rD, R_below → rB, R_grown → rG, C_below → cB, C_alloc → cA, C_drewN → cN, C_drew → cD
attribute [local go_sem] max2_int min2_int max_two min_two max_three min_three max_four min_four
set_option linter.unusedVariables false
set_option linter.unusedSimpArgs false
attribute [local go_sem high] eqA38
/-! ### scarfjointref05_Same: function 16 -/
mutual
def scarfjointref05_Same.j0 : Nat → Bool → List Int → List (S38) → List Int → List (S38) → Option (Bool)
 | 0, _, _, _, _, _ => none
 | k + 1, x20, x102000, x102001, x103000, x103001 => if x20 = true then (some false) else (scarfjointref05_Same.l0 k 0 x102000 x102001 x103000 x103001)
def scarfjointref05_Same.l0 : Nat → Int → List Int → List (S38) → List Int → List (S38) → Option (Bool)
 | 0, _, _, _, _, _ => none
 | k + 1, x5, x102000, x102001, x103000, x103001 => if x5 < (x102001.length : Int) then (if 0 ≤ x5 then (if x5 < (x103001.length : Int) then (if (!(((rd_T38 x102001 x5).f0) == ((rd_T38 x103001 x5).f0)) || (!(((rd_T38 x102001 x5).f1) == ((rd_T38 x103001 x5).f1)) || (!(((rd_T38 x102001 x5).f2) == ((rd_T38 x103001 x5).f2))))) = true then (some false) else (scarfjointref05_Same.l0 k (wrap64 (x5 + 1)) x102000 x102001 x103000 x103001)) else (none)) else (none)) else (some true)
end
def scarfjointref05_Same.f (k : Nat) (l0_0 : List Int) (l0_1 : List (S38)) (l1_0 : List Int) (l1_1 : List (S38)) : Option (Bool) := (scarfjointref05_SameInts.f k l0_0 l1_0).bind fun t103 => (if t103 = true then (scarfjointref05_Same.j0 k ((l0_1.length : Int) != (l1_1.length : Int)) l0_0 l0_1 l1_0 l1_1) else (scarfjointref05_Same.j0 k true l0_0 l0_1 l1_0 l1_1))
theorem scarfjointref05_Same.mono_l : ∀ k, (∀ y0 y1 y2 y3 y4, LeO (scarfjointref05_Same.j0 k y0 y1 y2 y3 y4) (scarfjointref05_Same.j0 (k + 1) y0 y1 y2 y3 y4)) ∧ (∀ y0 y1 y2 y3 y4, LeO (scarfjointref05_Same.l0 k y0 y1 y2 y3 y4) (scarfjointref05_Same.l0 (k + 1) y0 y1 y2 y3 y4))
 | 0 => ⟨fun _ _ _ _ _ r h => by simp [scarfjointref05_Same.j0] at h, fun _ _ _ _ _ r h => by simp [scarfjointref05_Same.l0] at h⟩
 | k + 1 => by
  obtain ⟨ih0, ih1⟩ := scarfjointref05_Same.mono_l k
  refine ⟨?_, ?_⟩
  ·intro y0 y1 y2 y3 y4
   unfold scarfjointref05_Same.j0
   repeat' first
   | (with_reducible exact ih0 _ _ _ _ _)
   | (with_reducible exact ih1 _ _ _ _ _)
   | (with_reducible exact scarfjointref05_SameInts.mono _ _ _)
   | (with_reducible exact LeO.refl _)
   | (with_reducible exact LeO.none _)
   | (with_reducible refine LeO.ite ?_ ?_)
   | (with_reducible refine LeO.bind ?_ (fun _ => ?_))
   | exact ih0 _ _ _ _ _
   | exact ih1 _ _ _ _ _
   | exact scarfjointref05_SameInts.mono _ _ _
   | exact LeO.none _
   | refine LeO.ite ?_ ?_
   | refine LeO.bind ?_ (fun _ => ?_)
  ·intro y0 y1 y2 y3 y4
   unfold scarfjointref05_Same.l0
   repeat' first
   | (with_reducible exact ih0 _ _ _ _ _)
   | (with_reducible exact ih1 _ _ _ _ _)
   | (with_reducible exact scarfjointref05_SameInts.mono _ _ _)
   | (with_reducible exact LeO.refl _)
   | (with_reducible exact LeO.none _)
   | (with_reducible refine LeO.ite ?_ ?_)
   | (with_reducible refine LeO.bind ?_ (fun _ => ?_))
   | exact ih0 _ _ _ _ _
   | exact ih1 _ _ _ _ _
   | exact scarfjointref05_SameInts.mono _ _ _
   | exact LeO.none _
   | refine LeO.ite ?_ ?_
   | refine LeO.bind ?_ (fun _ => ?_)
theorem scarfjointref05_Same.mono : ∀ a0 a1 a2 a3 k, LeO (scarfjointref05_Same.f k a0 a1 a2 a3) (scarfjointref05_Same.f (k + 1) a0 a1 a2 a3) := by
 intro a0 a1 a2 a3 k
 obtain ⟨ih0, ih1⟩ := scarfjointref05_Same.mono_l k
 unfold scarfjointref05_Same.f
 repeat' first
   | (with_reducible exact ih0 _ _ _ _ _)
   | (with_reducible exact ih1 _ _ _ _ _)
   | (with_reducible exact scarfjointref05_SameInts.mono _ _ _)
   | (with_reducible exact LeO.refl _)
   | (with_reducible exact LeO.none _)
   | (with_reducible refine LeO.ite ?_ ?_)
   | (with_reducible refine LeO.bind ?_ (fun _ => ?_))
   | exact ih0 _ _ _ _ _
   | exact ih1 _ _ _ _ _
   | exact scarfjointref05_SameInts.mono _ _ _
   | exact LeO.none _
   | refine LeO.ite ?_ ?_
   | refine LeO.bind ?_ (fun _ => ?_)
set_option maxHeartbeats 8000000 in
set_option maxRecDepth 100000 in
theorem scarfjointref05_Same.calls (k : Nat) (A0_0 : Option Addr) (c0_0 : Nat) (l0_0 : List Int) (A0_1 : Option Addr) (c0_1 : Nat) (l0_1 : List (S38)) (A1_0 : Option Addr) (c1_0 : Nat) (l1_0 : List Int) (A1_1 : Option Addr) (c1_1 : Nat) (l1_1 : List (S38)) (r : Bool) (w : World) (hr0_0 : Kd.C (Kd.int .i64) w A0_0 l0_0.length l0_0) (hc0_0 : l0_0.length ≤ c0_0) (hr0_1 : Kd.C k38 w A0_1 l0_1.length l0_1) (hc0_1 : l0_1.length ≤ c0_1) (hr1_0 : Kd.C (Kd.int .i64) w A1_0 l1_0.length l1_0) (hc1_0 : l1_0.length ≤ c1_0) (hr1_1 : Kd.C k38 w A1_1 l1_1.length l1_1) (hc1_1 : l1_1.length ≤ c1_1) (h : scarfjointref05_Same.f k l0_0 l0_1 l1_0 l1_1 = some r) :
  Calls Try.prog 16 #[.agg #[.slice A0_0 l0_0.length c0_0, .slice A0_1 l0_1.length c0_1], .agg #[.slice A1_0 l1_0.length c1_0, .slice A1_1 l1_1.length c1_1]] w fun e w' => e = .returned (.bool r) ∧ Below w.heap.size w w' := by
 have hu25 := Try.underlying25
 have hu38 := Try.underlying38
 have HR0_0 := Aside0.mk hr0_0
 have HC0_0 := Aside0.mk hc0_0
 clear hr0_0 hc0_0
 have HR0_1 := Aside0.mk hr0_1
 have HC0_1 := Aside0.mk hc0_1
 clear hr0_1 hc0_1
 have HR1_0 := Aside0.mk hr1_0
 have HC1_0 := Aside0.mk hc1_0
 clear hr1_0 hc1_0
 have HR1_1 := Aside0.mk hr1_1
 have HC1_1 := Aside0.mk hc1_1
 clear hr1_1 hc1_1
 have HB := Aside0.mk (Below.refl w.heap.size w)
 have H : ((scarfjointref05_SameInts.f k l0_0 l1_0).bind fun t103 => (if t103 = true then (scarfjointref05_Same.j0 k ((l0_1.length : Int) != (l1_1.length : Int)) l0_0 l0_1 l1_0 l1_1) else (scarfjointref05_Same.j0 k true l0_0 l0_1 l1_0 l1_1))) = some r := h
 clear h
 have HC3 := Aside0.mk H
 clear H
 go_enter Try.func16, Try.ntmps16
 go_upto_region 1 with (first | ((with_reducible refine gate_dst (N := 2) rfl ?_); (try (refine gate_guard (by rfl) ?_; dsimp only)); refine box_event ?hg (N := 2) ?hd (cs := #[.slice A0_0 l0_0.length c0_0, .slice A0_1 l0_1.length c0_1]) (t := 25) ?hr ?_; (case hd => rfl); (case hg => rfl); (case hr => first | (go_simp; done) | (go_simp; rfl)); intro Q02 hg w4 hbox hb; have Q00 := Aside0.mk (hbox); have Q08 := Aside0.mk ((by rw [hg]; exact (below_size hB) : w.heap.size ≤ Q02)); have Q06 := Aside0.mk ((by rw [hg]; exact (below_size hB) : w.heap.size ≤ Q02)); replace HB := uH HB hb; clear hb hbox hg) | ((with_reducible refine gate_dst (N := 3) rfl ?_); (try (refine gate_guard (by rfl) ?_; dsimp only)); refine box_event ?hg (N := 3) ?hd (cs := #[.slice A1_0 l1_0.length c1_0, .slice A1_1 l1_1.length c1_1]) (t := 25) ?hr ?_; (case hd => rfl); (case hg => rfl); (case hr => first | (go_simp; done) | (go_simp; rfl)); intro Q03 hg w5 hbox hb; have Q01 := Aside0.mk (hbox); have Q09 := uS HB hg; have Q07 := uS HB hg; replace HB := uH HB hb; have Q04 := uL Q00 hg; have Q05 := uG Q00 hg; replace Q00 := uB Q00 hb; clear hb hbox hg))
 repeat (go_quiet (first | ((with_reducible refine gate_dst (N := 2) rfl ?_); (try (refine gate_guard (by rfl) ?_; dsimp only)); refine box_event ?hg (N := 2) ?hd (cs := #[.slice A0_0 l0_0.length c0_0, .slice A0_1 l0_1.length c0_1]) (t := 25) ?hr ?_; (case hd => rfl); (case hg => rfl); (case hr => first | (go_simp; done) | (go_simp; rfl)); intro Q02 hg w4 hbox hb; have Q00 := Aside0.mk (hbox); have Q08 := Aside0.mk ((by rw [hg]; exact (below_size hB) : w.heap.size ≤ Q02)); have Q06 := Aside0.mk ((by rw [hg]; exact (below_size hB) : w.heap.size ≤ Q02)); replace HB := uH HB hb; clear hb hbox hg) | ((with_reducible refine gate_dst (N := 3) rfl ?_); (try (refine gate_guard (by rfl) ?_; dsimp only)); refine box_event ?hg (N := 3) ?hd (cs := #[.slice A1_0 l1_0.length c1_0, .slice A1_1 l1_1.length c1_1]) (t := 25) ?hr ?_; (case hd => rfl); (case hg => rfl); (case hr => first | (go_simp; done) | (go_simp; rfl)); intro Q03 hg w5 hbox hb; have Q01 := Aside0.mk (hbox); have Q09 := uS HB hg; have Q07 := uS HB hg; replace HB := uH HB hb; have Q04 := uL Q00 hg; have Q05 := uG Q00 hg; replace Q00 := uB Q00 hb; clear hb hbox hg)); go_upto_region 1 with (first | ((with_reducible refine gate_dst (N := 2) rfl ?_); (try (refine gate_guard (by rfl) ?_; dsimp only)); refine box_event ?hg (N := 2) ?hd (cs := #[.slice A0_0 l0_0.length c0_0, .slice A0_1 l0_1.length c0_1]) (t := 25) ?hr ?_; (case hd => rfl); (case hg => rfl); (case hr => first | (go_simp; done) | (go_simp; rfl)); intro Q02 hg w4 hbox hb; have Q00 := Aside0.mk (hbox); have Q08 := Aside0.mk ((by rw [hg]; exact (below_size hB) : w.heap.size ≤ Q02)); have Q06 := Aside0.mk ((by rw [hg]; exact (below_size hB) : w.heap.size ≤ Q02)); replace HB := uH HB hb; clear hb hbox hg) | ((with_reducible refine gate_dst (N := 3) rfl ?_); (try (refine gate_guard (by rfl) ?_; dsimp only)); refine box_event ?hg (N := 3) ?hd (cs := #[.slice A1_0 l1_0.length c1_0, .slice A1_1 l1_1.length c1_1]) (t := 25) ?hr ?_; (case hd => rfl); (case hg => rfl); (case hr => first | (go_simp; done) | (go_simp; rfl)); intro Q03 hg w5 hbox hb; have Q01 := Aside0.mk (hbox); have Q09 := uS HB hg; have Q07 := uS HB hg; replace HB := uH HB hb; have Q04 := uL Q00 hg; have Q05 := uG Q00 hg; replace Q00 := uB Q00 hb; clear hb hbox hg)))
 (try simp only [Act.put, List.setIfInBounds_toArray, List.set_cons_zero, List.set_cons_succ])
 go_cut [20] (fun v20 wc => ∃ (kq : Nat) (x20_2 : Bool), v20 = .bool x20_2 ∧ Aside0 (scarfjointref05_Same.j0 kq x20_2 l0_0 l0_1 l1_0 l1_1 = some r) ∧ Aside0 (kq ≤ k) ∧ Aside0 (wc.heap[Q02]? = some (.cells #[(.slice A0_0 l0_0.length c0_0), (.slice A0_1 l0_1.length c0_1)] 25 (0, 0))) ∧ Aside0 (wc.heap[Q03]? = some (.cells #[(.slice A1_0 l1_0.length c1_0), (.slice A1_1 l1_1.length c1_1)] 25 (0, 0))) ∧ Aside0 (Below w.heap.size w wc))
 case first =>
  have H := HC3.out
  clear HC3
  replace H := Option.bind_eq_some_iff.mp H
  obtain ⟨t103, A60, H⟩ := H
  replace H : (if t103 = true then (scarfjointref05_Same.j0 k ((l0_1.length : Int) != (l1_1.length : Int)) l0_0 l0_1 l1_0 l1_1) else (scarfjointref05_Same.j0 k true l0_0 l0_1 l1_0 l1_1)) = some r := H
  have A6 := Aside0.mk A60
  clear A60
  by_cases c7 : t103 = true
  ·subst c7
   have H1 : (scarfjointref05_Same.j0 k ((l0_1.length : Int) != (l1_1.length : Int)) l0_0 l0_1 l1_0 l1_1) = some r := by rw [if_pos rfl] at H; exact H
   clear H
   have H := H1
   clear H1
   have H' := Aside0.mk H
   clear H
   have Q0q := Q04.out
   have Q0r := Q05.out
   have Q0a : w5.cell? ⟨Q02, 0, none⟩ = some (.slice A0_0 l0_0.length c0_0) := (blk_cell Q00.out 0).trans rfl
   have Q0b : w5.cell? ⟨Q02, 1, none⟩ = some (.slice A0_1 l0_1.length c0_1) := (blk_cell Q00.out 1).trans rfl
   have Q0c := blk_frozen Q00.out 0
   have Q0d := blk_frozen Q00.out 1
   have Q0e : w5.cell? ⟨Q03, 0, none⟩ = some (.slice A1_0 l1_0.length c1_0) := (blk_cell Q01.out 0).trans rfl
   have Q0f : w5.cell? ⟨Q03, 1, none⟩ = some (.slice A1_1 l1_1.length c1_1) := (blk_cell Q01.out 1).trans rfl
   have Q0g := blk_frozen Q01.out 0
   have Q0h := blk_frozen Q01.out 1
   iterate 3 (try (go_wp2_with (first | (go_at_call 43; (with_reducible refine (scarfjointref05_SameInts.calls k _ _ l0_0 _ _ l1_0 true _ ?side1 ?side2 ?side3 ?side4 A6.out).mono ?_); (case side1 => repeat (first | exact (cB HR0_0.out HB.out) | (with_reducible refine cA ?_ _) | (with_reducible refine cN ?_ _) | (with_reducible refine cD ?_))); (case side2 => exact HC0_0.out); (case side3 => repeat (first | exact (cB HR1_0.out HB.out) | (with_reducible refine cA ?_ _) | (with_reducible refine cN ?_ _) | (with_reducible refine cD ?_))); (case side4 => exact HC1_0.out); rintro e w' ⟨rfl, ⟨nd, rfl⟩⟩; (try first | exact ⟨rfl, _, World.drewN_drewN _ _ _⟩ | exact ⟨rfl, _, Eq.trans (World.drewN_drewN _ _ _) (congrArg (World.drewN _) (Nat.add_assoc _ _ _))⟩)))); try (go_quiet (fail)))
   go_meet
   case rel => exact ⟨_, (((l0_1.length : Int) != (l1_1.length : Int))), rS, H', ⟨by first | omega | exact Nat.le_refl _⟩, ⟨pB Q00⟩, ⟨pB Q01⟩, ⟨pH HB⟩⟩
  ·replace c7 := Bool.eq_false_iff.mpr c7
   subst c7
   have H1 : (scarfjointref05_Same.j0 k true l0_0 l0_1 l1_0 l1_1) = some r := by rw [if_neg (show ¬ (false = true) by decide)] at H; exact H
   clear H
   have H := H1
   clear H1
   have H' := Aside0.mk H
   clear H
   have Q0s := Q04.out
   have Q0t := Q05.out
   have Q0i : w5.cell? ⟨Q02, 0, none⟩ = some (.slice A0_0 l0_0.length c0_0) := (blk_cell Q00.out 0).trans rfl
   have Q0j : w5.cell? ⟨Q02, 1, none⟩ = some (.slice A0_1 l0_1.length c0_1) := (blk_cell Q00.out 1).trans rfl
   have Q0k := blk_frozen Q00.out 0
   have Q0l := blk_frozen Q00.out 1
   have Q0m : w5.cell? ⟨Q03, 0, none⟩ = some (.slice A1_0 l1_0.length c1_0) := (blk_cell Q01.out 0).trans rfl
   have Q0n : w5.cell? ⟨Q03, 1, none⟩ = some (.slice A1_1 l1_1.length c1_1) := (blk_cell Q01.out 1).trans rfl
   have Q0o := blk_frozen Q01.out 0
   have Q0p := blk_frozen Q01.out 1
   iterate 3 (try (go_wp2_with (first | (go_at_call 43; (with_reducible refine (scarfjointref05_SameInts.calls k _ _ l0_0 _ _ l1_0 false _ ?side1 ?side2 ?side3 ?side4 A6.out).mono ?_); (case side1 => repeat (first | exact (cB HR0_0.out HB.out) | (with_reducible refine cA ?_ _) | (with_reducible refine cN ?_ _) | (with_reducible refine cD ?_))); (case side2 => exact HC0_0.out); (case side3 => repeat (first | exact (cB HR1_0.out HB.out) | (with_reducible refine cA ?_ _) | (with_reducible refine cN ?_ _) | (with_reducible refine cD ?_))); (case side4 => exact HC1_0.out); rintro e w' ⟨rfl, ⟨nd, rfl⟩⟩; (try first | exact ⟨rfl, _, World.drewN_drewN _ _ _⟩ | exact ⟨rfl, _, Eq.trans (World.drewN_drewN _ _ _) (congrArg (World.drewN _) (Nat.add_assoc _ _ _))⟩)))); try (go_quiet (fail)))
   go_meet
   case rel => exact ⟨_, (true), rS, H', ⟨by first | omega | exact Nat.le_refl _⟩, ⟨pB Q00⟩, ⟨pB Q01⟩, ⟨pH HB⟩⟩
 case rest =>
  clear HC3
  try clear c1; try clear p2; try clear c7; try clear c8; try clear c11; try clear Q0e; try clear Q0f; try clear Q0i; try clear Q0j; try clear Q0m; try clear Q0n; try clear Q0a; try clear Q0b; try clear Q0g; try clear Q0h; try clear Q0k; try clear Q0l; try clear Q0o; try clear Q0p; try clear Q0c; try clear Q0d
  obtain ⟨kq, x20_2, rfl, HA, HJ2, Q00, Q01, HB⟩ := hcut
  cases kq with
  | zero => exact absurd HA.out (by simp [scarfjointref05_Same.j0])
  | succ kj2 =>
   have H := HA.out
   clear HA
   simp only [scarfjointref05_Same.j0] at H
   by_cases c14 : x20_2 = true
   ·subst c14
    have H1 : (some false) = some r := by rw [if_pos rfl] at H; exact H
    clear H
    have H := H1
    clear H1
    obtain rfl := Option.some.inj H
    go_wp2
    repeat (go_quiet (fail); try go_wp2)
    go_ret
    exact ⟨by first | rfl | (simp [errW_none, errW_some] <;> rfl) | (simp [*, errW_none, errW_some] <;> rfl), by repeat (first | (with_reducible first | exact HB.out | apply wA | apply wN | apply wD | refine below_set ?_ Q06.out | refine below_set ?_ Q07.out) | exact HB.out)⟩
   ·replace c14 := Bool.eq_false_iff.mpr c14
    subst c14
    have H1 : (scarfjointref05_Same.l0 kj2 0 l0_0 l0_1 l1_0 l1_1) = some r := by rw [if_neg (show ¬ (false = true) by decide)] at H; exact H
    clear H
    have H := H1
    clear H1
    have H' := Aside0.mk H
    clear H
    go_wp2
    repeat (go_quiet (fail); try go_wp2)
    go_loopg [5] kj2 (fun kq v5 w' => ∃ (x5_2 : Int), v5 = .int .i64 x5_2 ∧ Aside0 (scarfjointref05_Same.l0 kq x5_2 l0_0 l0_1 l1_0 l1_1 = some r) ∧ Aside0 (kq ≤ kj2) ∧ Aside0 (w'.heap[Q02]? = some (.cells #[(.slice A0_0 l0_0.length c0_0), (.slice A0_1 l0_1.length c0_1)] 25 (0, 0))) ∧ Aside0 (w'.heap[Q03]? = some (.cells #[(.slice A1_0 l1_0.length c1_0), (.slice A1_1 l1_1.length c1_1)] 25 (0, 0))) ∧ Aside0 (Below w.heap.size w w'))
    case atStart => exact ⟨(0), rS, H', ⟨Nat.le_refl _⟩, ⟨pB Q00⟩, ⟨pB Q01⟩, ⟨pH HB⟩⟩
    case round =>
     clear H'
     try clear c1; try clear p2; try clear c7; try clear c8; try clear c11; try clear c14; try clear Q0e; try clear Q0f; try clear Q0i; try clear Q0j; try clear Q0m; try clear Q0n; try clear Q0a; try clear Q0b; try clear Q0g; try clear Q0h; try clear Q0k; try clear Q0l; try clear Q0o; try clear Q0p; try clear Q0c; try clear Q0d; try clear p2
     obtain ⟨x5_2, rfl, HA, HK2, Q00, Q01, HB⟩ := hrel
     cases gk with
     | zero => exact absurd HA.out (by simp [scarfjointref05_Same.l0])
     | succ k2 =>
      have H := HA.out
      clear HA
      simp only [scarfjointref05_Same.l0] at H
      by_cases c15 : x5_2 < (l0_1.length : Int)
      ·rw [if_pos c15] at H
       have c15b0 : decide (x5_2 < (l0_1.length : Int)) = true := decide_eq_true c15
       clear c15
       by_cases c16 : 0 ≤ x5_2
       ·rw [if_pos c16] at H
        have c16b0 : decide (0 ≤ x5_2) = true := decide_eq_true c16
        clear c16
        by_cases c17 : x5_2 < (l1_1.length : Int)
        ·rw [if_pos c17] at H
         have c17b0 : decide (x5_2 < (l1_1.length : Int)) = true := decide_eq_true c17
         clear c17
         by_cases c18 : (!(((rd_T38 l0_1 x5_2).f0) == ((rd_T38 l1_1 x5_2).f0)) || (!(((rd_T38 l0_1 x5_2).f1) == ((rd_T38 l1_1 x5_2).f1)) || (!(((rd_T38 l0_1 x5_2).f2) == ((rd_T38 l1_1 x5_2).f2))))) = true
         ·rw [if_pos c18] at H
          have c18b0 : (!(((rd_T38 l0_1 x5_2).f0) == ((rd_T38 l1_1 x5_2).f0)) || (!(((rd_T38 l0_1 x5_2).f1) == ((rd_T38 l1_1 x5_2).f1)) || (!(((rd_T38 l0_1 x5_2).f2) == ((rd_T38 l1_1 x5_2).f2))))) = true := c18
          clear c18
          obtain rfl := Option.some.inj H
          have Q0u := Q04.out
          have Q0v := Q05.out
          have Q0w : wr.cell? ⟨Q02, 0, none⟩ = some (.slice A0_0 l0_0.length c0_0) := (blk_cell Q00.out 0).trans rfl
          have Q0x : wr.cell? ⟨Q02, 1, none⟩ = some (.slice A0_1 l0_1.length c0_1) := (blk_cell Q00.out 1).trans rfl
          have Q0y := blk_frozen Q00.out 0
          have Q0z := blk_frozen Q00.out 1
          have p104 : 0 ≤ (x5_2 : Int) := oT
          have q104 : x5_2 < (l0_1.length : Int) := oT
          obtain ⟨ad104, e104, hx104_0, hx104_1, hx104_2⟩ := at_T38 HR0_1.out x5_2 p104 q104
          cases e104
          replace hx104_0 := (HB.out.cell (World.block_lt_of_cell? w _ hx104_0)).trans hx104_0
          replace hx104_1 := (HB.out.cell (World.block_lt_of_cell? w _ hx104_1)).trans hx104_1
          replace hx104_2 := (HB.out.cell (World.block_lt_of_cell? w _ hx104_2)).trans hx104_2
          replace p104 := eq_true p104
          replace q104 := eq_true q104
          have Q10 : wr.cell? ⟨Q03, 0, none⟩ = some (.slice A1_0 l1_0.length c1_0) := (blk_cell Q01.out 0).trans rfl
          have Q11 : wr.cell? ⟨Q03, 1, none⟩ = some (.slice A1_1 l1_1.length c1_1) := (blk_cell Q01.out 1).trans rfl
          have Q12 := blk_frozen Q01.out 0
          have Q13 := blk_frozen Q01.out 1
          have p105 : 0 ≤ (x5_2 : Int) := oT
          have q105 : x5_2 < (l1_1.length : Int) := oT
          obtain ⟨ad105, e105, hx105_0, hx105_1, hx105_2⟩ := at_T38 HR1_1.out x5_2 p105 q105
          cases e105
          replace hx105_0 := (HB.out.cell (World.block_lt_of_cell? w _ hx105_0)).trans hx105_0
          replace hx105_1 := (HB.out.cell (World.block_lt_of_cell? w _ hx105_1)).trans hx105_1
          replace hx105_2 := (HB.out.cell (World.block_lt_of_cell? w _ hx105_2)).trans hx105_2
          replace p105 := eq_true p105
          replace q105 := eq_true q105
          go_wp2
          repeat (go_quiet (fail); try go_wp2)
          go_ret
          exact ⟨by first | rfl | (simp [errW_none, errW_some] <;> rfl) | (simp [*, errW_none, errW_some] <;> rfl), by repeat (first | (with_reducible first | exact HB.out | apply wA | apply wN | apply wD | refine below_set ?_ Q06.out | refine below_set ?_ Q07.out) | exact HB.out)⟩
         ·rw [if_neg c18] at H
          have c18b0 : (!(((rd_T38 l0_1 x5_2).f0) == ((rd_T38 l1_1 x5_2).f0)) || (!(((rd_T38 l0_1 x5_2).f1) == ((rd_T38 l1_1 x5_2).f1)) || (!(((rd_T38 l0_1 x5_2).f2) == ((rd_T38 l1_1 x5_2).f2))))) = false := by simpa using c18
          clear c18
          have H' := Aside0.mk H
          clear H
          have Q14 := Q04.out
          have Q15 := Q05.out
          have Q16 : wr.cell? ⟨Q02, 0, none⟩ = some (.slice A0_0 l0_0.length c0_0) := (blk_cell Q00.out 0).trans rfl
          have Q17 : wr.cell? ⟨Q02, 1, none⟩ = some (.slice A0_1 l0_1.length c0_1) := (blk_cell Q00.out 1).trans rfl
          have Q18 := blk_frozen Q00.out 0
          have Q19 := blk_frozen Q00.out 1
          have p104 : 0 ≤ (x5_2 : Int) := oT
          have q104 : x5_2 < (l0_1.length : Int) := oT
          obtain ⟨ad104, e104, hx104_0, hx104_1, hx104_2⟩ := at_T38 HR0_1.out x5_2 p104 q104
          cases e104
          replace hx104_0 := (HB.out.cell (World.block_lt_of_cell? w _ hx104_0)).trans hx104_0
          replace hx104_1 := (HB.out.cell (World.block_lt_of_cell? w _ hx104_1)).trans hx104_1
          replace hx104_2 := (HB.out.cell (World.block_lt_of_cell? w _ hx104_2)).trans hx104_2
          replace p104 := eq_true p104
          replace q104 := eq_true q104
          have Q1a : wr.cell? ⟨Q03, 0, none⟩ = some (.slice A1_0 l1_0.length c1_0) := (blk_cell Q01.out 0).trans rfl
          have Q1b : wr.cell? ⟨Q03, 1, none⟩ = some (.slice A1_1 l1_1.length c1_1) := (blk_cell Q01.out 1).trans rfl
          have Q1c := blk_frozen Q01.out 0
          have Q1d := blk_frozen Q01.out 1
          have p105 : 0 ≤ (x5_2 : Int) := oT
          have q105 : x5_2 < (l1_1.length : Int) := oT
          obtain ⟨ad105, e105, hx105_0, hx105_1, hx105_2⟩ := at_T38 HR1_1.out x5_2 p105 q105
          cases e105
          replace hx105_0 := (HB.out.cell (World.block_lt_of_cell? w _ hx105_0)).trans hx105_0
          replace hx105_1 := (HB.out.cell (World.block_lt_of_cell? w _ hx105_1)).trans hx105_1
          replace hx105_2 := (HB.out.cell (World.block_lt_of_cell? w _ hx105_2)).trans hx105_2
          replace p105 := eq_true p105
          replace q105 := eq_true q105
          go_wp2
          repeat (go_quiet (fail); try go_wp2)
          go_roundg k2
          case measure => have := HJ2.out; have := HK2.out; omega
          case rel => exact ⟨(wrap64 (x5_2 + 1)), rS, H', ⟨by have := HJ2.out; have := HK2.out; omega⟩, ⟨pB Q00⟩, ⟨pB Q01⟩, ⟨pH HB⟩⟩
        ·rw [if_neg c17] at H
         exact absurd H (by simp)
       ·rw [if_neg c16] at H
        exact absurd H (by simp)
      ·rw [if_neg c15] at H
       have c15b0 : decide (x5_2 < (l0_1.length : Int)) = false := decide_eq_false c15
       clear c15
       obtain rfl := Option.some.inj H
       have Q1e := Q04.out
       have Q1f := Q05.out
       have Q1g : wr.cell? ⟨Q02, 0, none⟩ = some (.slice A0_0 l0_0.length c0_0) := (blk_cell Q00.out 0).trans rfl
       have Q1h : wr.cell? ⟨Q02, 1, none⟩ = some (.slice A0_1 l0_1.length c0_1) := (blk_cell Q00.out 1).trans rfl
       have Q1i := blk_frozen Q00.out 0
       have Q1j := blk_frozen Q00.out 1
       go_wp2
       repeat (go_quiet (fail); try go_wp2)
       go_ret
       exact ⟨by first | rfl | (simp [errW_none, errW_some] <;> rfl) | (simp [*, errW_none, errW_some] <;> rfl), by repeat (first | (with_reducible first | exact HB.out | apply wA | apply wN | apply wD | refine below_set ?_ Q06.out | refine below_set ?_ Q07.out) | exact HB.out)⟩
end Go.Proofs.Ytmbnibonggbjgaa.X

namespace Go.Proofs.Ytmbnibonggbjgaa.X
open Go.RowKit Go.Proofs.YtmbnibonggbjgaaW.PrintWords Go.Proofs.YtmbnibonggbjgaaW.PrintLast Go.Proofs.YtmbnibonggbjgaaW.PrintMore
open Go.Proofs.YtmbnibonggbjgaaW.PrintWords renaming blk_drewN → bN, blk_drew → bD, blk_alloc → bA, below_alloc → wA, pw_below_drewN → wN, below_drew1 → wD, blk_below → bB, below_step → wS, blk_at → bT, blk_grown → bG
open Go.Proofs.YtmbnibonggbjgaaW.PrintWords.Kd renaming R_alloc → rA, R_drewN → rN, R_drew → rD, R_below → rB, R_grown → rG, C_below → cB, C_alloc → cA, C_drewN → cN, C_drew → cD
attribute [local go_sem] max2_int min2_int max_two min_two max_three min_three max_four min_four
set_option linter.unusedVariables false
set_option linter.unusedSimpArgs false
/-! ### graph_numbers: function 45 -/
def graph_numbers.l0 : Nat → Int → List Int → Int → Int → Option (List Int)
 | 0, _, _, _, _ => none
 | k + 1, x0, x5, x7, x8 => if x8 < x7 then (if x5.length < 17592186044416 then (graph_numbers.l0 k x0 (x5 ++ [wrap64 (x0 + x8)]) x7 (wrap64 (x8 + 1))) else (none)) else (some x5)
def graph_numbers.f (k : Nat) (a0 : Int) (a1 : Int) : Option (List Int) := graph_numbers.l0 k a0 ([] : List Int) a1 0
theorem graph_numbers.mono_l : ∀ k, (∀ y0 y1 y2 y3, LeO (graph_numbers.l0 k y0 y1 y2 y3) (graph_numbers.l0 (k + 1) y0 y1 y2 y3))
 | 0 => fun _ _ _ _ r h => by simp [graph_numbers.l0] at h
 | k + 1 => by
  have ih0 := graph_numbers.mono_l k
  ·intro y0 y1 y2 y3
   unfold graph_numbers.l0
   repeat' first
   | (with_reducible exact ih0 _ _ _ _)
   | (with_reducible exact LeO.refl _)
   | (with_reducible exact LeO.none _)
   | (with_reducible refine LeO.ite ?_ ?_)
   | (with_reducible refine LeO.bind ?_ (fun _ => ?_))
   | exact ih0 _ _ _ _
   | exact LeO.none _
   | refine LeO.ite ?_ ?_
   | refine LeO.bind ?_ (fun _ => ?_)
theorem graph_numbers.mono : ∀ a0 a1 k, LeO (graph_numbers.f k a0 a1) (graph_numbers.f (k + 1) a0 a1) := by
 intro a0 a1 k
 have ih0 := graph_numbers.mono_l k
 unfold graph_numbers.f
 repeat' first
   | (with_reducible exact ih0 _ _ _ _)
   | (with_reducible exact LeO.refl _)
   | (with_reducible exact LeO.none _)
   | (with_reducible refine LeO.ite ?_ ?_)
   | (with_reducible refine LeO.bind ?_ (fun _ => ?_))
   | exact ih0 _ _ _ _
   | exact LeO.none _
   | refine LeO.ite ?_ ?_
   | refine LeO.bind ?_ (fun _ => ?_)
set_option maxHeartbeats 8000000 in
set_option maxRecDepth 100000 in
theorem graph_numbers.calls (k : Nat) (a0 : Int) (a1 : Int) (r : List Int) (w : World) (h : graph_numbers.f k a0 a1 = some r) :
  Calls Try.prog 45 #[.int .i64 a0, .int .i64 a1] w fun e w' => ∃ v0_ : Value, e = .returned (v0_) ∧ Kd.R (Kd.int .i64) 3 w' w.heap.size (fun _ => True) v0_ r ∧ Below w.heap.size w w' := by
 have HB := Aside0.mk (Below.refl w.heap.size w)
 have H : (graph_numbers.l0 k a0 ([] : List Int) a1 0) = some r := h
 clear h
 have H' := Aside0.mk H
 clear H
 go_enter Try.func45, Try.ntmps45
 go_wp2
 go_loopg [5, 8] k (fun kq v5 v8 w' => ∃ (x5_1 : List Int) (x8_1 : Int), v8 = .int .i64 x8_1 ∧ Aside0 (graph_numbers.l0 kq a0 x5_1 a1 x8_1 = some r) ∧ Aside0 (kq ≤ k) ∧ Aside0 (Kd.R (Kd.int .i64) 3 w' w.heap.size (fun _ => True) v5 x5_1) ∧ Aside0 (Below w.heap.size w w'))
 case atStart => exact ⟨(([] : List Int)), (0), rS, H', ⟨Nat.le_refl _⟩, ⟨by first | exact Kd.R_nil _ _ _ _ _ | exact Kd.N_nil _ _ _ _ _ | exact Kd.V_nil _ _ _ _ _ | exact Kd.Q_nil _ _ _ _ _ | exact Kd.S_nil _ _ _ _ _⟩, ⟨pH HB⟩⟩
 case round =>
  clear H'
  try clear p2
  obtain ⟨x5_1, x8_1, rfl, HA, HK1, Q00, HB⟩ := hrel
  cases gk with
  | zero => exact absurd HA.out (by simp [graph_numbers.l0])
  | succ k1 =>
   have H := HA.out
   clear HA
   simp only [graph_numbers.l0] at H
   by_cases c3 : x8_1 < a1
   ·rw [if_pos c3] at H
    have c3b0 : decide (x8_1 < a1) = true := decide_eq_true c3
    clear c3
    by_cases c4 : x5_1.length < 17592186044416
    ·rw [if_pos c4] at H
     have LMc4 := Aside0.mk c4
     clear c4
     obtain ⟨y101, hy101⟩ : ∃ y_ : List Int, y_ = (x5_1 ++ [wrap64 (a0 + x8_1)]) := ⟨_, rfl⟩
     replace H : (graph_numbers.l0 k1 a0 y101 a1 (wrap64 (x8_1 + 1))) = some r := by first | (rw [hy101]; with_reducible exact H) | (have H2_ := (Option.bind_some _ _).symm.trans H; rw [hy101]; with_reducible exact H2_) | (have H2_ := (Option.bind_some _ _).symm.trans H; with_reducible exact H2_) | with_reducible exact H | (rw [hy101]; exact H) | exact H
     have Ny101 := Aside0.mk hy101
     clear hy101
     have H' := Aside0.mk H
     clear H
     go_wp2_with (first | ((with_reducible refine gate_builtin (b := .append) (xs := #[.tmp 11, .tmp 15]) rfl ?_); at_builtin; refine Kd.R_append (Kd.int .i64) (w0 := w) w.heap.size rfl (.tmp 11) (.tmp 15) 22 3 (.int .i64 0) 8 rfl Try.underlying22 info3 rfl (by decide) (by omega) u5 x5_1 (wrap64 (a0 + x8_1)) [.int .i64 (wrap64 (a0 + x8_1))] (fun _ => True) (fun _ => False) rfl rfl ?aP (fun _ hk => hk.elim) ?aF ?aO ?aB ?aS ?aL ?_; (case aP => exact rfl); (case aB => exact hB); (case aF => exact (fun _ _ => trivial)); (case aO => exact (pR Q00)); (case aS => exact (below_size hB)); (case aL => have := LMc4.out; omega); intro v102 w5 ho hb hg hat; rw [← Ny101.out] at ho; replace HB := Aside0.mk (hb); have Q01 := Aside0.mk (ho); clear Q00; clear ho hb hg hat))
     go_roundg k1
     case measure => have := HK1.out; omega
     case rel => exact ⟨(y101), (wrap64 (x8_1 + 1)), rS, H', ⟨by have := HK1.out; omega⟩, ⟨pR Q01⟩, ⟨pH HB⟩⟩
    ·rw [if_neg c4] at H
     exact absurd H (by simp)
   ·rw [if_neg c3] at H
    have c3b0 : decide (x8_1 < a1) = false := decide_eq_false c3
    clear c3
    obtain rfl := Option.some.inj H
    go_wp2
    go_ret
    exact ⟨_, by first | rfl | (simp [errW_none, errW_some] <;> rfl) | (simp [*, errW_none, errW_some] <;> rfl), by (with_reducible repeat (first | apply rA | apply rN | apply rD)); exact Q00.out, by repeat (first | (with_reducible first | exact HB.out | apply wA | apply wN | apply wD) | exact HB.out)⟩
end Go.Proofs.Ytmbnibonggbjgaa.X
