/- A part of the proof that the law GraphUnion returns true at every input: contracts of the functions that it calls, and lemmas. -/
import Derived.Test.YtmbnibonggbjgaaZGraphUnion3
namespace Go.Proofs.Ytmbnibonggbjgaa.X
open Go.RowKit Go.Proofs.YtmbnibonggbjgaaW.PrintWords Go.Proofs.YtmbnibonggbjgaaW.PrintLast Go.Proofs.YtmbnibonggbjgaaW.PrintMore
open Go.Proofs.YtmbnibonggbjgaaW.PrintWords renaming blk_drewN → bN, blk_drew → bD, blk_alloc → bA, below_alloc → wA, pw_below_drewN → wN, below_drew1 → wD, blk_below → bB, below_step → wS, blk_at → bT, blk_grown → bG
open Go.Proofs.YtmbnibonggbjgaaW.PrintWords.Kd renaming R_alloc → rA, R_drewN → rN, R_drew → rD, R_below → rB, R_grown → rG, C_below → cB, C_alloc → cA, C_drewN → cN, C_drew → cD
attribute [local go_sem] max2_int min2_int max_two min_two max_three min_three max_four min_four
set_option linter.unusedVariables false
set_option linter.unusedSimpArgs false
/-! ### graph_Union: function 31 -/
mutual
def graph_Union.l0 : Nat → List (S25) → Int → Int → List Int → List (S38) → List Int → List (S38) → Option (List Int × (List (S38)) × List Int × List Int × List Int × List Int × Int)
 | 0, _, _, _, _, _, _, _ => none
 | k + 1, x20, x21, x22, x102000, x102001, x103000, x103001 => if x22 < x21 then (if 0 ≤ x22 then (if x22 < (x20.length : Int) then ((graph_Valid.f ((rd_T25 x20 x22).f0) ((rd_T25 x20 x22).f1)).bind fun t111 => (if t111 = 0 then (graph_Union.l0 k x20 x21 (wrap64 (x22 + 1)) x102000 x102001 x103000 x103001) else (some (([] : List Int), ([] : List (S38)), ([] : List Int), ([] : List Int), ([] : List Int), ([] : List Int), t111)))) else (none)) else (none)) else (if (wrap64 ((x102000.length : Int) + (x103000.length : Int))) > 40 then (graph_Union.j1 k (x102000.length : Int) (x102001.length : Int) true x102000 x102001 x103000 x103001) else (graph_Union.j1 k (x102000.length : Int) (x102001.length : Int) (decide ((wrap64 ((x102001.length : Int) + (x103001.length : Int))) > 80)) x102000 x102001 x103000 x103001))
def graph_Union.j1 : Nat → Int → Int → Bool → List Int → List (S38) → List Int → List (S38) → Option (List Int × (List (S38)) × List Int × List Int × List Int × List Int × Int)
 | 0, _, _, _, _, _, _, _ => none
 | k + 1, x11, x12, x54, x102000, x102001, x103000, x103001 => if x54 = true then (some (([] : List Int), ([] : List (S38)), ([] : List Int), ([] : List Int), ([] : List Int), ([] : List Int), 3)) else ((slices_Concat_int_int.f (([x102000, x103000] : List (List Int)))).bind fun t115 => ((api_Edge_46.f x102001).bind fun t118 => (graph_Union.l1 k x11 x12 x103001 (x103001.length : Int) 0 x103000 x103001 t115 t118)))
def graph_Union.l1 : Nat → Int → Int → List (S38) → Int → Int → List Int → List (S38) → List Int → List (S38) → Option (List Int × (List (S38)) × List Int × List Int × List Int × List Int × Int)
 | 0, _, _, _, _, _, _, _, _, _ => none
 | k + 1, x11, x12, x69, x70, x71, x103000, x103001, x122000, x122001 => if x71 < x70 then (if 0 ≤ x71 then (if x71 < (x69.length : Int) then (if x122001.length < 5864062014805 then (graph_Union.l1 k x11 x12 x69 x70 (wrap64 (x71 + 1)) x103000 x103001 x122000 (x122001 ++ [(⟨(rd_T38 x69 x71).f0, wrap64 (((rd_T38 x69 x71).f1) + x11), wrap64 (((rd_T38 x69 x71).f2) + x11)⟩ : S38)])) else (none)) else (none)) else (none)) else ((graph_numbers.f k 0 x11).bind fun t127 => ((graph_numbers.f k 0 x12).bind fun t130 => ((graph_numbers.f k x11 (x103000.length : Int)).bind fun t134 => ((graph_numbers.f k x12 (x103001.length : Int)).bind fun t137 => (some (x122000, x122001, t127, t130, t134, t137, 0))))))
end
def graph_Union.f (k : Nat) (l0_0 : List Int) (l0_1 : List (S38)) (l1_0 : List Int) (l1_1 : List (S38)) : Option (List Int × (List (S38)) × List Int × List Int × List Int × List Int × Int) := (some (([(⟨l0_0, l0_1⟩ : S25), (⟨l1_0, l1_1⟩ : S25)] : List (S25)) : List (S25))).bind fun y106 => (graph_Union.l0 k y106 (y106.length : Int) 0 l0_0 l0_1 l1_0 l1_1)
theorem graph_Union.mono_l : ∀ k, (∀ y0 y1 y2 y3 y4 y5 y6, LeO (graph_Union.l0 k y0 y1 y2 y3 y4 y5 y6) (graph_Union.l0 (k + 1) y0 y1 y2 y3 y4 y5 y6)) ∧ (∀ y0 y1 y2 y3 y4 y5 y6, LeO (graph_Union.j1 k y0 y1 y2 y3 y4 y5 y6) (graph_Union.j1 (k + 1) y0 y1 y2 y3 y4 y5 y6)) ∧ (∀ y0 y1 y2 y3 y4 y5 y6 y7 y8, LeO (graph_Union.l1 k y0 y1 y2 y3 y4 y5 y6 y7 y8) (graph_Union.l1 (k + 1) y0 y1 y2 y3 y4 y5 y6 y7 y8))
 | 0 => ⟨fun _ _ _ _ _ _ _ r h => by simp [graph_Union.l0] at h, fun _ _ _ _ _ _ _ r h => by simp [graph_Union.j1] at h, fun _ _ _ _ _ _ _ _ _ r h => by simp [graph_Union.l1] at h⟩
 | k + 1 => by
  obtain ⟨ih0, ih1, ih2⟩ := graph_Union.mono_l k
  refine ⟨?_, ?_, ?_⟩
  ·intro y0 y1 y2 y3 y4 y5 y6
   unfold graph_Union.l0
   repeat' first
   | (with_reducible exact ih0 _ _ _ _ _ _ _)
   | (with_reducible exact ih1 _ _ _ _ _ _ _)
   | (with_reducible exact ih2 _ _ _ _ _ _ _ _ _)
   | (with_reducible exact graph_numbers.mono _ _ _)
   | (with_reducible exact LeO.refl _)
   | (with_reducible exact LeO.none _)
   | (with_reducible refine LeO.ite ?_ ?_)
   | (with_reducible refine LeO.bind ?_ (fun _ => ?_))
   | exact ih0 _ _ _ _ _ _ _
   | exact ih1 _ _ _ _ _ _ _
   | exact ih2 _ _ _ _ _ _ _ _ _
   | exact graph_numbers.mono _ _ _
   | exact LeO.none _
   | refine LeO.ite ?_ ?_
   | refine LeO.bind ?_ (fun _ => ?_)
  ·intro y0 y1 y2 y3 y4 y5 y6
   unfold graph_Union.j1
   repeat' first
   | (with_reducible exact ih0 _ _ _ _ _ _ _)
   | (with_reducible exact ih1 _ _ _ _ _ _ _)
   | (with_reducible exact ih2 _ _ _ _ _ _ _ _ _)
   | (with_reducible exact graph_numbers.mono _ _ _)
   | (with_reducible exact LeO.refl _)
   | (with_reducible exact LeO.none _)
   | (with_reducible refine LeO.ite ?_ ?_)
   | (with_reducible refine LeO.bind ?_ (fun _ => ?_))
   | exact ih0 _ _ _ _ _ _ _
   | exact ih1 _ _ _ _ _ _ _
   | exact ih2 _ _ _ _ _ _ _ _ _
   | exact graph_numbers.mono _ _ _
   | exact LeO.none _
   | refine LeO.ite ?_ ?_
   | refine LeO.bind ?_ (fun _ => ?_)
  ·intro y0 y1 y2 y3 y4 y5 y6 y7 y8
   unfold graph_Union.l1
   repeat' first
   | (with_reducible exact ih0 _ _ _ _ _ _ _)
   | (with_reducible exact ih1 _ _ _ _ _ _ _)
   | (with_reducible exact ih2 _ _ _ _ _ _ _ _ _)
   | (with_reducible exact graph_numbers.mono _ _ _)
   | (with_reducible exact LeO.refl _)
   | (with_reducible exact LeO.none _)
   | (with_reducible refine LeO.ite ?_ ?_)
   | (with_reducible refine LeO.bind ?_ (fun _ => ?_))
   | exact ih0 _ _ _ _ _ _ _
   | exact ih1 _ _ _ _ _ _ _
   | exact ih2 _ _ _ _ _ _ _ _ _
   | exact graph_numbers.mono _ _ _
   | exact LeO.none _
   | refine LeO.ite ?_ ?_
   | refine LeO.bind ?_ (fun _ => ?_)
theorem graph_Union.mono : ∀ a0 a1 a2 a3 k, LeO (graph_Union.f k a0 a1 a2 a3) (graph_Union.f (k + 1) a0 a1 a2 a3) := by
 intro a0 a1 a2 a3 k
 obtain ⟨ih0, ih1, ih2⟩ := graph_Union.mono_l k
 unfold graph_Union.f
 repeat' first
   | (with_reducible exact ih0 _ _ _ _ _ _ _)
   | (with_reducible exact ih1 _ _ _ _ _ _ _)
   | (with_reducible exact ih2 _ _ _ _ _ _ _ _ _)
   | (with_reducible exact graph_numbers.mono _ _ _)
   | (with_reducible exact LeO.refl _)
   | (with_reducible exact LeO.none _)
   | (with_reducible refine LeO.ite ?_ ?_)
   | (with_reducible refine LeO.bind ?_ (fun _ => ?_))
   | exact ih0 _ _ _ _ _ _ _
   | exact ih1 _ _ _ _ _ _ _
   | exact ih2 _ _ _ _ _ _ _ _ _
   | exact graph_numbers.mono _ _ _
   | exact LeO.none _
   | refine LeO.ite ?_ ?_
   | refine LeO.bind ?_ (fun _ => ?_)
def graph_Union.T8 : Bool × List (List Nat × List Nat) := (true, [([], []), ([0], [0]), ([1], [1]), ([], []), ([3], [3]), ([4], [4]), ([2, 0, 1, 2], [2]), ([5, 6, 0, 1, 2, 3, 4, 5, 6], [5])])
def graph_Union.B8 : List Nat := [0, 1, 3, 0, 8, 24, 7, 127]
theorem graph_Union.tab8 : rtab .any (opsOf Try.f31 8) = graph_Union.T8 := by kernel_rfl
theorem graph_Union.bits8 : waitsOk graph_Union.T8.2 graph_Union.B8 = true := by kernel_rfl
def graph_Union.T11 : Bool × List (List Nat × List Nat) := (true, [([], []), ([0], [0]), ([], []), ([2], [2]), ([1, 3], [1, 3]), ([4], [4]), ([], []), ([6], [6]), ([7, 5], [7]), ([5, 8], [5, 8]), ([], []), ([10, 9, 8, 0, 1, 2, 3, 4, 5, 6, 7, 8, 9, 10], [9, 10])])
def graph_Union.B11 : List Nat := [0, 1, 0, 4, 15, 31, 0, 64, 255, 511, 0, 2047]
theorem graph_Union.tab11 : rtab .any (opsOf Try.f31 11) = graph_Union.T11 := by kernel_rfl
theorem graph_Union.bits11 : waitsOk graph_Union.T11.2 graph_Union.B11 = true := by kernel_rfl
def graph_Union.T18 : Bool × List (List Nat × List Nat) := (true, [([], []), ([], []), ([1], [1]), ([2], [2]), ([0, 3], [0, 3]), ([], []), ([], []), ([6], [6]), ([7], [7]), ([5, 8, 4], [5, 8]), ([4, 9], [4, 9]), ([], []), ([11, 10, 9, 0, 1, 2, 3, 4, 5, 6, 7, 8, 9, 10, 11], [10, 11])])
def graph_Union.B18 : List Nat := [0, 0, 2, 6, 15, 0, 0, 64, 192, 511, 1023, 0, 4095]
theorem graph_Union.tab18 : rtab .any (opsOf Try.f31 18) = graph_Union.T18 := by kernel_rfl
theorem graph_Union.bits18 : waitsOk graph_Union.T18.2 graph_Union.B18 = true := by kernel_rfl
set_option maxHeartbeats 8000000 in
set_option maxRecDepth 100000 in
theorem graph_Union.calls (k : Nat) (P0_0_ : Nat → Prop) (A0_0 : Option Addr) (c0_0 : Nat) (l0_0 : List Int) (P0_1_ : Nat → Prop) (A0_1 : Option Addr) (c0_1 : Nat) (l0_1 : List (S38)) (P1_0_ : Nat → Prop) (A1_0 : Option Addr) (c1_0 : Nat) (l1_0 : List Int) (P1_1_ : Nat → Prop) (A1_1 : Option Addr) (c1_1 : Nat) (l1_1 : List (S38)) (r1 : List Int) (r2 : List (S38)) (r3 : List Int) (r4 : List Int) (r5 : List Int) (r6 : List Int) (r7 : Int) (w : World) (Q4r : Kd.V (Kd.int .i64) 3 w w.heap.size (fun k_ => P0_0_ k_) (.slice A0_0 l0_0.length c0_0) l0_0) (Q4s : Kd.V k38 38 w w.heap.size (fun k_ => P0_1_ k_) (.slice A0_1 l0_1.length c0_1) l0_1) (Q4t : Kd.V (Kd.int .i64) 3 w w.heap.size (fun k_ => P1_0_ k_) (.slice A1_0 l1_0.length c1_0) l1_0) (Q4u : Kd.V k38 38 w w.heap.size (fun k_ => P1_1_ k_) (.slice A1_1 l1_1.length c1_1) l1_1) (h : graph_Union.f k l0_0 l0_1 l1_0 l1_1 = some (r1, r2, r3, r4, r5, r6, r7)) :
  Calls Try.prog 31 #[.agg #[.slice A0_0 l0_0.length c0_0, .slice A0_1 l0_1.length c0_1], .agg #[.slice A1_0 l1_0.length c1_0, .slice A1_1 l1_1.length c1_1]] w fun e w' => ∃ v0_ v1_ v2_ v3_ v4_ v5_ : Value, e = .returned (.tuple #[.agg #[v0_, v1_], .agg #[v2_, v3_], .agg #[v4_, v5_], .int .i64 r7]) ∧ Kd.R (Kd.int .i64) 3 w' w.heap.size (fun k_ => (w.heap.size ≤ k_) ∧ some k_ ≠ (v2_ : Value).ownBlock ∧ some k_ ≠ (v3_ : Value).ownBlock ∧ some k_ ≠ (v4_ : Value).ownBlock ∧ some k_ ≠ (v5_ : Value).ownBlock) v0_ r1 ∧ Kd.R k38 38 w' w.heap.size (fun k_ => (w.heap.size ≤ k_)) v1_ r2 ∧ Kd.R (Kd.int .i64) 3 w' w.heap.size (fun k_ => (w.heap.size ≤ k_) ∧ some k_ ≠ (v0_ : Value).ownBlock ∧ some k_ ≠ (v3_ : Value).ownBlock ∧ some k_ ≠ (v4_ : Value).ownBlock ∧ some k_ ≠ (v5_ : Value).ownBlock) v2_ r3 ∧ Kd.R (Kd.int .i64) 3 w' w.heap.size (fun k_ => (w.heap.size ≤ k_) ∧ some k_ ≠ (v0_ : Value).ownBlock ∧ some k_ ≠ (v2_ : Value).ownBlock ∧ some k_ ≠ (v4_ : Value).ownBlock ∧ some k_ ≠ (v5_ : Value).ownBlock) v3_ r4 ∧ Kd.R (Kd.int .i64) 3 w' w.heap.size (fun k_ => (w.heap.size ≤ k_) ∧ some k_ ≠ (v0_ : Value).ownBlock ∧ some k_ ≠ (v2_ : Value).ownBlock ∧ some k_ ≠ (v3_ : Value).ownBlock ∧ some k_ ≠ (v5_ : Value).ownBlock) v4_ r5 ∧ Kd.R (Kd.int .i64) 3 w' w.heap.size (fun k_ => (w.heap.size ≤ k_) ∧ some k_ ≠ (v0_ : Value).ownBlock ∧ some k_ ≠ (v2_ : Value).ownBlock ∧ some k_ ≠ (v3_ : Value).ownBlock ∧ some k_ ≠ (v4_ : Value).ownBlock) v5_ r6 ∧ Below w.heap.size w w' := by
 have hu25 := Try.underlying25
 have hu29 := Try.underlying29
 have hu38 := Try.underlying38
 have Q1f := Aside0.mk (show Kd.V (Kd.int .i64) 3 w w.heap.size (fun k_ => ((P0_0_ k_ ∨ P0_1_ k_ ∨ P1_0_ k_ ∨ P1_1_ k_) ∨ w.heap.size ≤ k_)) (.slice A0_0 l0_0.length c0_0) l0_0 from Kd.V_mono Q4r (fun k_ hk => .inl (.inl hk)))
 have Q1g := Aside0.mk (show Kd.V k38 38 w w.heap.size (fun k_ => ((P0_0_ k_ ∨ P0_1_ k_ ∨ P1_0_ k_ ∨ P1_1_ k_) ∨ w.heap.size ≤ k_)) (.slice A0_1 l0_1.length c0_1) l0_1 from Kd.V_mono Q4s (fun k_ hk => .inl (.inr (.inl hk))))
 have Q1h := Aside0.mk (show Kd.V (Kd.int .i64) 3 w w.heap.size (fun k_ => ((P0_0_ k_ ∨ P0_1_ k_ ∨ P1_0_ k_ ∨ P1_1_ k_) ∨ w.heap.size ≤ k_)) (.slice A1_0 l1_0.length c1_0) l1_0 from Kd.V_mono Q4t (fun k_ hk => .inl (.inr (.inr (.inl hk)))))
 have Q1i := Aside0.mk (show Kd.V k38 38 w w.heap.size (fun k_ => ((P0_0_ k_ ∨ P0_1_ k_ ∨ P1_0_ k_ ∨ P1_1_ k_) ∨ w.heap.size ≤ k_)) (.slice A1_1 l1_1.length c1_1) l1_1 from Kd.V_mono Q4u (fun k_ hk => .inl (.inr (.inr (.inr hk)))))
 have HB := Aside0.mk (Below.refl w.heap.size w)
 have H : ((some (([(⟨l0_0, l0_1⟩ : S25), (⟨l1_0, l1_1⟩ : S25)] : List (S25)) : List (S25))).bind fun y106 => (graph_Union.l0 k y106 (y106.length : Int) 0 l0_0 l0_1 l1_0 l1_1)) = some (r1, r2, r3, r4, r5, r6, r7) := h
 clear h
 obtain ⟨y106, hy106⟩ : ∃ y_ : List (S25), y_ = (([(⟨l0_0, l0_1⟩ : S25), (⟨l1_0, l1_1⟩ : S25)] : List (S25))) := ⟨_, rfl⟩
 replace H : (graph_Union.l0 k y106 (y106.length : Int) 0 l0_0 l0_1 l1_0 l1_1) = some (r1, r2, r3, r4, r5, r6, r7) := by first | (rw [hy106]; with_reducible exact H) | (have H2_ := (Option.bind_some _ _).symm.trans H; rw [hy106]; with_reducible exact H2_) | (have H2_ := (Option.bind_some _ _).symm.trans H; with_reducible exact H2_) | with_reducible exact H | (rw [hy106]; exact H) | exact H
 have Ny106 := Aside0.mk hy106
 clear hy106
 have H' := Aside0.mk H
 clear H
 go_enter Try.func31, Try.ntmps31
 go_wp2_with (first | ((with_reducible refine gate_dst (N := 2) rfl ?_); (try (refine gate_guard (by rfl) ?_; dsimp only)); refine box_event ?hg (N := 2) ?hd (cs := #[.slice A0_0 l0_0.length c0_0, .slice A0_1 l0_1.length c0_1]) (t := 25) ?hr ?_; (case hd => rfl); (case hg => rfl); (case hr => first | (go_simp; done) | (go_simp; rfl)); intro Q0b hg w3 hbox hb; replace Q1f := gV Q1f Q0b hg hb; replace Q1g := gV Q1g Q0b hg hb; replace Q1h := gV Q1h Q0b hg hb; replace Q1i := gV Q1i Q0b hg hb; have Q01 := Aside0.mk (hbox); have Q6a := Aside0.mk ((by rw [hg]; exact (below_size hB) : w.heap.size ≤ Q0b)); have Q3r := Aside0.mk ((by rw [hg]; exact (below_size hB) : w.heap.size ≤ Q0b)); replace HB := uH HB hb; clear hb hbox hg) | ((with_reducible refine gate_dst (N := 3) rfl ?_); (try (refine gate_guard (by rfl) ?_; dsimp only)); refine box_event ?hg (N := 3) ?hd (cs := #[.slice A1_0 l1_0.length c1_0, .slice A1_1 l1_1.length c1_1]) (t := 25) ?hr ?_; (case hd => rfl); (case hg => rfl); (case hr => first | (go_simp; done) | (go_simp; rfl)); intro Q0a hg w4 hbox hb; replace Q1f := gV Q1f Q0a hg hb; replace Q1g := gV Q1g Q0a hg hb; replace Q1h := gV Q1h Q0a hg hb; replace Q1i := gV Q1i Q0a hg hb; have Q00 := Aside0.mk (hbox); have Q6b := uS HB hg; have Q3s := uS HB hg; replace HB := uH HB hb; have Q3j := uL Q01 hg; have Q3k := uG Q01 hg; replace Q01 := uB Q01 hb; clear hb hbox hg) | ((with_reducible refine gate_dst (N := 4) rfl ?_); (try (refine gate_guard (by rfl) ?_; dsimp only)); refine box_event ?hg (N := 4) ?hd (cs := #[.slice none 0 0, .slice none 0 0]) (t := 25) ?hr ?_; (case hd => rfl); (case hg => rfl); (case hr => first | (go_simp; done) | (go_simp; rfl)); intro Q06 hg w5 hbox hb; replace Q1f := gV Q1f Q06 hg hb; replace Q1g := gV Q1g Q06 hg hb; replace Q1h := gV Q1h Q06 hg hb; replace Q1i := gV Q1i Q06 hg hb; have Q02 := Aside0.mk (hbox); have Q6c := uS HB hg; have Q3t := uS HB hg; replace HB := uH HB hb; have Q30 := uL Q01 hg; have Q31 := uG Q01 hg; replace Q01 := uB Q01 hb; have Q25 := uL Q00 hg; have Q26 := uG Q00 hg; replace Q00 := uB Q00 hb; clear hb hbox hg) | ((with_reducible refine gate_dst (N := 5) rfl ?_); (try (refine gate_guard (by rfl) ?_; dsimp only)); refine box_event ?hg (N := 5) ?hd (cs := #[.slice none 0 0, .slice none 0 0]) (t := 29) ?hr ?_; (case hd => rfl); (case hg => rfl); (case hr => first | (go_simp; done) | (go_simp; rfl)); intro Q07 hg w6 hbox hb; replace Q1f := gV Q1f Q07 hg hb; replace Q1g := gV Q1g Q07 hg hb; replace Q1h := gV Q1h Q07 hg hb; replace Q1i := gV Q1i Q07 hg hb; have Q03 := Aside0.mk (hbox); have Q6d := uS HB hg; have Q3u := uS HB hg; replace HB := uH HB hb; have Q32 := uL Q01 hg; have Q33 := uG Q01 hg; replace Q01 := uB Q01 hb; have Q27 := uL Q00 hg; have Q28 := uG Q00 hg; replace Q00 := uB Q00 hb; have Q1o := uL Q02 hg; have Q1p := uG Q02 hg; replace Q02 := uB Q02 hb; clear hb hbox hg) | ((with_reducible refine gate_dst (N := 6) rfl ?_); (try (refine gate_guard (by rfl) ?_; dsimp only)); refine box_event ?hg (N := 6) ?hd (cs := #[.slice none 0 0, .slice none 0 0]) (t := 29) ?hr ?_; (case hd => rfl); (case hg => rfl); (case hr => first | (go_simp; done) | (go_simp; rfl)); intro Q08 hg w7 hbox hb; replace Q1f := gV Q1f Q08 hg hb; replace Q1g := gV Q1g Q08 hg hb; replace Q1h := gV Q1h Q08 hg hb; replace Q1i := gV Q1i Q08 hg hb; have Q04 := Aside0.mk (hbox); have Q6e := uS HB hg; have Q3v := uS HB hg; replace HB := uH HB hb; have Q34 := uL Q01 hg; have Q35 := uG Q01 hg; replace Q01 := uB Q01 hb; have Q29 := uL Q00 hg; have Q2a := uG Q00 hg; replace Q00 := uB Q00 hb; have Q1q := uL Q02 hg; have Q1r := uG Q02 hg; replace Q02 := uB Q02 hb; have Q1s := uL Q03 hg; have Q1t := uG Q03 hg; replace Q03 := uB Q03 hb; clear hb hbox hg; have Q6f := Q3j.out; have Q6g := Q3k.out; have Q6h := Q30.out; have Q6i := Q31.out; have Q6j := Q32.out; have Q6k := Q33.out; have Q6l := Q34.out; have Q6m := Q35.out; have Q48 : w7.cell? ⟨Q0b, 0, none⟩ = some (.slice A0_0 l0_0.length c0_0) := (blk_cell Q01.out 0).trans rfl; have Q49 : w7.cell? ⟨Q0b, 1, none⟩ = some (.slice A0_1 l0_1.length c0_1) := (blk_cell Q01.out 1).trans rfl; have Q4a := blk_frozen Q01.out 0; have Q4b := blk_frozen Q01.out 1; have Q6n := Q25.out; have Q6o := Q26.out; have Q6p := Q27.out; have Q6q := Q28.out; have Q6r := Q29.out; have Q6s := Q2a.out; have Q4c : w7.cell? ⟨Q0a, 0, none⟩ = some (.slice A1_0 l1_0.length c1_0) := (blk_cell Q00.out 0).trans rfl; have Q4d : w7.cell? ⟨Q0a, 1, none⟩ = some (.slice A1_1 l1_1.length c1_1) := (blk_cell Q00.out 1).trans rfl; have Q4e := blk_frozen Q00.out 0; have Q4f := blk_frozen Q00.out 1) | ((with_reducible refine gate_dst (N := 20) rfl ?_); (try (refine gate_guard (by rfl) ?_; dsimp only)); refine Kd.N_lit k25 _ 25 ?hg (N' := 20) ?hd (xs := ([(⟨l0_0, l0_1⟩ : S25), (⟨l1_0, l1_1⟩ : S25)] : List (S25))) (inner := [.slice A0_0 l0_0.length c0_0, .slice A0_1 l0_1.length c0_1, .slice A1_0 l1_0.length c1_0, .slice A1_1 l1_1.length c1_1]) (ok := (fun k_ => ((P0_0_ k_ ∨ P0_1_ k_ ∨ P1_0_ k_ ∨ P1_1_ k_) ∨ w.heap.size ≤ k_) ∧ k_ ≠ Q0b ∧ k_ ≠ Q0a ∧ k_ ≠ Q06 ∧ k_ ≠ Q07 ∧ k_ ≠ Q08)) (okp := (fun k_ => ((P0_0_ k_ ∨ P0_1_ k_ ∨ P1_0_ k_ ∨ P1_1_ k_) ∨ w.heap.size ≤ k_) ∧ k_ ≠ Q0b ∧ k_ ≠ Q0a ∧ k_ ≠ Q06 ∧ k_ ≠ Q07 ∧ k_ ≠ Q08)) ?hr ?hp (fun _ hk => hk) ((show ∀ k_, w7.heap.size ≤ k_ → (fun k_ => ((P0_0_ k_ ∨ P0_1_ k_ ∨ P1_0_ k_ ∨ P1_1_ k_) ∨ w.heap.size ≤ k_) ∧ k_ ≠ Q0b ∧ k_ ≠ Q0a ∧ k_ ≠ Q06 ∧ k_ ≠ Q07 ∧ k_ ≠ Q08) k_ from fun k_ hk => ⟨(.inr (Nat.le_trans (below_size (pH HB)) hk)), Kd.freshB (g := Q0b) (o := .cells #[.slice A0_0 l0_0.length c0_0, .slice A0_1 l0_1.length c0_1] 25 (0, 0)) (pB Q01) k_ hk, Kd.freshB (g := Q0a) (o := .cells #[.slice A1_0 l1_0.length c1_0, .slice A1_1 l1_1.length c1_1] 25 (0, 0)) (pB Q00) k_ hk, Kd.freshB (g := Q06) (o := .cells #[.slice none 0 0, .slice none 0 0] 25 (0, 0)) (pB Q02) k_ hk, Kd.freshB (g := Q07) (o := .cells #[.slice none 0 0, .slice none 0 0] 29 (0, 0)) (pB Q03) k_ hk, Kd.freshB (g := Q08) (o := .cells #[.slice none 0 0, .slice none 0 0] 29 (0, 0)) (pB Q04) k_ hk⟩) _ (Nat.le_refl _)) (Below.refl _ _) (Nat.le_refl _) (by simp) ?_; (case hd => rfl); (case hg => rfl); (case hr => first | (go_simp; done) | (go_simp; rfl)); (case hp => exact (Reps.c2 (show Kd.FK k25 _ _ (⟨l0_0, l0_1⟩ : S25) [.slice A0_0 l0_0.length c0_0, .slice A0_1 l0_1.length c0_1] from (k25_mkF _ _ (⟨l0_0, l0_1⟩ : S25) (Kd.V_reads' (Kd.V_mono (ok' := (fun k_ => ((P0_0_ k_ ∨ P0_1_ k_ ∨ P1_0_ k_ ∨ P1_1_ k_) ∨ w.heap.size ≤ k_) ∧ k_ ≠ Q0b ∧ k_ ≠ Q0a ∧ k_ ≠ Q06 ∧ k_ ≠ Q07 ∧ k_ ≠ Q08)) (Q1f.out) (fun k_ hk => ⟨hk.1.1.1.1.1, ⟨hk.1.1.1.1.2, ⟨hk.1.1.1.2, ⟨hk.1.1.2, ⟨hk.1.2, hk.2⟩⟩⟩⟩⟩))).2.1 (Kd.V_F (Kd.V_mono (ok' := (fun k_ => ((P0_0_ k_ ∨ P0_1_ k_ ∨ P1_0_ k_ ∨ P1_1_ k_) ∨ w.heap.size ≤ k_) ∧ k_ ≠ Q0b ∧ k_ ≠ Q0a ∧ k_ ≠ Q06 ∧ k_ ≠ Q07 ∧ k_ ≠ Q08)) (Q1f.out) (fun k_ hk => ⟨hk.1.1.1.1.1, ⟨hk.1.1.1.1.2, ⟨hk.1.1.1.2, ⟨hk.1.1.2, ⟨hk.1.2, hk.2⟩⟩⟩⟩⟩))) (Kd.V_reads' (Kd.V_mono (ok' := (fun k_ => ((P0_0_ k_ ∨ P0_1_ k_ ∨ P1_0_ k_ ∨ P1_1_ k_) ∨ w.heap.size ≤ k_) ∧ k_ ≠ Q0b ∧ k_ ≠ Q0a ∧ k_ ≠ Q06 ∧ k_ ≠ Q07 ∧ k_ ≠ Q08)) (Q1g.out) (fun k_ hk => ⟨hk.1.1.1.1.1, ⟨hk.1.1.1.1.2, ⟨hk.1.1.1.2, ⟨hk.1.1.2, ⟨hk.1.2, hk.2⟩⟩⟩⟩⟩))).2.1 (Kd.V_F (Kd.V_mono (ok' := (fun k_ => ((P0_0_ k_ ∨ P0_1_ k_ ∨ P1_0_ k_ ∨ P1_1_ k_) ∨ w.heap.size ≤ k_) ∧ k_ ≠ Q0b ∧ k_ ≠ Q0a ∧ k_ ≠ Q06 ∧ k_ ≠ Q07 ∧ k_ ≠ Q08)) (Q1g.out) (fun k_ hk => ⟨hk.1.1.1.1.1, ⟨hk.1.1.1.1.2, ⟨hk.1.1.1.2, ⟨hk.1.1.2, ⟨hk.1.2, hk.2⟩⟩⟩⟩⟩))))) (Reps.c2 (show Kd.FK k25 _ _ (⟨l1_0, l1_1⟩ : S25) [.slice A1_0 l1_0.length c1_0, .slice A1_1 l1_1.length c1_1] from (k25_mkF _ _ (⟨l1_0, l1_1⟩ : S25) (Kd.V_reads' (Kd.V_mono (ok' := (fun k_ => ((P0_0_ k_ ∨ P0_1_ k_ ∨ P1_0_ k_ ∨ P1_1_ k_) ∨ w.heap.size ≤ k_) ∧ k_ ≠ Q0b ∧ k_ ≠ Q0a ∧ k_ ≠ Q06 ∧ k_ ≠ Q07 ∧ k_ ≠ Q08)) (Q1h.out) (fun k_ hk => ⟨hk.1.1.1.1.1, ⟨hk.1.1.1.1.2, ⟨hk.1.1.1.2, ⟨hk.1.1.2, ⟨hk.1.2, hk.2⟩⟩⟩⟩⟩))).2.1 (Kd.V_F (Kd.V_mono (ok' := (fun k_ => ((P0_0_ k_ ∨ P0_1_ k_ ∨ P1_0_ k_ ∨ P1_1_ k_) ∨ w.heap.size ≤ k_) ∧ k_ ≠ Q0b ∧ k_ ≠ Q0a ∧ k_ ≠ Q06 ∧ k_ ≠ Q07 ∧ k_ ≠ Q08)) (Q1h.out) (fun k_ hk => ⟨hk.1.1.1.1.1, ⟨hk.1.1.1.1.2, ⟨hk.1.1.1.2, ⟨hk.1.1.2, ⟨hk.1.2, hk.2⟩⟩⟩⟩⟩))) (Kd.V_reads' (Kd.V_mono (ok' := (fun k_ => ((P0_0_ k_ ∨ P0_1_ k_ ∨ P1_0_ k_ ∨ P1_1_ k_) ∨ w.heap.size ≤ k_) ∧ k_ ≠ Q0b ∧ k_ ≠ Q0a ∧ k_ ≠ Q06 ∧ k_ ≠ Q07 ∧ k_ ≠ Q08)) (Q1i.out) (fun k_ hk => ⟨hk.1.1.1.1.1, ⟨hk.1.1.1.1.2, ⟨hk.1.1.1.2, ⟨hk.1.1.2, ⟨hk.1.2, hk.2⟩⟩⟩⟩⟩))).2.1 (Kd.V_F (Kd.V_mono (ok' := (fun k_ => ((P0_0_ k_ ∨ P0_1_ k_ ∨ P1_0_ k_ ∨ P1_1_ k_) ∨ w.heap.size ≤ k_) ∧ k_ ≠ Q0b ∧ k_ ≠ Q0a ∧ k_ ≠ Q06 ∧ k_ ≠ Q07 ∧ k_ ≠ Q08)) (Q1i.out) (fun k_ hk => ⟨hk.1.1.1.1.1, ⟨hk.1.1.1.1.2, ⟨hk.1.1.1.2, ⟨hk.1.1.2, ⟨hk.1.2, hk.2⟩⟩⟩⟩⟩))))) (Reps.none _ _)))); intro v107 w17 ho18 hb hg_ hnew_; clear hg_ hnew_; (first | rw [← Ny106.out] at ho18 | (simp only [Int.reduceToNat] at ho18; rw [← Ny106.out] at ho18)); replace Q1f := eV Q1f (Kd.N_base ho18) hb; replace Q1g := eV Q1g (Kd.N_base ho18) hb; replace Q1h := eV Q1h (Kd.N_base ho18) hb; replace Q1i := eV Q1i (Kd.N_base ho18) hb; have Q4g := Aside0.mk (Kd.N_lower ho18 (below_size (pH HB))); replace Q01 := uB Q01 hb; replace Q00 := uB Q00 hb; replace Q02 := uB Q02 hb; replace Q03 := uB Q03 hb; replace Q04 := uB Q04 hb; replace HB := uH HB hb; clear hb ho18; obtain ⟨Q36, Q37, Q4v⟩ := Kd.N_slice Q4g.out; subst Q4v))
 go_loopg [22] k (fun kq v22 w' => ∃ (x22_1 : Int), v22 = .int .i64 x22_1 ∧ Aside0 (graph_Union.l0 kq y106 (y106.length : Int) x22_1 l0_0 l0_1 l1_0 l1_1 = some (r1, r2, r3, r4, r5, r6, r7)) ∧ Aside0 (kq ≤ k) ∧ Aside0 (Kd.N k25 25 w' w.heap.size (fun k_ => ((P0_0_ k_ ∨ P0_1_ k_ ∨ P1_0_ k_ ∨ P1_1_ k_) ∨ w.heap.size ≤ k_) ∧ k_ ≠ Q0b ∧ k_ ≠ Q0a ∧ k_ ≠ Q06 ∧ k_ ≠ Q07 ∧ k_ ≠ Q08) (.slice Q36 y106.length Q37) y106) ∧ Aside0 (Kd.V (Kd.int .i64) 3 w' w.heap.size (fun k_ => ((P0_0_ k_ ∨ P0_1_ k_ ∨ P1_0_ k_ ∨ P1_1_ k_) ∨ w.heap.size ≤ k_) ∧ some k_ ≠ ((.slice Q36 y106.length Q37) : Value).ownBlock ∧ k_ ≠ Q0b ∧ k_ ≠ Q0a ∧ k_ ≠ Q06 ∧ k_ ≠ Q07 ∧ k_ ≠ Q08) (.slice A0_0 l0_0.length c0_0) l0_0) ∧ Aside0 (Kd.V k38 38 w' w.heap.size (fun k_ => ((P0_0_ k_ ∨ P0_1_ k_ ∨ P1_0_ k_ ∨ P1_1_ k_) ∨ w.heap.size ≤ k_) ∧ some k_ ≠ ((.slice Q36 y106.length Q37) : Value).ownBlock ∧ k_ ≠ Q0b ∧ k_ ≠ Q0a ∧ k_ ≠ Q06 ∧ k_ ≠ Q07 ∧ k_ ≠ Q08) (.slice A0_1 l0_1.length c0_1) l0_1) ∧ Aside0 (Kd.V (Kd.int .i64) 3 w' w.heap.size (fun k_ => ((P0_0_ k_ ∨ P0_1_ k_ ∨ P1_0_ k_ ∨ P1_1_ k_) ∨ w.heap.size ≤ k_) ∧ some k_ ≠ ((.slice Q36 y106.length Q37) : Value).ownBlock ∧ k_ ≠ Q0b ∧ k_ ≠ Q0a ∧ k_ ≠ Q06 ∧ k_ ≠ Q07 ∧ k_ ≠ Q08) (.slice A1_0 l1_0.length c1_0) l1_0) ∧ Aside0 (Kd.V k38 38 w' w.heap.size (fun k_ => ((P0_0_ k_ ∨ P0_1_ k_ ∨ P1_0_ k_ ∨ P1_1_ k_) ∨ w.heap.size ≤ k_) ∧ some k_ ≠ ((.slice Q36 y106.length Q37) : Value).ownBlock ∧ k_ ≠ Q0b ∧ k_ ≠ Q0a ∧ k_ ≠ Q06 ∧ k_ ≠ Q07 ∧ k_ ≠ Q08) (.slice A1_1 l1_1.length c1_1) l1_1) ∧ Aside0 (w'.heap[Q0b]? = some (.cells #[(.slice A0_0 l0_0.length c0_0), (.slice A0_1 l0_1.length c0_1)] 25 (0, 0))) ∧ Aside0 (w'.heap[Q0a]? = some (.cells #[(.slice A1_0 l1_0.length c1_0), (.slice A1_1 l1_1.length c1_1)] 25 (0, 0))) ∧ Aside0 (w'.heap[Q06]? = some (.cells #[(.slice none 0 0), (.slice none 0 0)] 25 (0, 0))) ∧ Aside0 (w'.heap[Q07]? = some (.cells #[(.slice none 0 0), (.slice none 0 0)] 29 (0, 0))) ∧ Aside0 (w'.heap[Q08]? = some (.cells #[(.slice none 0 0), (.slice none 0 0)] 29 (0, 0))) ∧ Aside0 (Below w.heap.size w w'))
 case atStart => exact ⟨(0), rS, H', ⟨Nat.le_refl _⟩, ⟨pN Q4g⟩, ⟨by (with_reducible repeat (first | apply Kd.V_alloc | apply Kd.V_drewN | apply Kd.V_drew)); exact Kd.V_mono Q1f.out (fun _ hk => ⟨hk.1.1.1.1.1.1, ⟨hk.2, ⟨hk.1.1.1.1.1.2, ⟨hk.1.1.1.1.2, ⟨hk.1.1.1.2, ⟨hk.1.1.2, hk.1.2⟩⟩⟩⟩⟩⟩)⟩, ⟨by (with_reducible repeat (first | apply Kd.V_alloc | apply Kd.V_drewN | apply Kd.V_drew)); exact Kd.V_mono Q1g.out (fun _ hk => ⟨hk.1.1.1.1.1.1, ⟨hk.2, ⟨hk.1.1.1.1.1.2, ⟨hk.1.1.1.1.2, ⟨hk.1.1.1.2, ⟨hk.1.1.2, hk.1.2⟩⟩⟩⟩⟩⟩)⟩, ⟨by (with_reducible repeat (first | apply Kd.V_alloc | apply Kd.V_drewN | apply Kd.V_drew)); exact Kd.V_mono Q1h.out (fun _ hk => ⟨hk.1.1.1.1.1.1, ⟨hk.2, ⟨hk.1.1.1.1.1.2, ⟨hk.1.1.1.1.2, ⟨hk.1.1.1.2, ⟨hk.1.1.2, hk.1.2⟩⟩⟩⟩⟩⟩)⟩, ⟨by (with_reducible repeat (first | apply Kd.V_alloc | apply Kd.V_drewN | apply Kd.V_drew)); exact Kd.V_mono Q1i.out (fun _ hk => ⟨hk.1.1.1.1.1.1, ⟨hk.2, ⟨hk.1.1.1.1.1.2, ⟨hk.1.1.1.1.2, ⟨hk.1.1.1.2, ⟨hk.1.1.2, hk.1.2⟩⟩⟩⟩⟩⟩)⟩, ⟨pB Q01⟩, ⟨pB Q00⟩, ⟨pB Q02⟩, ⟨pB Q03⟩, ⟨pB Q04⟩, ⟨pH HB⟩⟩
 case round =>
  clear H'
  try clear c1; try clear c2; try clear p2; try clear c3; try clear c8; try clear c9; try clear c10; try clear c11; try clear c13; try clear c14; try clear c15; try clear Q48; try clear Q49; try clear Q4c; try clear Q4d; try clear Q4a; try clear Q4b; try clear Q4e; try clear Q4f
  obtain ⟨x22_1, rfl, HA, HK1, Q16, Q0d, Q0c, Q0e, Q0f, Q01, Q00, Q02, Q03, Q04, HB⟩ := hrel
  cases gk with
  | zero => exact absurd HA.out (by simp [graph_Union.l0])
  | succ k1 =>
   have H := HA.out
   clear HA
   simp only [graph_Union.l0] at H
   by_cases c20 : x22_1 < (y106.length : Int)
   ·rw [if_pos c20] at H
    have c20b0 : decide (x22_1 < (y106.length : Int)) = true := decide_eq_true c20
    clear c20
    by_cases c21 : 0 ≤ x22_1
    ·rw [if_pos c21] at H
     have c21b0 : decide (0 ≤ x22_1) = true := decide_eq_true c21
     clear c21
     by_cases c22 : x22_1 < (y106.length : Int)
     ·rw [if_pos c22] at H
      have c22b0 : decide (x22_1 < (y106.length : Int)) = true := decide_eq_true c22
      clear c22
      replace H := Option.bind_eq_some_iff.mp H
      obtain ⟨t111, A230, H⟩ := H
      replace H : (if t111 = 0 then (graph_Union.l0 k1 y106 (y106.length : Int) (wrap64 (x22_1 + 1)) l0_0 l0_1 l1_0 l1_1) else (some (([] : List Int), ([] : List (S38)), ([] : List Int), ([] : List Int), ([] : List Int), ([] : List Int), t111))) = some (r1, r2, r3, r4, r5, r6, r7) := H
      have A23 := Aside0.mk A230
      clear A230
      by_cases c24 : t111 = 0
      ·rw [if_pos c24] at H
       have c24b0 : (t111 == 0) = true := beq_iff_eq.mpr c24
       have c24b1 : (t111 != 0) = false := bne_eq_false_iff_eq.mpr c24
       clear c24
       have H' := Aside0.mk H
       clear H
       have p109 : 0 ≤ (x22_1 : Int) := oT
       have q109 : x22_1 < (y106.length : Int) := oT
       obtain ⟨ad109, A109_0, c109_0, A109_1, c109_1, e109, hx109_0, hx109_1, hl109_0, hi109_0, hl109_1, hi109_1⟩ := at_T25 (Kd.N_reads' Q16.out).2.2 x22_1 p109 q109
       cases e109
       obtain ⟨ce109, hce109, hMe109, hcc109⟩ := Kd.N_get Q16.out z25 x22_1 p109 (by first | exact q109 | exact oT | (have e_ := (Kd.N_reads' Q16.out).1; omega))
       obtain ⟨ua109_0, uc109_0, ua109_1, uc109_1, rfl, ul109_0, ge109_0, ul109_1, ge109_1⟩ := k25_openF hMe109
       have hv109_0 := hcc109 0 _ rfl
       rw [Nat.add_zero] at hv109_0
       replace hv109_0 := Option.some.inj (hv109_0.symm.trans hx109_0)
       injection hv109_0 with hva_ hvn_ hvc_
       rw [hva_] at ge109_0
       rw [hvc_] at ul109_0
       have HL109_0 := Aside0.mk (show Kd.V (Kd.int .i64) 3 _ w.heap.size _ _ ((rd_T25 y106 x22_1).f0) from Kd.V_mk ul109_0 ge109_0)
       clear hva_ hvn_ hvc_ ge109_0 ul109_0
       have hv109_1 := hcc109 1 _ rfl
       rw [add_field _ _ 1 (by omega)] at hv109_1
       replace hv109_1 := Option.some.inj (hv109_1.symm.trans hx109_1)
       injection hv109_1 with hva_ hvn_ hvc_
       rw [hva_] at ge109_1
       rw [hvc_] at ul109_1
       have HL109_1 := Aside0.mk (show Kd.V k38 38 _ w.heap.size _ _ ((rd_T25 y106 x22_1).f1) from Kd.V_mk ul109_1 ge109_1)
       clear hva_ hvn_ hvc_ ge109_1 ul109_1
       clear hcc109 hce109
       have HR109_0 := Aside0.mk hi109_0
       have HC109_0 := Aside0.mk hl109_0
       clear hi109_0 hl109_0
       have HR109_1 := Aside0.mk hi109_1
       have HC109_1 := Aside0.mk hl109_1
       clear hi109_1 hl109_1
       replace p109 := eq_true p109
       replace q109 := eq_true q109
       go_wp2_with (first | ((with_reducible refine gate_dst (N := 9) rfl ?_); (try (refine gate_guard (by rfl) ?_; dsimp only)); refine box_event ?hg (N := 9) ?hd (cs := #[.slice none 0 0, .slice none 0 0]) (t := 25) ?hr ?_; (case hd => rfl); (case hg => rfl); (case hr => first | (go_simp; done) | (go_simp; rfl)); intro Q0i hg w25 hbox hb; replace Q16 := gN Q16 Q0i hg hb; replace Q0d := gV Q0d Q0i hg hb; replace Q0c := gV Q0c Q0i hg hb; replace Q0e := gV Q0e Q0i hg hb; replace Q0f := gV Q0f Q0i hg hb; replace HL109_0 := gV HL109_0 Q0i hg hb; replace HL109_1 := gV HL109_1 Q0i hg hb; replace HR109_0 := Aside0.mk (cB (by repeat (first | (with_reducible exact HR109_0.out) | (with_reducible refine cA ?_ _) | (with_reducible refine cN ?_ _) | (with_reducible refine cD ?_) | exact HR109_0.out)) hb); replace HR109_1 := Aside0.mk (cB (by repeat (first | (with_reducible exact HR109_1.out) | (with_reducible refine cA ?_ _) | (with_reducible refine cN ?_ _) | (with_reducible refine cD ?_) | exact HR109_1.out)) hb); have Q1n := Aside0.mk (hbox); have Q4w := uS HB hg; have Q4h := uS HB hg; replace HB := uH HB hb; have Q2o := uL Q01 hg; have Q3w := uG Q01 hg; replace Q01 := uB Q01 hb; have Q2p := uL Q00 hg; have Q3x := uG Q00 hg; replace Q00 := uB Q00 hb; have Q2q := uL Q02 hg; have Q3y := uG Q02 hg; replace Q02 := uB Q02 hb; have Q2r := uL Q03 hg; have Q3z := uG Q03 hg; replace Q03 := uB Q03 hb; have Q2s := uL Q04 hg; have Q40 := uG Q04 hg; replace Q04 := uB Q04 hb; clear hb hbox hg; have Q6t := Q3w.out; have Q6u := Q2o.out; have Q6v := Q3x.out; have Q6w := Q2p.out; have Q6x := Q3y.out; have Q6y := Q2q.out; have Q6z := Q3z.out; have Q70 := Q2r.out; have Q71 := Q40.out; have Q72 := Q2s.out; have Q4x : w25.cell? ⟨Q0i, 0, none⟩ = some (.slice none 0 0) := (blk_cell Q1n.out 0).trans rfl; have Q4y : w25.cell? ⟨Q0i, 1, none⟩ = some (.slice none 0 0) := (blk_cell Q1n.out 1).trans rfl; have Q4z := blk_frozen Q1n.out 0; have Q50 := blk_frozen Q1n.out 1) | ((with_reducible refine gate_callee (f := 26) rfl ?_); refine goesL_ (some 27) rfl rfl Try.func26 (by kernel_rfl) rfl #[.agg #[.slice A109_0 ((rd_T25 y106 x22_1).f0).length c109_0, .slice A109_1 ((rd_T25 y106 x22_1).f1).length c109_1]] rfl aM ?_; (with_reducible refine (graph_Valid.calls _ _ ((rd_T25 y106 x22_1).f0) _ _ ((rd_T25 y106 x22_1).f1) t111 _ ?side1 ?side2 ?side3 ?side4 A23.out).mono ?_); (case side1 => repeat (first | exact ((Kd.V_reads' (by (with_reducible repeat (first | apply Kd.V_alloc | apply Kd.V_drewN | apply Kd.V_drew)); exact (Kd.V_mono (Kd.V_far (p := ⟨Q0i, 1, none⟩) (Kd.V_far (p := ⟨Q0i, 0, none⟩) (Kd.V_mono HL109_0.out (fun k_ hk => (⟨hk, hk.2⟩ : _ ∧ k_ ≠ Q0i))) (fun _ hk => hk.2) (.slice A109_0 ((rd_T25 y106 x22_1).f0).length c109_0)) (fun _ hk => hk.2) (.slice A109_1 ((rd_T25 y106 x22_1).f1).length c109_1)) (fun _ h_ => h_.1)))).2.2) | (with_reducible refine cA ?_ _) | (with_reducible refine cN ?_ _) | (with_reducible refine cD ?_))); (case side2 => exact HC109_0.out); (case side3 => repeat (first | exact ((Kd.V_reads' (by (with_reducible repeat (first | apply Kd.V_alloc | apply Kd.V_drewN | apply Kd.V_drew)); exact (Kd.V_mono (Kd.V_far (p := ⟨Q0i, 1, none⟩) (Kd.V_far (p := ⟨Q0i, 0, none⟩) (Kd.V_mono HL109_1.out (fun k_ hk => (⟨hk, hk.2⟩ : _ ∧ k_ ≠ Q0i))) (fun _ hk => hk.2) (.slice A109_0 ((rd_T25 y106 x22_1).f0).length c109_0)) (fun _ hk => hk.2) (.slice A109_1 ((rd_T25 y106 x22_1).f1).length c109_1)) (fun _ h_ => h_.1)))).2.2) | (with_reducible refine cA ?_ _) | (with_reducible refine cN ?_ _) | (with_reducible refine cD ?_))); (case side4 => exact HC109_1.out); rintro e w32 ⟨rfl, hb⟩; refine ⟨_, rfl, ?_⟩; replace Q16 := Aside0.mk (Kd.N_below (by (with_reducible repeat (first | apply Kd.N_alloc | apply Kd.N_drewN | apply Kd.N_drew)); exact (Kd.N_mono (Kd.N_far (p := ⟨Q0i, 1, none⟩) (Kd.N_far (p := ⟨Q0i, 0, none⟩) (Kd.N_mono Q16.out (fun k_ hk => (⟨hk, hk.2⟩ : _ ∧ k_ ≠ Q0i))) (fun _ hk => hk.2) (.slice A109_0 ((rd_T25 y106 x22_1).f0).length c109_0)) (fun _ hk => hk.2) (.slice A109_1 ((rd_T25 y106 x22_1).f1).length c109_1)) (fun _ h_ => h_.1))) hb); replace Q0d := Aside0.mk (Kd.V_below (by (with_reducible repeat (first | apply Kd.V_alloc | apply Kd.V_drewN | apply Kd.V_drew)); exact (Kd.V_mono (Kd.V_far (p := ⟨Q0i, 1, none⟩) (Kd.V_far (p := ⟨Q0i, 0, none⟩) (Kd.V_mono Q0d.out (fun k_ hk => (⟨hk, hk.2⟩ : _ ∧ k_ ≠ Q0i))) (fun _ hk => hk.2) (.slice A109_0 ((rd_T25 y106 x22_1).f0).length c109_0)) (fun _ hk => hk.2) (.slice A109_1 ((rd_T25 y106 x22_1).f1).length c109_1)) (fun _ h_ => h_.1))) hb); replace Q0c := Aside0.mk (Kd.V_below (by (with_reducible repeat (first | apply Kd.V_alloc | apply Kd.V_drewN | apply Kd.V_drew)); exact (Kd.V_mono (Kd.V_far (p := ⟨Q0i, 1, none⟩) (Kd.V_far (p := ⟨Q0i, 0, none⟩) (Kd.V_mono Q0c.out (fun k_ hk => (⟨hk, hk.2⟩ : _ ∧ k_ ≠ Q0i))) (fun _ hk => hk.2) (.slice A109_0 ((rd_T25 y106 x22_1).f0).length c109_0)) (fun _ hk => hk.2) (.slice A109_1 ((rd_T25 y106 x22_1).f1).length c109_1)) (fun _ h_ => h_.1))) hb); replace Q0e := Aside0.mk (Kd.V_below (by (with_reducible repeat (first | apply Kd.V_alloc | apply Kd.V_drewN | apply Kd.V_drew)); exact (Kd.V_mono (Kd.V_far (p := ⟨Q0i, 1, none⟩) (Kd.V_far (p := ⟨Q0i, 0, none⟩) (Kd.V_mono Q0e.out (fun k_ hk => (⟨hk, hk.2⟩ : _ ∧ k_ ≠ Q0i))) (fun _ hk => hk.2) (.slice A109_0 ((rd_T25 y106 x22_1).f0).length c109_0)) (fun _ hk => hk.2) (.slice A109_1 ((rd_T25 y106 x22_1).f1).length c109_1)) (fun _ h_ => h_.1))) hb); replace Q0f := Aside0.mk (Kd.V_below (by (with_reducible repeat (first | apply Kd.V_alloc | apply Kd.V_drewN | apply Kd.V_drew)); exact (Kd.V_mono (Kd.V_far (p := ⟨Q0i, 1, none⟩) (Kd.V_far (p := ⟨Q0i, 0, none⟩) (Kd.V_mono Q0f.out (fun k_ hk => (⟨hk, hk.2⟩ : _ ∧ k_ ≠ Q0i))) (fun _ hk => hk.2) (.slice A109_0 ((rd_T25 y106 x22_1).f0).length c109_0)) (fun _ hk => hk.2) (.slice A109_1 ((rd_T25 y106 x22_1).f1).length c109_1)) (fun _ h_ => h_.1))) hb); replace Q01 := Aside0.mk (bB (g := Q0b) (o := .cells #[.slice A0_0 l0_0.length c0_0, .slice A0_1 l0_1.length c0_1] 25 (0, 0)) (by (with_reducible repeat (first | refine bN ?_ _ | refine bD ?_ | refine bA ?_ _)); refine blk_far ?_ Q2o.out _; (with_reducible repeat (first | refine bN ?_ _ | refine bD ?_ | refine bA ?_ _)); refine blk_far ?_ Q2o.out _; (with_reducible repeat (first | refine bN ?_ _ | refine bD ?_ | refine bA ?_ _)); exact Q01.out) hb); replace Q00 := Aside0.mk (bB (g := Q0a) (o := .cells #[.slice A1_0 l1_0.length c1_0, .slice A1_1 l1_1.length c1_1] 25 (0, 0)) (by (with_reducible repeat (first | refine bN ?_ _ | refine bD ?_ | refine bA ?_ _)); refine blk_far ?_ Q2p.out _; (with_reducible repeat (first | refine bN ?_ _ | refine bD ?_ | refine bA ?_ _)); refine blk_far ?_ Q2p.out _; (with_reducible repeat (first | refine bN ?_ _ | refine bD ?_ | refine bA ?_ _)); exact Q00.out) hb); replace Q02 := Aside0.mk (bB (g := Q06) (o := .cells #[.slice none 0 0, .slice none 0 0] 25 (0, 0)) (by (with_reducible repeat (first | refine bN ?_ _ | refine bD ?_ | refine bA ?_ _)); refine blk_far ?_ Q2q.out _; (with_reducible repeat (first | refine bN ?_ _ | refine bD ?_ | refine bA ?_ _)); refine blk_far ?_ Q2q.out _; (with_reducible repeat (first | refine bN ?_ _ | refine bD ?_ | refine bA ?_ _)); exact Q02.out) hb); replace Q03 := Aside0.mk (bB (g := Q07) (o := .cells #[.slice none 0 0, .slice none 0 0] 29 (0, 0)) (by (with_reducible repeat (first | refine bN ?_ _ | refine bD ?_ | refine bA ?_ _)); refine blk_far ?_ Q2r.out _; (with_reducible repeat (first | refine bN ?_ _ | refine bD ?_ | refine bA ?_ _)); refine blk_far ?_ Q2r.out _; (with_reducible repeat (first | refine bN ?_ _ | refine bD ?_ | refine bA ?_ _)); exact Q03.out) hb); replace Q04 := Aside0.mk (bB (g := Q08) (o := .cells #[.slice none 0 0, .slice none 0 0] 29 (0, 0)) (by (with_reducible repeat (first | refine bN ?_ _ | refine bD ?_ | refine bA ?_ _)); refine blk_far ?_ Q2s.out _; (with_reducible repeat (first | refine bN ?_ _ | refine bD ?_ | refine bA ?_ _)); refine blk_far ?_ Q2s.out _; (with_reducible repeat (first | refine bN ?_ _ | refine bD ?_ | refine bA ?_ _)); exact Q04.out) hb); replace HR109_0 := Aside0.mk (cB ((Kd.V_reads' (by (with_reducible repeat (first | apply Kd.V_alloc | apply Kd.V_drewN | apply Kd.V_drew)); exact (Kd.V_mono (Kd.V_far (p := ⟨Q0i, 1, none⟩) (Kd.V_far (p := ⟨Q0i, 0, none⟩) (Kd.V_mono HL109_0.out (fun k_ hk => (⟨hk, hk.2⟩ : _ ∧ k_ ≠ Q0i))) (fun _ hk => hk.2) (.slice A109_0 ((rd_T25 y106 x22_1).f0).length c109_0)) (fun _ hk => hk.2) (.slice A109_1 ((rd_T25 y106 x22_1).f1).length c109_1)) (fun _ h_ => h_.1)))).2.2) hb); replace HL109_0 := Aside0.mk (Kd.V_below (by (with_reducible repeat (first | apply Kd.V_alloc | apply Kd.V_drewN | apply Kd.V_drew)); exact (Kd.V_mono (Kd.V_far (p := ⟨Q0i, 1, none⟩) (Kd.V_far (p := ⟨Q0i, 0, none⟩) (Kd.V_mono HL109_0.out (fun k_ hk => (⟨hk, hk.2⟩ : _ ∧ k_ ≠ Q0i))) (fun _ hk => hk.2) (.slice A109_0 ((rd_T25 y106 x22_1).f0).length c109_0)) (fun _ hk => hk.2) (.slice A109_1 ((rd_T25 y106 x22_1).f1).length c109_1)) (fun _ h_ => h_.1))) hb); replace HR109_1 := Aside0.mk (cB ((Kd.V_reads' (by (with_reducible repeat (first | apply Kd.V_alloc | apply Kd.V_drewN | apply Kd.V_drew)); exact (Kd.V_mono (Kd.V_far (p := ⟨Q0i, 1, none⟩) (Kd.V_far (p := ⟨Q0i, 0, none⟩) (Kd.V_mono HL109_1.out (fun k_ hk => (⟨hk, hk.2⟩ : _ ∧ k_ ≠ Q0i))) (fun _ hk => hk.2) (.slice A109_0 ((rd_T25 y106 x22_1).f0).length c109_0)) (fun _ hk => hk.2) (.slice A109_1 ((rd_T25 y106 x22_1).f1).length c109_1)) (fun _ h_ => h_.1)))).2.2) hb); replace HL109_1 := Aside0.mk (Kd.V_below (by (with_reducible repeat (first | apply Kd.V_alloc | apply Kd.V_drewN | apply Kd.V_drew)); exact (Kd.V_mono (Kd.V_far (p := ⟨Q0i, 1, none⟩) (Kd.V_far (p := ⟨Q0i, 0, none⟩) (Kd.V_mono HL109_1.out (fun k_ hk => (⟨hk, hk.2⟩ : _ ∧ k_ ≠ Q0i))) (fun _ hk => hk.2) (.slice A109_0 ((rd_T25 y106 x22_1).f0).length c109_0)) (fun _ hk => hk.2) (.slice A109_1 ((rd_T25 y106 x22_1).f1).length c109_1)) (fun _ h_ => h_.1))) hb); replace Q1n := Aside0.mk (bB (g := Q0i) (o := .cells #[.slice A109_0 ((rd_T25 y106 x22_1).f0).length c109_0, .slice A109_1 ((rd_T25 y106 x22_1).f1).length c109_1] 25 (0, 0)) (by (with_reducible repeat (first | refine bN ?_ _ | refine bD ?_ | refine bA ?_ _)); refine blk_put (cs := #[.slice A109_0 ((rd_T25 y106 x22_1).f0).length c109_0, .slice none 0 0]) ?_ 1 _ rfl; (with_reducible repeat (first | refine bN ?_ _ | refine bD ?_ | refine bA ?_ _)); refine blk_put (cs := #[.slice none 0 0, .slice none 0 0]) ?_ 0 _ rfl; (with_reducible repeat (first | refine bN ?_ _ | refine bD ?_ | refine bA ?_ _)); exact Q1n.out) hb); replace HB := uH HB hb; (try clear hb); (try clear hb2); (try clear hk); (try clear hi)))
       go_roundg k1
       case measure => have := HK1.out; omega
       case rel => exact ⟨(wrap64 (x22_1 + 1)), rS, H', ⟨by have := HK1.out; omega⟩, ⟨by (with_reducible repeat (first | apply Kd.N_alloc | apply Kd.N_drewN | apply Kd.N_drew)); exact Kd.N_mono Q16.out (fun _ hk => ⟨hk.1.1, ⟨hk.1.2.1, ⟨hk.1.2.2.1, ⟨hk.1.2.2.2.1, ⟨hk.1.2.2.2.2.1, hk.1.2.2.2.2.2⟩⟩⟩⟩⟩)⟩, ⟨by (with_reducible repeat (first | apply Kd.V_alloc | apply Kd.V_drewN | apply Kd.V_drew)); exact Kd.V_mono Q0d.out (fun _ hk => ⟨hk.1.1, ⟨hk.1.2.1, ⟨hk.1.2.2.1, ⟨hk.1.2.2.2.1, ⟨hk.1.2.2.2.2.1, ⟨hk.1.2.2.2.2.2.1, hk.1.2.2.2.2.2.2⟩⟩⟩⟩⟩⟩)⟩, ⟨by (with_reducible repeat (first | apply Kd.V_alloc | apply Kd.V_drewN | apply Kd.V_drew)); exact Kd.V_mono Q0c.out (fun _ hk => ⟨hk.1.1, ⟨hk.1.2.1, ⟨hk.1.2.2.1, ⟨hk.1.2.2.2.1, ⟨hk.1.2.2.2.2.1, ⟨hk.1.2.2.2.2.2.1, hk.1.2.2.2.2.2.2⟩⟩⟩⟩⟩⟩)⟩, ⟨by (with_reducible repeat (first | apply Kd.V_alloc | apply Kd.V_drewN | apply Kd.V_drew)); exact Kd.V_mono Q0e.out (fun _ hk => ⟨hk.1.1, ⟨hk.1.2.1, ⟨hk.1.2.2.1, ⟨hk.1.2.2.2.1, ⟨hk.1.2.2.2.2.1, ⟨hk.1.2.2.2.2.2.1, hk.1.2.2.2.2.2.2⟩⟩⟩⟩⟩⟩)⟩, ⟨by (with_reducible repeat (first | apply Kd.V_alloc | apply Kd.V_drewN | apply Kd.V_drew)); exact Kd.V_mono Q0f.out (fun _ hk => ⟨hk.1.1, ⟨hk.1.2.1, ⟨hk.1.2.2.1, ⟨hk.1.2.2.2.1, ⟨hk.1.2.2.2.2.1, ⟨hk.1.2.2.2.2.2.1, hk.1.2.2.2.2.2.2⟩⟩⟩⟩⟩⟩)⟩, ⟨pB Q01⟩, ⟨pB Q00⟩, ⟨pB Q02⟩, ⟨pB Q03⟩, ⟨pB Q04⟩, ⟨pH HB⟩⟩
      ·rw [if_neg c24] at H
       have c24b0 : (t111 == 0) = false := beq_eq_false_iff_ne.mpr c24
       have c24b1 : (t111 != 0) = true := bne_iff_ne.mpr c24
       simp only [Option.some.injEq, Prod.mk.injEq] at H
       obtain ⟨rfl, rfl, rfl, rfl, rfl, rfl, rfl⟩ := H
       have p109 : 0 ≤ (x22_1 : Int) := oT
       have q109 : x22_1 < (y106.length : Int) := oT
       obtain ⟨ad109, A109_0, c109_0, A109_1, c109_1, e109, hx109_0, hx109_1, hl109_0, hi109_0, hl109_1, hi109_1⟩ := at_T25 (Kd.N_reads' Q16.out).2.2 x22_1 p109 q109
       cases e109
       obtain ⟨ce109, hce109, hMe109, hcc109⟩ := Kd.N_get Q16.out z25 x22_1 p109 (by first | exact q109 | exact oT | (have e_ := (Kd.N_reads' Q16.out).1; omega))
       obtain ⟨ua109_0, uc109_0, ua109_1, uc109_1, rfl, ul109_0, ge109_0, ul109_1, ge109_1⟩ := k25_openF hMe109
       have hv109_0 := hcc109 0 _ rfl
       rw [Nat.add_zero] at hv109_0
       replace hv109_0 := Option.some.inj (hv109_0.symm.trans hx109_0)
       injection hv109_0 with hva_ hvn_ hvc_
       rw [hva_] at ge109_0
       rw [hvc_] at ul109_0
       have HL109_0 := Aside0.mk (show Kd.V (Kd.int .i64) 3 _ w.heap.size _ _ ((rd_T25 y106 x22_1).f0) from Kd.V_mk ul109_0 ge109_0)
       clear hva_ hvn_ hvc_ ge109_0 ul109_0
       have hv109_1 := hcc109 1 _ rfl
       rw [add_field _ _ 1 (by omega)] at hv109_1
       replace hv109_1 := Option.some.inj (hv109_1.symm.trans hx109_1)
       injection hv109_1 with hva_ hvn_ hvc_
       rw [hva_] at ge109_1
       rw [hvc_] at ul109_1
       have HL109_1 := Aside0.mk (show Kd.V k38 38 _ w.heap.size _ _ ((rd_T25 y106 x22_1).f1) from Kd.V_mk ul109_1 ge109_1)
       clear hva_ hvn_ hvc_ ge109_1 ul109_1
       clear hcc109 hce109
       have HR109_0 := Aside0.mk hi109_0
       have HC109_0 := Aside0.mk hl109_0
       clear hi109_0 hl109_0
       have HR109_1 := Aside0.mk hi109_1
       have HC109_1 := Aside0.mk hl109_1
       clear hi109_1 hl109_1
       replace p109 := eq_true p109
       replace q109 := eq_true q109
       go_wp2_with (first | ((with_reducible refine gate_dst (N := 9) rfl ?_); (try (refine gate_guard (by rfl) ?_; dsimp only)); refine box_event ?hg (N := 9) ?hd (cs := #[.slice none 0 0, .slice none 0 0]) (t := 25) ?hr ?_; (case hd => rfl); (case hg => rfl); (case hr => first | (go_simp; done) | (go_simp; rfl)); intro Q0i hg w33 hbox hb; replace Q16 := gN Q16 Q0i hg hb; replace Q0d := gV Q0d Q0i hg hb; replace Q0c := gV Q0c Q0i hg hb; replace Q0e := gV Q0e Q0i hg hb; replace Q0f := gV Q0f Q0i hg hb; replace HL109_0 := gV HL109_0 Q0i hg hb; replace HL109_1 := gV HL109_1 Q0i hg hb; replace HR109_0 := Aside0.mk (cB (by repeat (first | (with_reducible exact HR109_0.out) | (with_reducible refine cA ?_ _) | (with_reducible refine cN ?_ _) | (with_reducible refine cD ?_) | exact HR109_0.out)) hb); replace HR109_1 := Aside0.mk (cB (by repeat (first | (with_reducible exact HR109_1.out) | (with_reducible refine cA ?_ _) | (with_reducible refine cN ?_ _) | (with_reducible refine cD ?_) | exact HR109_1.out)) hb); have Q1n := Aside0.mk (hbox); have Q4w := uS HB hg; have Q4h := uS HB hg; replace HB := uH HB hb; have Q2o := uL Q01 hg; have Q3w := uG Q01 hg; replace Q01 := uB Q01 hb; have Q2p := uL Q00 hg; have Q3x := uG Q00 hg; replace Q00 := uB Q00 hb; have Q2q := uL Q02 hg; have Q3y := uG Q02 hg; replace Q02 := uB Q02 hb; have Q2r := uL Q03 hg; have Q3z := uG Q03 hg; replace Q03 := uB Q03 hb; have Q2s := uL Q04 hg; have Q40 := uG Q04 hg; replace Q04 := uB Q04 hb; clear hb hbox hg; have Q73 := Q3w.out; have Q74 := Q2o.out; have Q75 := Q3x.out; have Q76 := Q2p.out; have Q77 := Q3y.out; have Q78 := Q2q.out; have Q79 := Q3z.out; have Q7a := Q2r.out; have Q7b := Q40.out; have Q7c := Q2s.out; have Q51 : w33.cell? ⟨Q0i, 0, none⟩ = some (.slice none 0 0) := (blk_cell Q1n.out 0).trans rfl; have Q52 : w33.cell? ⟨Q0i, 1, none⟩ = some (.slice none 0 0) := (blk_cell Q1n.out 1).trans rfl; have Q53 := blk_frozen Q1n.out 0; have Q54 := blk_frozen Q1n.out 1) | ((with_reducible refine gate_callee (f := 26) rfl ?_); refine goesL_ (some 27) rfl rfl Try.func26 (by kernel_rfl) rfl #[.agg #[.slice A109_0 ((rd_T25 y106 x22_1).f0).length c109_0, .slice A109_1 ((rd_T25 y106 x22_1).f1).length c109_1]] rfl aM ?_; (with_reducible refine (graph_Valid.calls _ _ ((rd_T25 y106 x22_1).f0) _ _ ((rd_T25 y106 x22_1).f1) t111 _ ?side1 ?side2 ?side3 ?side4 A23.out).mono ?_); (case side1 => repeat (first | exact ((Kd.V_reads' (by (with_reducible repeat (first | apply Kd.V_alloc | apply Kd.V_drewN | apply Kd.V_drew)); exact (Kd.V_mono (Kd.V_far (p := ⟨Q0i, 1, none⟩) (Kd.V_far (p := ⟨Q0i, 0, none⟩) (Kd.V_mono HL109_0.out (fun k_ hk => (⟨hk, hk.2⟩ : _ ∧ k_ ≠ Q0i))) (fun _ hk => hk.2) (.slice A109_0 ((rd_T25 y106 x22_1).f0).length c109_0)) (fun _ hk => hk.2) (.slice A109_1 ((rd_T25 y106 x22_1).f1).length c109_1)) (fun _ h_ => h_.1)))).2.2) | (with_reducible refine cA ?_ _) | (with_reducible refine cN ?_ _) | (with_reducible refine cD ?_))); (case side2 => exact HC109_0.out); (case side3 => repeat (first | exact ((Kd.V_reads' (by (with_reducible repeat (first | apply Kd.V_alloc | apply Kd.V_drewN | apply Kd.V_drew)); exact (Kd.V_mono (Kd.V_far (p := ⟨Q0i, 1, none⟩) (Kd.V_far (p := ⟨Q0i, 0, none⟩) (Kd.V_mono HL109_1.out (fun k_ hk => (⟨hk, hk.2⟩ : _ ∧ k_ ≠ Q0i))) (fun _ hk => hk.2) (.slice A109_0 ((rd_T25 y106 x22_1).f0).length c109_0)) (fun _ hk => hk.2) (.slice A109_1 ((rd_T25 y106 x22_1).f1).length c109_1)) (fun _ h_ => h_.1)))).2.2) | (with_reducible refine cA ?_ _) | (with_reducible refine cN ?_ _) | (with_reducible refine cD ?_))); (case side4 => exact HC109_1.out); rintro e w40 ⟨rfl, hb⟩; refine ⟨_, rfl, ?_⟩; replace Q16 := Aside0.mk (Kd.N_below (by (with_reducible repeat (first | apply Kd.N_alloc | apply Kd.N_drewN | apply Kd.N_drew)); exact (Kd.N_mono (Kd.N_far (p := ⟨Q0i, 1, none⟩) (Kd.N_far (p := ⟨Q0i, 0, none⟩) (Kd.N_mono Q16.out (fun k_ hk => (⟨hk, hk.2⟩ : _ ∧ k_ ≠ Q0i))) (fun _ hk => hk.2) (.slice A109_0 ((rd_T25 y106 x22_1).f0).length c109_0)) (fun _ hk => hk.2) (.slice A109_1 ((rd_T25 y106 x22_1).f1).length c109_1)) (fun _ h_ => h_.1))) hb); replace Q0d := Aside0.mk (Kd.V_below (by (with_reducible repeat (first | apply Kd.V_alloc | apply Kd.V_drewN | apply Kd.V_drew)); exact (Kd.V_mono (Kd.V_far (p := ⟨Q0i, 1, none⟩) (Kd.V_far (p := ⟨Q0i, 0, none⟩) (Kd.V_mono Q0d.out (fun k_ hk => (⟨hk, hk.2⟩ : _ ∧ k_ ≠ Q0i))) (fun _ hk => hk.2) (.slice A109_0 ((rd_T25 y106 x22_1).f0).length c109_0)) (fun _ hk => hk.2) (.slice A109_1 ((rd_T25 y106 x22_1).f1).length c109_1)) (fun _ h_ => h_.1))) hb); replace Q0c := Aside0.mk (Kd.V_below (by (with_reducible repeat (first | apply Kd.V_alloc | apply Kd.V_drewN | apply Kd.V_drew)); exact (Kd.V_mono (Kd.V_far (p := ⟨Q0i, 1, none⟩) (Kd.V_far (p := ⟨Q0i, 0, none⟩) (Kd.V_mono Q0c.out (fun k_ hk => (⟨hk, hk.2⟩ : _ ∧ k_ ≠ Q0i))) (fun _ hk => hk.2) (.slice A109_0 ((rd_T25 y106 x22_1).f0).length c109_0)) (fun _ hk => hk.2) (.slice A109_1 ((rd_T25 y106 x22_1).f1).length c109_1)) (fun _ h_ => h_.1))) hb); replace Q0e := Aside0.mk (Kd.V_below (by (with_reducible repeat (first | apply Kd.V_alloc | apply Kd.V_drewN | apply Kd.V_drew)); exact (Kd.V_mono (Kd.V_far (p := ⟨Q0i, 1, none⟩) (Kd.V_far (p := ⟨Q0i, 0, none⟩) (Kd.V_mono Q0e.out (fun k_ hk => (⟨hk, hk.2⟩ : _ ∧ k_ ≠ Q0i))) (fun _ hk => hk.2) (.slice A109_0 ((rd_T25 y106 x22_1).f0).length c109_0)) (fun _ hk => hk.2) (.slice A109_1 ((rd_T25 y106 x22_1).f1).length c109_1)) (fun _ h_ => h_.1))) hb); replace Q0f := Aside0.mk (Kd.V_below (by (with_reducible repeat (first | apply Kd.V_alloc | apply Kd.V_drewN | apply Kd.V_drew)); exact (Kd.V_mono (Kd.V_far (p := ⟨Q0i, 1, none⟩) (Kd.V_far (p := ⟨Q0i, 0, none⟩) (Kd.V_mono Q0f.out (fun k_ hk => (⟨hk, hk.2⟩ : _ ∧ k_ ≠ Q0i))) (fun _ hk => hk.2) (.slice A109_0 ((rd_T25 y106 x22_1).f0).length c109_0)) (fun _ hk => hk.2) (.slice A109_1 ((rd_T25 y106 x22_1).f1).length c109_1)) (fun _ h_ => h_.1))) hb); replace Q01 := Aside0.mk (bB (g := Q0b) (o := .cells #[.slice A0_0 l0_0.length c0_0, .slice A0_1 l0_1.length c0_1] 25 (0, 0)) (by (with_reducible repeat (first | refine bN ?_ _ | refine bD ?_ | refine bA ?_ _)); refine blk_far ?_ Q2o.out _; (with_reducible repeat (first | refine bN ?_ _ | refine bD ?_ | refine bA ?_ _)); refine blk_far ?_ Q2o.out _; (with_reducible repeat (first | refine bN ?_ _ | refine bD ?_ | refine bA ?_ _)); exact Q01.out) hb); replace Q00 := Aside0.mk (bB (g := Q0a) (o := .cells #[.slice A1_0 l1_0.length c1_0, .slice A1_1 l1_1.length c1_1] 25 (0, 0)) (by (with_reducible repeat (first | refine bN ?_ _ | refine bD ?_ | refine bA ?_ _)); refine blk_far ?_ Q2p.out _; (with_reducible repeat (first | refine bN ?_ _ | refine bD ?_ | refine bA ?_ _)); refine blk_far ?_ Q2p.out _; (with_reducible repeat (first | refine bN ?_ _ | refine bD ?_ | refine bA ?_ _)); exact Q00.out) hb); replace Q02 := Aside0.mk (bB (g := Q06) (o := .cells #[.slice none 0 0, .slice none 0 0] 25 (0, 0)) (by (with_reducible repeat (first | refine bN ?_ _ | refine bD ?_ | refine bA ?_ _)); refine blk_far ?_ Q2q.out _; (with_reducible repeat (first | refine bN ?_ _ | refine bD ?_ | refine bA ?_ _)); refine blk_far ?_ Q2q.out _; (with_reducible repeat (first | refine bN ?_ _ | refine bD ?_ | refine bA ?_ _)); exact Q02.out) hb); replace Q03 := Aside0.mk (bB (g := Q07) (o := .cells #[.slice none 0 0, .slice none 0 0] 29 (0, 0)) (by (with_reducible repeat (first | refine bN ?_ _ | refine bD ?_ | refine bA ?_ _)); refine blk_far ?_ Q2r.out _; (with_reducible repeat (first | refine bN ?_ _ | refine bD ?_ | refine bA ?_ _)); refine blk_far ?_ Q2r.out _; (with_reducible repeat (first | refine bN ?_ _ | refine bD ?_ | refine bA ?_ _)); exact Q03.out) hb); replace Q04 := Aside0.mk (bB (g := Q08) (o := .cells #[.slice none 0 0, .slice none 0 0] 29 (0, 0)) (by (with_reducible repeat (first | refine bN ?_ _ | refine bD ?_ | refine bA ?_ _)); refine blk_far ?_ Q2s.out _; (with_reducible repeat (first | refine bN ?_ _ | refine bD ?_ | refine bA ?_ _)); refine blk_far ?_ Q2s.out _; (with_reducible repeat (first | refine bN ?_ _ | refine bD ?_ | refine bA ?_ _)); exact Q04.out) hb); replace HR109_0 := Aside0.mk (cB ((Kd.V_reads' (by (with_reducible repeat (first | apply Kd.V_alloc | apply Kd.V_drewN | apply Kd.V_drew)); exact (Kd.V_mono (Kd.V_far (p := ⟨Q0i, 1, none⟩) (Kd.V_far (p := ⟨Q0i, 0, none⟩) (Kd.V_mono HL109_0.out (fun k_ hk => (⟨hk, hk.2⟩ : _ ∧ k_ ≠ Q0i))) (fun _ hk => hk.2) (.slice A109_0 ((rd_T25 y106 x22_1).f0).length c109_0)) (fun _ hk => hk.2) (.slice A109_1 ((rd_T25 y106 x22_1).f1).length c109_1)) (fun _ h_ => h_.1)))).2.2) hb); replace HL109_0 := Aside0.mk (Kd.V_below (by (with_reducible repeat (first | apply Kd.V_alloc | apply Kd.V_drewN | apply Kd.V_drew)); exact (Kd.V_mono (Kd.V_far (p := ⟨Q0i, 1, none⟩) (Kd.V_far (p := ⟨Q0i, 0, none⟩) (Kd.V_mono HL109_0.out (fun k_ hk => (⟨hk, hk.2⟩ : _ ∧ k_ ≠ Q0i))) (fun _ hk => hk.2) (.slice A109_0 ((rd_T25 y106 x22_1).f0).length c109_0)) (fun _ hk => hk.2) (.slice A109_1 ((rd_T25 y106 x22_1).f1).length c109_1)) (fun _ h_ => h_.1))) hb); replace HR109_1 := Aside0.mk (cB ((Kd.V_reads' (by (with_reducible repeat (first | apply Kd.V_alloc | apply Kd.V_drewN | apply Kd.V_drew)); exact (Kd.V_mono (Kd.V_far (p := ⟨Q0i, 1, none⟩) (Kd.V_far (p := ⟨Q0i, 0, none⟩) (Kd.V_mono HL109_1.out (fun k_ hk => (⟨hk, hk.2⟩ : _ ∧ k_ ≠ Q0i))) (fun _ hk => hk.2) (.slice A109_0 ((rd_T25 y106 x22_1).f0).length c109_0)) (fun _ hk => hk.2) (.slice A109_1 ((rd_T25 y106 x22_1).f1).length c109_1)) (fun _ h_ => h_.1)))).2.2) hb); replace HL109_1 := Aside0.mk (Kd.V_below (by (with_reducible repeat (first | apply Kd.V_alloc | apply Kd.V_drewN | apply Kd.V_drew)); exact (Kd.V_mono (Kd.V_far (p := ⟨Q0i, 1, none⟩) (Kd.V_far (p := ⟨Q0i, 0, none⟩) (Kd.V_mono HL109_1.out (fun k_ hk => (⟨hk, hk.2⟩ : _ ∧ k_ ≠ Q0i))) (fun _ hk => hk.2) (.slice A109_0 ((rd_T25 y106 x22_1).f0).length c109_0)) (fun _ hk => hk.2) (.slice A109_1 ((rd_T25 y106 x22_1).f1).length c109_1)) (fun _ h_ => h_.1))) hb); replace Q1n := Aside0.mk (bB (g := Q0i) (o := .cells #[.slice A109_0 ((rd_T25 y106 x22_1).f0).length c109_0, .slice A109_1 ((rd_T25 y106 x22_1).f1).length c109_1] 25 (0, 0)) (by (with_reducible repeat (first | refine bN ?_ _ | refine bD ?_ | refine bA ?_ _)); refine blk_put (cs := #[.slice A109_0 ((rd_T25 y106 x22_1).f0).length c109_0, .slice none 0 0]) ?_ 1 _ rfl; (with_reducible repeat (first | refine bN ?_ _ | refine bD ?_ | refine bA ?_ _)); refine blk_put (cs := #[.slice none 0 0, .slice none 0 0]) ?_ 0 _ rfl; (with_reducible repeat (first | refine bN ?_ _ | refine bD ?_ | refine bA ?_ _)); exact Q1n.out) hb); replace HB := uH HB hb; (try clear hb); (try clear hb2); (try clear hk); (try clear hi); have Q7d := Q31.out; have Q7e := Q30.out; have Q7f := Q26.out; have Q7g := Q25.out; have Q7h := Q1o.out; have Q7i := Q1p.out; have Q7j := Q1q.out; have Q7k := Q1r.out; have Q55 : w40.cell? ⟨Q06, 0, none⟩ = some (.slice none 0 0) := (blk_cell Q02.out 0).trans rfl; have Q56 : w40.cell? ⟨Q06, 1, none⟩ = some (.slice none 0 0) := (blk_cell Q02.out 1).trans rfl; have Q57 := blk_frozen Q02.out 0; have Q58 := blk_frozen Q02.out 1; have Q7l := Q33.out; have Q7m := Q32.out; have Q7n := Q28.out; have Q7o := Q27.out; have Q7p := Q1s.out; have Q7q := Q1t.out; have Q59 : w40.cell? ⟨Q07, 0, none⟩ = some (.slice none 0 0) := (blk_cell Q03.out 0).trans rfl; have Q5a : w40.cell? ⟨Q07, 1, none⟩ = some (.slice none 0 0) := (blk_cell Q03.out 1).trans rfl; have Q5b := blk_frozen Q03.out 0; have Q5c := blk_frozen Q03.out 1; have Q7r := Q35.out; have Q7s := Q34.out; have Q7t := Q2a.out; have Q7u := Q29.out; have Q5d : w40.cell? ⟨Q08, 0, none⟩ = some (.slice none 0 0) := (blk_cell Q04.out 0).trans rfl; have Q5e : w40.cell? ⟨Q08, 1, none⟩ = some (.slice none 0 0) := (blk_cell Q04.out 1).trans rfl; have Q5f := blk_frozen Q04.out 0; have Q5g := blk_frozen Q04.out 1))
       refine bodyPost_ret (results_list (rs := [.cell 4 25, .cell 5 29, .cell 6 29, .tmp 7]) rfl (by simp) (.cell Q06 25 #[.slice none 0 0, .slice none 0 0] (0, 0) _ rfl (by (with_reducible repeat (first | refine bN ?_ _ | refine bD ?_ | refine bA ?_ _)); refine blk_far ?_ Q1q.out _; (with_reducible repeat (first | refine bN ?_ _ | refine bD ?_ | refine bA ?_ _)); refine blk_far ?_ Q1q.out _; (with_reducible repeat (first | refine bN ?_ _ | refine bD ?_ | refine bA ?_ _)); refine blk_far ?_ Q1o.out _; (with_reducible repeat (first | refine bN ?_ _ | refine bD ?_ | refine bA ?_ _)); refine blk_far ?_ Q1o.out _; (with_reducible repeat (first | refine bN ?_ _ | refine bD ?_ | refine bA ?_ _)); refine blk_put (cs := #[.slice none 0 0, .slice none 0 0]) ?_ 1 _ rfl; (with_reducible repeat (first | refine bN ?_ _ | refine bD ?_ | refine bA ?_ _)); refine blk_put (cs := #[.slice none 0 0, .slice none 0 0]) ?_ 0 _ rfl; (with_reducible repeat (first | refine bN ?_ _ | refine bD ?_ | refine bA ?_ _)); exact Q02.out) Try.underlying25 rfl (by kernel_rfl) (.cell Q07 29 #[.slice none 0 0, .slice none 0 0] (0, 0) _ rfl (by (with_reducible repeat (first | refine bN ?_ _ | refine bD ?_ | refine bA ?_ _)); refine blk_far ?_ Q1s.out _; (with_reducible repeat (first | refine bN ?_ _ | refine bD ?_ | refine bA ?_ _)); refine blk_far ?_ Q1s.out _; (with_reducible repeat (first | refine bN ?_ _ | refine bD ?_ | refine bA ?_ _)); refine blk_put (cs := #[.slice none 0 0, .slice none 0 0]) ?_ 1 _ rfl; (with_reducible repeat (first | refine bN ?_ _ | refine bD ?_ | refine bA ?_ _)); refine blk_put (cs := #[.slice none 0 0, .slice none 0 0]) ?_ 0 _ rfl; (with_reducible repeat (first | refine bN ?_ _ | refine bD ?_ | refine bA ?_ _)); refine blk_far ?_ Q1p.out _; (with_reducible repeat (first | refine bN ?_ _ | refine bD ?_ | refine bA ?_ _)); refine blk_far ?_ Q1p.out _; (with_reducible repeat (first | refine bN ?_ _ | refine bD ?_ | refine bA ?_ _)); exact Q03.out) Try.underlying29 rfl (by kernel_rfl) (.cell Q08 29 #[.slice none 0 0, .slice none 0 0] (0, 0) _ rfl (by (with_reducible repeat (first | refine bN ?_ _ | refine bD ?_ | refine bA ?_ _)); refine blk_put (cs := #[.slice none 0 0, .slice none 0 0]) ?_ 1 _ rfl; (with_reducible repeat (first | refine bN ?_ _ | refine bD ?_ | refine bA ?_ _)); refine blk_put (cs := #[.slice none 0 0, .slice none 0 0]) ?_ 0 _ rfl; (with_reducible repeat (first | refine bN ?_ _ | refine bD ?_ | refine bA ?_ _)); refine blk_far ?_ Q1t.out _; (with_reducible repeat (first | refine bN ?_ _ | refine bD ?_ | refine bA ?_ _)); refine blk_far ?_ Q1t.out _; (with_reducible repeat (first | refine bN ?_ _ | refine bD ?_ | refine bA ?_ _)); refine blk_far ?_ Q1r.out _; (with_reducible repeat (first | refine bN ?_ _ | refine bD ?_ | refine bA ?_ _)); refine blk_far ?_ Q1r.out _; (with_reducible repeat (first | refine bN ?_ _ | refine bD ?_ | refine bA ?_ _)); exact Q04.out) Try.underlying29 rfl (by kernel_rfl) (.tmp .nil))))) rfl ?_
       exact ⟨_, _, _, _, _, _, by first | rfl | (simp [errW_none, errW_some] <;> rfl) | (simp [*, errW_none, errW_some] <;> rfl), by first | exact Kd.R_nil _ _ _ _ _ | exact Kd.N_nil _ _ _ _ _ | exact Kd.V_nil _ _ _ _ _ | exact Kd.Q_nil _ _ _ _ _ | exact Kd.S_nil _ _ _ _ _, by first | exact Kd.R_nil _ _ _ _ _ | exact Kd.N_nil _ _ _ _ _ | exact Kd.V_nil _ _ _ _ _ | exact Kd.Q_nil _ _ _ _ _ | exact Kd.S_nil _ _ _ _ _, by first | exact Kd.R_nil _ _ _ _ _ | exact Kd.N_nil _ _ _ _ _ | exact Kd.V_nil _ _ _ _ _ | exact Kd.Q_nil _ _ _ _ _ | exact Kd.S_nil _ _ _ _ _, by first | exact Kd.R_nil _ _ _ _ _ | exact Kd.N_nil _ _ _ _ _ | exact Kd.V_nil _ _ _ _ _ | exact Kd.Q_nil _ _ _ _ _ | exact Kd.S_nil _ _ _ _ _, by first | exact Kd.R_nil _ _ _ _ _ | exact Kd.N_nil _ _ _ _ _ | exact Kd.V_nil _ _ _ _ _ | exact Kd.Q_nil _ _ _ _ _ | exact Kd.S_nil _ _ _ _ _, by first | exact Kd.R_nil _ _ _ _ _ | exact Kd.N_nil _ _ _ _ _ | exact Kd.V_nil _ _ _ _ _ | exact Kd.Q_nil _ _ _ _ _ | exact Kd.S_nil _ _ _ _ _, by repeat (first | (with_reducible first | exact HB.out | apply wA | apply wN | apply wD | refine below_set ?_ Q3r.out | refine below_set ?_ Q3s.out | refine below_set ?_ Q3t.out | refine below_set ?_ Q3u.out | refine below_set ?_ Q3v.out | refine below_set ?_ Q4h.out) | exact HB.out)⟩
     ·rw [if_neg c22] at H
      exact absurd H (by simp)
    ·rw [if_neg c21] at H
     exact absurd H (by simp)
   ·rw [if_neg c20] at H
    have c20b0 : decide (x22_1 < (y106.length : Int)) = false := decide_eq_false c20
    clear c20
    have HC53 := Aside0.mk H
    clear H
    try go_wp2
    replace Q16 := Aside0.mk (Kd.N_drew Q16.out)
    replace Q0d := Aside0.mk (Kd.V_drew Q0d.out)
    replace Q0c := Aside0.mk (Kd.V_drew Q0c.out)
    replace Q0e := Aside0.mk (Kd.V_drew Q0e.out)
    replace Q0f := Aside0.mk (Kd.V_drew Q0f.out)
    replace Q01 := Aside0.mk (bD Q01.out)
    replace Q00 := Aside0.mk (bD Q00.out)
    replace Q02 := Aside0.mk (bD Q02.out)
    replace Q03 := Aside0.mk (bD Q03.out)
    replace Q04 := Aside0.mk (bD Q04.out)
    replace HB := Aside0.mk (wD HB.out)
    refine start_ (n := 8) (S := fun w' => w'.cell? ⟨Q0b, 0, none⟩ = some (.slice A0_0 l0_0.length c0_0) ∧ w'.cell? ⟨Q0b, 1, none⟩ = some (.slice A0_1 l0_1.length c0_1)) (ds := []) #[false, false, false, false, false, false, false, false] (by kernel_rfl) rfl rfl ⟨(blk_cell Q01.out 0).trans rfl, (blk_cell Q01.out 1).trans rfl⟩ (fun hHeld => ?_); refine with_tabW graph_Union.tab8 graph_Union.bits8 (fun HT_ HW_ => ?_)
    generalize wr.drew = w54 at Q16 Q0d Q0c Q0e Q0f Q01 Q00 Q02 Q03 Q04 HB hHeld ⊢
    refine pure_ (i := 0) (N := some 35) (v := ?_) (a' := ?_) #[true, false, false, false, false, false, false, false] rfl rfl (any_of HT_.out (by kernel_rfl)) (fun _ _ _ h => h) (Or.inl ⟨by rfl, ?_⟩) ?_ ?_
    rotate_left
    ·intro w'
     go_simp
     with_reducible rfl
    rotate_left
    ·simp only [Act.put, List.setIfInBounds_toArray, List.set_cons_zero, List.set_cons_succ, i64_w, i32_w]
     rfl
    refine pure_ (i := 3) (N := some 38) (v := ?_) (a' := ?_) #[true, false, false, true, false, false, false, false] rfl rfl (any_of HT_.out (by kernel_rfl)) (fun _ _ _ h => h) (Or.inl ⟨by rfl, ?_⟩) ?_ ?_
    rotate_left
    ·intro w'
     go_simp
     with_reducible rfl
    rotate_left
    ·simp only [Act.put, List.setIfInBounds_toArray, List.set_cons_zero, List.set_cons_succ, i64_w, i32_w]
     rfl
    refine take_ (i := 1) (N := some 36) (v := ?_) (a' := ?_) #[true, true, false, true, false, false, false, false] rfl rfl (take_ofW HT_.out HW_.out (by kernel_rfl)) (fun _ _ _ h => h) (Or.inl ⟨by rfl, ?_⟩) hHeld ?_ ?_
    rotate_left
    ·rintro w' ⟨s0, s1⟩
     go_simp
     with_reducible rfl
    rotate_left
    ·simp only [Act.put, List.setIfInBounds_toArray, List.set_cons_zero, List.set_cons_succ, i64_w, i32_w]
     rfl
    refine pure_ (i := 2) (N := some 37) (v := ?_) (a' := ?_) #[true, true, true, true, false, false, false, false] rfl rfl (any_of HT_.out (by kernel_rfl)) (fun _ _ _ h => h) (Or.inl ⟨by rfl, ?_⟩) ?_ ?_
    rotate_left
    ·intro w'
     go_simp
     with_reducible rfl
    rotate_left
    ·simp only [Act.put, List.setIfInBounds_toArray, List.set_cons_zero, List.set_cons_succ, i64_w, i32_w]
     rfl
    refine pure_ (i := 6) (N := some 11) (v := ?_) (a' := ?_) #[true, true, true, true, false, false, true, false] rfl rfl (any_of HT_.out (by kernel_rfl)) (fun _ _ _ h => h) (Or.inl ⟨by rfl, ?_⟩) ?_ ?_
    rotate_left
    ·intro w'
     go_simp
     with_reducible rfl
    rotate_left
    ·simp only [Act.put, List.setIfInBounds_toArray, List.set_cons_zero, List.set_cons_succ, i64_w, i32_w]
     rfl
    refine take_ (i := 4) (N := some 39) (v := ?_) (a' := ?_) #[true, true, true, true, true, false, true, false] rfl rfl (take_ofW HT_.out HW_.out (by kernel_rfl)) (fun _ _ _ h => h) (Or.inl ⟨by rfl, ?_⟩) hHeld ?_ ?_
    rotate_left
    ·rintro w' ⟨s0, s1⟩
     go_simp
     with_reducible rfl
    rotate_left
    ·simp only [Act.put, List.setIfInBounds_toArray, List.set_cons_zero, List.set_cons_succ, i64_w, i32_w]
     rfl
    refine pure_ (i := 5) (N := some 40) (v := ?_) (a' := ?_) #[true, true, true, true, true, true, true, false] rfl rfl (any_of HT_.out (by kernel_rfl)) (fun _ _ _ h => h) (Or.inl ⟨by rfl, ?_⟩) ?_ ?_
    rotate_left
    ·intro w'
     go_simp
     with_reducible rfl
    rotate_left
    ·simp only [Act.put, List.setIfInBounds_toArray, List.set_cons_zero, List.set_cons_succ, i64_w, i32_w]
     rfl
    refine pure_ (i := 7) (N := some 12) (v := ?_) (a' := ?_) #[true, true, true, true, true, true, true, true] rfl rfl (any_of HT_.out (by kernel_rfl)) (fun _ _ _ h => h) (Or.inl ⟨by rfl, ?_⟩) ?_ ?_
    rotate_left
    ·intro w'
     go_simp
     with_reducible rfl
    rotate_left
    ·simp only [Act.put, List.setIfInBounds_toArray, List.set_cons_zero, List.set_cons_succ, i64_w, i32_w]
     rfl
    refine done_ (done_of HT_.out (by kernel_rfl)) ?_
    go_upto_region 9 with (fail)
    go_cut [54] (fun v54 wc => ∃ (kq : Nat) (x54_52 : Bool), v54 = .bool x54_52 ∧ Aside0 (graph_Union.j1 kq (l0_0.length : Int) (l0_1.length : Int) x54_52 l0_0 l0_1 l1_0 l1_1 = some (r1, r2, r3, r4, r5, r6, r7)) ∧ Aside0 (kq ≤ k1) ∧ Aside0 (Kd.V (Kd.int .i64) 3 wc w.heap.size (fun k_ => ((P0_0_ k_ ∨ P0_1_ k_ ∨ P1_0_ k_ ∨ P1_1_ k_) ∨ w.heap.size ≤ k_) ∧ k_ ≠ Q0b ∧ k_ ≠ Q0a ∧ k_ ≠ Q06 ∧ k_ ≠ Q07 ∧ k_ ≠ Q08) (.slice A0_0 l0_0.length c0_0) l0_0) ∧ Aside0 (Kd.V k38 38 wc w.heap.size (fun k_ => ((P0_0_ k_ ∨ P0_1_ k_ ∨ P1_0_ k_ ∨ P1_1_ k_) ∨ w.heap.size ≤ k_) ∧ k_ ≠ Q0b ∧ k_ ≠ Q0a ∧ k_ ≠ Q06 ∧ k_ ≠ Q07 ∧ k_ ≠ Q08) (.slice A0_1 l0_1.length c0_1) l0_1) ∧ Aside0 (Kd.V (Kd.int .i64) 3 wc w.heap.size (fun k_ => ((P0_0_ k_ ∨ P0_1_ k_ ∨ P1_0_ k_ ∨ P1_1_ k_) ∨ w.heap.size ≤ k_) ∧ k_ ≠ Q0b ∧ k_ ≠ Q0a ∧ k_ ≠ Q06 ∧ k_ ≠ Q07 ∧ k_ ≠ Q08) (.slice A1_0 l1_0.length c1_0) l1_0) ∧ Aside0 (Kd.V k38 38 wc w.heap.size (fun k_ => ((P0_0_ k_ ∨ P0_1_ k_ ∨ P1_0_ k_ ∨ P1_1_ k_) ∨ w.heap.size ≤ k_) ∧ k_ ≠ Q0b ∧ k_ ≠ Q0a ∧ k_ ≠ Q06 ∧ k_ ≠ Q07 ∧ k_ ≠ Q08) (.slice A1_1 l1_1.length c1_1) l1_1) ∧ Aside0 (wc.heap[Q0b]? = some (.cells #[(.slice A0_0 l0_0.length c0_0), (.slice A0_1 l0_1.length c0_1)] 25 (0, 0))) ∧ Aside0 (wc.heap[Q0a]? = some (.cells #[(.slice A1_0 l1_0.length c1_0), (.slice A1_1 l1_1.length c1_1)] 25 (0, 0))) ∧ Aside0 (wc.heap[Q06]? = some (.cells #[(.slice none 0 0), (.slice none 0 0)] 25 (0, 0))) ∧ Aside0 (wc.heap[Q07]? = some (.cells #[(.slice none 0 0), (.slice none 0 0)] 29 (0, 0))) ∧ Aside0 (wc.heap[Q08]? = some (.cells #[(.slice none 0 0), (.slice none 0 0)] 29 (0, 0))) ∧ Aside0 (Below w.heap.size w wc))
    case first =>
     have H := HC53.out
     clear HC53
     by_cases c55 : (wrap64 ((l0_0.length : Int) + (l1_0.length : Int))) > 40
     ·rw [if_pos c55] at H
      have c55b0 : decide (40 < (wrap64 ((l0_0.length : Int) + (l1_0.length : Int)))) = true := decide_eq_true c55
      clear c55
      (first | rw [c55b0] | (simp only [i64_w, i32_w]; rw [c55b0]) | skip)
      have H' := Aside0.mk H
      clear H
      have Q7v := Q3k.out
      have Q7w := Q3j.out
      have Q7x := Q25.out
      have Q7y := Q26.out
      have Q7z := Q27.out
      have Q80 := Q28.out
      have Q81 := Q29.out
      have Q82 := Q2a.out
      have Q5h : w54.cell? ⟨Q0a, 0, none⟩ = some (.slice A1_0 l1_0.length c1_0) := (blk_cell Q00.out 0).trans rfl
      have Q5i : w54.cell? ⟨Q0a, 1, none⟩ = some (.slice A1_1 l1_1.length c1_1) := (blk_cell Q00.out 1).trans rfl
      have Q5j := blk_frozen Q00.out 0
      have Q5k := blk_frozen Q00.out 1
      go_wp2
      go_meet
      case rel => exact ⟨_, (true), rS, H', ⟨by have := HK1.out; first | omega | exact Nat.le_refl _⟩, ⟨by (with_reducible repeat (first | apply Kd.V_alloc | apply Kd.V_drewN | apply Kd.V_drew)); exact Kd.V_mono Q0d.out (fun _ hk => ⟨hk.1, ⟨hk.2.2.1, ⟨hk.2.2.2.1, ⟨hk.2.2.2.2.1, ⟨hk.2.2.2.2.2.1, hk.2.2.2.2.2.2⟩⟩⟩⟩⟩)⟩, ⟨by (with_reducible repeat (first | apply Kd.V_alloc | apply Kd.V_drewN | apply Kd.V_drew)); exact Kd.V_mono Q0c.out (fun _ hk => ⟨hk.1, ⟨hk.2.2.1, ⟨hk.2.2.2.1, ⟨hk.2.2.2.2.1, ⟨hk.2.2.2.2.2.1, hk.2.2.2.2.2.2⟩⟩⟩⟩⟩)⟩, ⟨by (with_reducible repeat (first | apply Kd.V_alloc | apply Kd.V_drewN | apply Kd.V_drew)); exact Kd.V_mono Q0e.out (fun _ hk => ⟨hk.1, ⟨hk.2.2.1, ⟨hk.2.2.2.1, ⟨hk.2.2.2.2.1, ⟨hk.2.2.2.2.2.1, hk.2.2.2.2.2.2⟩⟩⟩⟩⟩)⟩, ⟨by (with_reducible repeat (first | apply Kd.V_alloc | apply Kd.V_drewN | apply Kd.V_drew)); exact Kd.V_mono Q0f.out (fun _ hk => ⟨hk.1, ⟨hk.2.2.1, ⟨hk.2.2.2.1, ⟨hk.2.2.2.2.1, ⟨hk.2.2.2.2.2.1, hk.2.2.2.2.2.2⟩⟩⟩⟩⟩)⟩, ⟨pB Q01⟩, ⟨pB Q00⟩, ⟨pB Q02⟩, ⟨pB Q03⟩, ⟨pB Q04⟩, ⟨pH HB⟩⟩
     ·rw [if_neg c55] at H
      have c55b0 : decide (40 < (wrap64 ((l0_0.length : Int) + (l1_0.length : Int)))) = false := decide_eq_false c55
      clear c55
      (first | rw [c55b0] | (simp only [i64_w, i32_w]; rw [c55b0]) | skip)
      have H' := Aside0.mk H
      clear H
      have Q83 := Q3k.out
      have Q84 := Q3j.out
      have Q85 := Q25.out
      have Q86 := Q26.out
      have Q87 := Q27.out
      have Q88 := Q28.out
      have Q89 := Q29.out
      have Q8a := Q2a.out
      have Q5l : w54.cell? ⟨Q0a, 0, none⟩ = some (.slice A1_0 l1_0.length c1_0) := (blk_cell Q00.out 0).trans rfl
      have Q5m : w54.cell? ⟨Q0a, 1, none⟩ = some (.slice A1_1 l1_1.length c1_1) := (blk_cell Q00.out 1).trans rfl
      have Q5n := blk_frozen Q00.out 0
      have Q5o := blk_frozen Q00.out 1
      go_wp2
      go_meet
      case rel => exact ⟨_, (decide ((wrap64 ((l0_1.length : Int) + (l1_1.length : Int))) > 80)), rS, H', ⟨by have := HK1.out; first | omega | exact Nat.le_refl _⟩, ⟨by (with_reducible repeat (first | apply Kd.V_alloc | apply Kd.V_drewN | apply Kd.V_drew)); exact Kd.V_mono Q0d.out (fun _ hk => ⟨hk.1, ⟨hk.2.2.1, ⟨hk.2.2.2.1, ⟨hk.2.2.2.2.1, ⟨hk.2.2.2.2.2.1, hk.2.2.2.2.2.2⟩⟩⟩⟩⟩)⟩, ⟨by (with_reducible repeat (first | apply Kd.V_alloc | apply Kd.V_drewN | apply Kd.V_drew)); exact Kd.V_mono Q0c.out (fun _ hk => ⟨hk.1, ⟨hk.2.2.1, ⟨hk.2.2.2.1, ⟨hk.2.2.2.2.1, ⟨hk.2.2.2.2.2.1, hk.2.2.2.2.2.2⟩⟩⟩⟩⟩)⟩, ⟨by (with_reducible repeat (first | apply Kd.V_alloc | apply Kd.V_drewN | apply Kd.V_drew)); exact Kd.V_mono Q0e.out (fun _ hk => ⟨hk.1, ⟨hk.2.2.1, ⟨hk.2.2.2.1, ⟨hk.2.2.2.2.1, ⟨hk.2.2.2.2.2.1, hk.2.2.2.2.2.2⟩⟩⟩⟩⟩)⟩, ⟨by (with_reducible repeat (first | apply Kd.V_alloc | apply Kd.V_drewN | apply Kd.V_drew)); exact Kd.V_mono Q0f.out (fun _ hk => ⟨hk.1, ⟨hk.2.2.1, ⟨hk.2.2.2.1, ⟨hk.2.2.2.2.1, ⟨hk.2.2.2.2.2.1, hk.2.2.2.2.2.2⟩⟩⟩⟩⟩)⟩, ⟨pB Q01⟩, ⟨pB Q00⟩, ⟨pB Q02⟩, ⟨pB Q03⟩, ⟨pB Q04⟩, ⟨pH HB⟩⟩
    case rest =>
     clear HC53
     try clear c1; try clear c2; try clear p2; try clear c3; try clear p3; try clear q3; try clear hx3; try clear c4; try clear c5; try clear c6; try clear p6; try clear c8; try clear c9; try clear c10; try clear c11; try clear c13; try clear c14; try clear c15; try clear c20; try clear c20b0; try clear c21; try clear c21b0; try clear c22; try clear c22b0; try clear c24; try clear c24b0; try clear c24b1; try clear c26; try clear c27; try clear c28; try clear c29; try clear c30; try clear c31; try clear p31; try clear q31; try clear hx31; try clear c34; try clear c35; try clear c36; try clear c37; try clear c38; try clear c41; try clear c42; try clear c43; try clear c44; try clear c46; try clear c47; try clear c48; try clear c50; try clear c51; try clear c55; try clear c55b0; try clear c56; try clear c57; try clear c58; try clear c59; try clear c61; try clear c62; try clear c63; try clear c64; try clear p64; try clear Q48; try clear Q49; try clear Q4c; try clear Q4d; try clear Q4x; try clear Q4y; try clear Q51; try clear Q52; try clear Q55; try clear Q56; try clear Q59; try clear Q5a; try clear Q5d; try clear Q5e; try clear Q5h; try clear Q5i; try clear Q5l; try clear Q5m; try clear Q4a; try clear Q4b; try clear Q4e; try clear Q4f; try clear Q4z; try clear Q50; try clear Q53; try clear Q54; try clear Q57; try clear Q58; try clear Q5b; try clear Q5c; try clear Q5f; try clear Q5g; try clear Q5j; try clear Q5k; try clear Q5n; try clear Q5o; try clear hx109_0; try clear hx109_1; try clear p2; try clear p109; try clear q109
     obtain ⟨kq, x54_52, rfl, HA, HJ52, Q0d, Q0c, Q0e, Q0f, Q01, Q00, Q02, Q03, Q04, HB⟩ := hcut
     cases kq with
     | zero => exact absurd HA.out (by simp [graph_Union.j1])
     | succ kj52 =>
      have H := HA.out
      clear HA
      simp only [graph_Union.j1] at H
      by_cases c66 : x54_52 = true
      ·subst c66
       have H1 : (some (([] : List Int), ([] : List (S38)), ([] : List Int), ([] : List Int), ([] : List Int), ([] : List Int), 3)) = some (r1, r2, r3, r4, r5, r6, r7) := by rw [if_pos rfl] at H; exact H
       clear H
       have H := H1
       clear H1
       simp only [Option.some.injEq, Prod.mk.injEq] at H
       obtain ⟨rfl, rfl, rfl, rfl, rfl, rfl, rfl⟩ := H
       have Q8b := Q31.out
       have Q8c := Q30.out
       have Q8d := Q26.out
       have Q8e := Q25.out
       have Q8f := Q1o.out
       have Q8g := Q1p.out
       have Q8h := Q1q.out
       have Q8i := Q1r.out
       have Q8j : wc.cell? ⟨Q06, 0, none⟩ = some (.slice none 0 0) := (blk_cell Q02.out 0).trans rfl
       have Q8k : wc.cell? ⟨Q06, 1, none⟩ = some (.slice none 0 0) := (blk_cell Q02.out 1).trans rfl
       have Q8l := blk_frozen Q02.out 0
       have Q8m := blk_frozen Q02.out 1
       have Q8n := Q33.out
       have Q8o := Q32.out
       have Q8p := Q28.out
       have Q8q := Q27.out
       have Q8r := Q1s.out
       have Q8s := Q1t.out
       have Q8t : wc.cell? ⟨Q07, 0, none⟩ = some (.slice none 0 0) := (blk_cell Q03.out 0).trans rfl
       have Q8u : wc.cell? ⟨Q07, 1, none⟩ = some (.slice none 0 0) := (blk_cell Q03.out 1).trans rfl
       have Q8v := blk_frozen Q03.out 0
       have Q8w := blk_frozen Q03.out 1
       have Q8x := Q35.out
       have Q8y := Q34.out
       have Q8z := Q2a.out
       have Q90 := Q29.out
       have Q91 : wc.cell? ⟨Q08, 0, none⟩ = some (.slice none 0 0) := (blk_cell Q04.out 0).trans rfl
       have Q92 : wc.cell? ⟨Q08, 1, none⟩ = some (.slice none 0 0) := (blk_cell Q04.out 1).trans rfl
       have Q93 := blk_frozen Q04.out 0
       have Q94 := blk_frozen Q04.out 1
       go_wp2
       refine bodyPost_ret (results_list (rs := [.cell 4 25, .cell 5 29, .cell 6 29, .tmp 7]) rfl (by simp) (.cell Q06 25 #[.slice none 0 0, .slice none 0 0] (0, 0) _ rfl (by (with_reducible repeat (first | refine bN ?_ _ | refine bD ?_ | refine bA ?_ _)); refine blk_far ?_ Q1q.out _; (with_reducible repeat (first | refine bN ?_ _ | refine bD ?_ | refine bA ?_ _)); refine blk_far ?_ Q1q.out _; (with_reducible repeat (first | refine bN ?_ _ | refine bD ?_ | refine bA ?_ _)); refine blk_far ?_ Q1o.out _; (with_reducible repeat (first | refine bN ?_ _ | refine bD ?_ | refine bA ?_ _)); refine blk_far ?_ Q1o.out _; (with_reducible repeat (first | refine bN ?_ _ | refine bD ?_ | refine bA ?_ _)); refine blk_put (cs := #[.slice none 0 0, .slice none 0 0]) ?_ 1 _ rfl; (with_reducible repeat (first | refine bN ?_ _ | refine bD ?_ | refine bA ?_ _)); refine blk_put (cs := #[.slice none 0 0, .slice none 0 0]) ?_ 0 _ rfl; (with_reducible repeat (first | refine bN ?_ _ | refine bD ?_ | refine bA ?_ _)); exact Q02.out) Try.underlying25 rfl (by kernel_rfl) (.cell Q07 29 #[.slice none 0 0, .slice none 0 0] (0, 0) _ rfl (by (with_reducible repeat (first | refine bN ?_ _ | refine bD ?_ | refine bA ?_ _)); refine blk_far ?_ Q1s.out _; (with_reducible repeat (first | refine bN ?_ _ | refine bD ?_ | refine bA ?_ _)); refine blk_far ?_ Q1s.out _; (with_reducible repeat (first | refine bN ?_ _ | refine bD ?_ | refine bA ?_ _)); refine blk_put (cs := #[.slice none 0 0, .slice none 0 0]) ?_ 1 _ rfl; (with_reducible repeat (first | refine bN ?_ _ | refine bD ?_ | refine bA ?_ _)); refine blk_put (cs := #[.slice none 0 0, .slice none 0 0]) ?_ 0 _ rfl; (with_reducible repeat (first | refine bN ?_ _ | refine bD ?_ | refine bA ?_ _)); refine blk_far ?_ Q1p.out _; (with_reducible repeat (first | refine bN ?_ _ | refine bD ?_ | refine bA ?_ _)); refine blk_far ?_ Q1p.out _; (with_reducible repeat (first | refine bN ?_ _ | refine bD ?_ | refine bA ?_ _)); exact Q03.out) Try.underlying29 rfl (by kernel_rfl) (.cell Q08 29 #[.slice none 0 0, .slice none 0 0] (0, 0) _ rfl (by (with_reducible repeat (first | refine bN ?_ _ | refine bD ?_ | refine bA ?_ _)); refine blk_put (cs := #[.slice none 0 0, .slice none 0 0]) ?_ 1 _ rfl; (with_reducible repeat (first | refine bN ?_ _ | refine bD ?_ | refine bA ?_ _)); refine blk_put (cs := #[.slice none 0 0, .slice none 0 0]) ?_ 0 _ rfl; (with_reducible repeat (first | refine bN ?_ _ | refine bD ?_ | refine bA ?_ _)); refine blk_far ?_ Q1t.out _; (with_reducible repeat (first | refine bN ?_ _ | refine bD ?_ | refine bA ?_ _)); refine blk_far ?_ Q1t.out _; (with_reducible repeat (first | refine bN ?_ _ | refine bD ?_ | refine bA ?_ _)); refine blk_far ?_ Q1r.out _; (with_reducible repeat (first | refine bN ?_ _ | refine bD ?_ | refine bA ?_ _)); refine blk_far ?_ Q1r.out _; (with_reducible repeat (first | refine bN ?_ _ | refine bD ?_ | refine bA ?_ _)); exact Q04.out) Try.underlying29 rfl (by kernel_rfl) (.tmp .nil))))) rfl ?_
       exact ⟨_, _, _, _, _, _, by first | rfl | (simp [errW_none, errW_some] <;> rfl) | (simp [*, errW_none, errW_some] <;> rfl), by first | exact Kd.R_nil _ _ _ _ _ | exact Kd.N_nil _ _ _ _ _ | exact Kd.V_nil _ _ _ _ _ | exact Kd.Q_nil _ _ _ _ _ | exact Kd.S_nil _ _ _ _ _, by first | exact Kd.R_nil _ _ _ _ _ | exact Kd.N_nil _ _ _ _ _ | exact Kd.V_nil _ _ _ _ _ | exact Kd.Q_nil _ _ _ _ _ | exact Kd.S_nil _ _ _ _ _, by first | exact Kd.R_nil _ _ _ _ _ | exact Kd.N_nil _ _ _ _ _ | exact Kd.V_nil _ _ _ _ _ | exact Kd.Q_nil _ _ _ _ _ | exact Kd.S_nil _ _ _ _ _, by first | exact Kd.R_nil _ _ _ _ _ | exact Kd.N_nil _ _ _ _ _ | exact Kd.V_nil _ _ _ _ _ | exact Kd.Q_nil _ _ _ _ _ | exact Kd.S_nil _ _ _ _ _, by first | exact Kd.R_nil _ _ _ _ _ | exact Kd.N_nil _ _ _ _ _ | exact Kd.V_nil _ _ _ _ _ | exact Kd.Q_nil _ _ _ _ _ | exact Kd.S_nil _ _ _ _ _, by first | exact Kd.R_nil _ _ _ _ _ | exact Kd.N_nil _ _ _ _ _ | exact Kd.V_nil _ _ _ _ _ | exact Kd.Q_nil _ _ _ _ _ | exact Kd.S_nil _ _ _ _ _, by repeat (first | (with_reducible first | exact HB.out | apply wA | apply wN | apply wD | refine below_set ?_ Q3r.out | refine below_set ?_ Q3s.out | refine below_set ?_ Q3t.out | refine below_set ?_ Q3u.out | refine below_set ?_ Q3v.out) | exact HB.out)⟩
      ·replace c66 := Bool.eq_false_iff.mpr c66
       subst c66
       have H1 : ((slices_Concat_int_int.f (([l0_0, l1_0] : List (List Int)))).bind fun t115 => ((api_Edge_46.f l0_1).bind fun t118 => (graph_Union.l1 kj52 (l0_0.length : Int) (l0_1.length : Int) l1_1 (l1_1.length : Int) 0 l1_0 l1_1 t115 t118))) = some (r1, r2, r3, r4, r5, r6, r7) := by rw [if_neg (show ¬ (false = true) by decide)] at H; exact H
       clear H
       have H := H1
       clear H1
       obtain ⟨y112, hy112⟩ : ∃ y_ : List (List Int), y_ = (([l0_0, l1_0] : List (List Int))) := ⟨_, rfl⟩
       replace H : ((slices_Concat_int_int.f y112).bind fun t115 => ((api_Edge_46.f l0_1).bind fun t118 => (graph_Union.l1 kj52 (l0_0.length : Int) (l0_1.length : Int) l1_1 (l1_1.length : Int) 0 l1_0 l1_1 t115 t118))) = some (r1, r2, r3, r4, r5, r6, r7) := by first | (rw [hy112]; with_reducible exact H) | (have H2_ := (Option.bind_some _ _).symm.trans H; rw [hy112]; with_reducible exact H2_) | (have H2_ := (Option.bind_some _ _).symm.trans H; with_reducible exact H2_) | with_reducible exact H | (rw [hy112]; exact H) | exact H
       have Ny112 := Aside0.mk hy112
       clear hy112
       replace H := Option.bind_eq_some_iff.mp H
       obtain ⟨t115, A790, H⟩ := H
       replace H : ((api_Edge_46.f l0_1).bind fun t118 => (graph_Union.l1 kj52 (l0_0.length : Int) (l0_1.length : Int) l1_1 (l1_1.length : Int) 0 l1_0 l1_1 t115 t118)) = some (r1, r2, r3, r4, r5, r6, r7) := H
       have A79 := Aside0.mk A790
       clear A790
       replace H := Option.bind_eq_some_iff.mp H
       obtain ⟨t118, A800, H⟩ := H
       replace H : (graph_Union.l1 kj52 (l0_0.length : Int) (l0_1.length : Int) l1_1 (l1_1.length : Int) 0 l1_0 l1_1 t115 t118) = some (r1, r2, r3, r4, r5, r6, r7) := H
       have A80 := Aside0.mk A800
       clear A800
       have H' := Aside0.mk H
       clear H
       try go_wp2
       replace Q0d := Aside0.mk (Kd.V_drew Q0d.out)
       replace Q0c := Aside0.mk (Kd.V_drew Q0c.out)
       replace Q0e := Aside0.mk (Kd.V_drew Q0e.out)
       replace Q0f := Aside0.mk (Kd.V_drew Q0f.out)
       replace Q01 := Aside0.mk (bD Q01.out)
       replace Q00 := Aside0.mk (bD Q00.out)
       replace Q02 := Aside0.mk (bD Q02.out)
       replace Q03 := Aside0.mk (bD Q03.out)
       replace Q04 := Aside0.mk (bD Q04.out)
       replace HB := Aside0.mk (wD HB.out)
       refine start_ (n := 12) (S := fun w' => w'.cell? ⟨Q0b, 0, none⟩ = some (.slice A0_0 l0_0.length c0_0) ∧ w'.cell? ⟨Q0b, 1, none⟩ = some (.slice A0_1 l0_1.length c0_1) ∧ w'.cell? ⟨Q0a, 0, none⟩ = some (.slice A1_0 l1_0.length c1_0) ∧ w'.cell? ⟨Q0a, 1, none⟩ = some (.slice A1_1 l1_1.length c1_1)) (ds := []) #[false, false, false, false, false, false, false, false, false, false, false, false] (by kernel_rfl) rfl rfl ⟨(blk_cell Q01.out 0).trans rfl, (blk_cell Q01.out 1).trans rfl, (blk_cell Q00.out 0).trans rfl, (blk_cell Q00.out 1).trans rfl⟩ (fun hHeld => ?_); refine with_tabW graph_Union.tab11 graph_Union.bits11 (fun HT_ HW_ => ?_)
       generalize wc.drew = w81 at Q0d Q0c Q0e Q0f Q01 Q00 Q02 Q03 Q04 HB hHeld ⊢
       refine pure_ (i := 0) (N := some 58) (v := ?_) (a' := ?_) #[true, false, false, false, false, false, false, false, false, false, false, false] rfl rfl (any_of HT_.out (by kernel_rfl)) (fun _ _ _ h => h) (Or.inl ⟨by rfl, ?_⟩) ?_ ?_
       rotate_left
       ·intro w'
        go_simp
        with_reducible rfl
       rotate_left
       ·simp only [Act.put, List.setIfInBounds_toArray, List.set_cons_zero, List.set_cons_succ, i64_w, i32_w]
        rfl
       refine pure_ (i := 2) (N := some 60) (v := ?_) (a' := ?_) #[true, false, true, false, false, false, false, false, false, false, false, false] rfl rfl (any_of HT_.out (by kernel_rfl)) (fun _ _ _ h => h) (Or.inl ⟨by rfl, ?_⟩) ?_ ?_
       rotate_left
       ·intro w'
        go_simp
        with_reducible rfl
       rotate_left
       ·simp only [Act.put, List.setIfInBounds_toArray, List.set_cons_zero, List.set_cons_succ, i64_w, i32_w]
        rfl
       refine pure_ (i := 6) (N := some 64) (v := ?_) (a' := ?_) #[true, false, true, false, false, false, true, false, false, false, false, false] rfl rfl (any_of HT_.out (by kernel_rfl)) (fun _ _ _ h => h) (Or.inl ⟨by rfl, ?_⟩) ?_ ?_
       rotate_left
       ·intro w'
        go_simp
        with_reducible rfl
       rotate_left
       ·simp only [Act.put, List.setIfInBounds_toArray, List.set_cons_zero, List.set_cons_succ, i64_w, i32_w]
        rfl
       refine take_ (i := 1) (N := some 59) (v := ?_) (a' := ?_) #[true, true, true, false, false, false, true, false, false, false, false, false] rfl rfl (take_ofW HT_.out HW_.out (by kernel_rfl)) (fun _ _ _ h => h) (Or.inl ⟨by rfl, ?_⟩) hHeld ?_ ?_
       rotate_left
       ·rintro w' ⟨s0, s1, s2, s3⟩
        go_simp
        with_reducible rfl
       rotate_left
       ·simp only [Act.put, List.setIfInBounds_toArray, List.set_cons_zero, List.set_cons_succ, i64_w, i32_w]
        rfl
       refine take_ (i := 3) (N := some 61) (v := ?_) (a' := ?_) #[true, true, true, true, false, false, true, false, false, false, false, false] rfl rfl (take_ofW HT_.out HW_.out (by kernel_rfl)) (fun _ _ _ h => h) (Or.inl ⟨by rfl, ?_⟩) hHeld ?_ ?_
       rotate_left
       ·rintro w' ⟨s0, s1, s2, s3⟩
        go_simp
        with_reducible rfl
       rotate_left
       ·simp only [Act.put, List.setIfInBounds_toArray, List.set_cons_zero, List.set_cons_succ, i64_w, i32_w]
        rfl
       refine take_ (i := 7) (N := some 65) (v := ?_) (a' := ?_) #[true, true, true, true, false, false, true, true, false, false, false, false] rfl rfl (take_ofW HT_.out HW_.out (by kernel_rfl)) (fun _ _ _ h => h) (Or.inl ⟨by rfl, ?_⟩) hHeld ?_ ?_
       rotate_left
       ·rintro w' ⟨s0, s1, s2, s3⟩
        go_simp
        with_reducible rfl
       rotate_left
       ·simp only [Act.put, List.setIfInBounds_toArray, List.set_cons_zero, List.set_cons_succ, i64_w, i32_w]
        rfl
       refine join_ (σ := Value × Value × Value × Nat) 1 #[true, true, true, true, true, true, true, true, true, true, true, false] (fun s_ => [(62, s_.1), (63, s_.2.1), (66, s_.2.2.1), (13, .pointer (some ⟨s_.2.2.2, 0, none⟩)), (67, .agg #[s_.2.1, s_.2.2.1])]) (fun s_ w' => (w'.cell? ⟨Q0b, 0, none⟩ = some (.slice A0_0 l0_0.length c0_0) ∧ w'.cell? ⟨Q0b, 1, none⟩ = some (.slice A0_1 l0_1.length c0_1) ∧ w'.cell? ⟨Q0a, 0, none⟩ = some (.slice A1_0 l1_0.length c1_0) ∧ w'.cell? ⟨Q0a, 1, none⟩ = some (.slice A1_1 l1_1.length c1_1)) ∧ (Kd.N (Kd.slice 3 (Kd.int .i64)) 22 w' w.heap.size (fun k_ => ((P0_0_ k_ ∨ P0_1_ k_ ∨ P1_0_ k_ ∨ P1_1_ k_) ∨ w.heap.size ≤ k_) ∧ some k_ ≠ (s_.2.1 : Value).ownBlock ∧ some k_ ≠ (s_.2.2.1 : Value).ownBlock ∧ k_ ≠ Q0b ∧ k_ ≠ Q0a ∧ k_ ≠ Q06 ∧ k_ ≠ Q07 ∧ k_ ≠ Q08 ∧ k_ ≠ s_.2.2.2) s_.1 y112) ∧ (Kd.R (Kd.int .i64) 3 w' w.heap.size (fun k_ => (w.heap.size ≤ k_)) s_.2.1 t115) ∧ (Kd.R k38 38 w' w.heap.size (fun k_ => (w.heap.size ≤ k_)) s_.2.2.1 t118) ∧ (Kd.V (Kd.int .i64) 3 w' w.heap.size (fun k_ => ((P0_0_ k_ ∨ P0_1_ k_ ∨ P1_0_ k_ ∨ P1_1_ k_) ∨ w.heap.size ≤ k_) ∧ some k_ ≠ (s_.1 : Value).ownBlock ∧ some k_ ≠ (s_.2.1 : Value).ownBlock ∧ some k_ ≠ (s_.2.2.1 : Value).ownBlock ∧ k_ ≠ Q0b ∧ k_ ≠ Q0a ∧ k_ ≠ Q06 ∧ k_ ≠ Q07 ∧ k_ ≠ Q08 ∧ k_ ≠ s_.2.2.2) (.slice A0_0 l0_0.length c0_0) l0_0) ∧ (Kd.V k38 38 w' w.heap.size (fun k_ => ((P0_0_ k_ ∨ P0_1_ k_ ∨ P1_0_ k_ ∨ P1_1_ k_) ∨ w.heap.size ≤ k_) ∧ some k_ ≠ (s_.1 : Value).ownBlock ∧ some k_ ≠ (s_.2.1 : Value).ownBlock ∧ some k_ ≠ (s_.2.2.1 : Value).ownBlock ∧ k_ ≠ Q0b ∧ k_ ≠ Q0a ∧ k_ ≠ Q06 ∧ k_ ≠ Q07 ∧ k_ ≠ Q08 ∧ k_ ≠ s_.2.2.2) (.slice A0_1 l0_1.length c0_1) l0_1) ∧ (Kd.V (Kd.int .i64) 3 w' w.heap.size (fun k_ => ((P0_0_ k_ ∨ P0_1_ k_ ∨ P1_0_ k_ ∨ P1_1_ k_) ∨ w.heap.size ≤ k_) ∧ some k_ ≠ (s_.1 : Value).ownBlock ∧ some k_ ≠ (s_.2.1 : Value).ownBlock ∧ some k_ ≠ (s_.2.2.1 : Value).ownBlock ∧ k_ ≠ Q0b ∧ k_ ≠ Q0a ∧ k_ ≠ Q06 ∧ k_ ≠ Q07 ∧ k_ ≠ Q08 ∧ k_ ≠ s_.2.2.2) (.slice A1_0 l1_0.length c1_0) l1_0) ∧ (Kd.V k38 38 w' w.heap.size (fun k_ => ((P0_0_ k_ ∨ P0_1_ k_ ∨ P1_0_ k_ ∨ P1_1_ k_) ∨ w.heap.size ≤ k_) ∧ some k_ ≠ (s_.1 : Value).ownBlock ∧ some k_ ≠ (s_.2.1 : Value).ownBlock ∧ some k_ ≠ (s_.2.2.1 : Value).ownBlock ∧ k_ ≠ Q0b ∧ k_ ≠ Q0a ∧ k_ ≠ Q06 ∧ k_ ≠ Q07 ∧ k_ ≠ Q08 ∧ k_ ≠ s_.2.2.2) (.slice A1_1 l1_1.length c1_1) l1_1) ∧ (w'.heap[Q0b]? = some (.cells #[.slice A0_0 l0_0.length c0_0, .slice A0_1 l0_1.length c0_1] 25 (0, 0))) ∧ (w'.heap[Q0a]? = some (.cells #[.slice A1_0 l1_0.length c1_0, .slice A1_1 l1_1.length c1_1] 25 (0, 0))) ∧ (w'.heap[Q06]? = some (.cells #[.slice none 0 0, .slice none 0 0] 25 (0, 0))) ∧ (w'.heap[Q07]? = some (.cells #[.slice none 0 0, .slice none 0 0] 29 (0, 0))) ∧ (w'.heap[Q08]? = some (.cells #[.slice none 0 0, .slice none 0 0] 29 (0, 0))) ∧ (w'.heap[s_.2.2.2]? = some (.cells #[.slice none 0 0, .slice none 0 0] 25 (0, 0))) ∧ (w.heap.size ≤ s_.2.2.2) ∧ (w.heap.size ≤ s_.2.2.2) ∧ (Q0b ≠ s_.2.2.2) ∧ (s_.2.2.2 ≠ Q0b) ∧ (Q0a ≠ s_.2.2.2) ∧ (s_.2.2.2 ≠ Q0a) ∧ (Q06 ≠ s_.2.2.2) ∧ (s_.2.2.2 ≠ Q06) ∧ (Q07 ≠ s_.2.2.2) ∧ (s_.2.2.2 ≠ Q07) ∧ (Q08 ≠ s_.2.2.2) ∧ (s_.2.2.2 ≠ Q08) ∧ (Below w.heap.size w w')) ?_ ?_
       rotate_left
       ·intro hCont
        refine two_ (i := 4) (j := 10) (Ni := some 62) (Nj := some 13) #[true, true, true, true, true, false, true, true, false, false, false, false] #[true, true, true, true, false, false, true, true, false, false, true, false] rfl rfl rfl rfl (two_of HT_.out (by kernel_rfl)) (by decide) (by decide) (fun K hK => ?_) (fun K hK => ?_)
        ·skip
         refine Kd.N_lit_step (Kd.slice 3 (Kd.int .i64)) _ 22 ?hg (N' := 62) ?hd (xs := ([l0_0, l1_0] : List (List Int))) (inner := [.slice A0_0 l0_0.length c0_0, .slice A1_0 l1_0.length c1_0]) (ok := (fun k_ => ((P0_0_ k_ ∨ P0_1_ k_ ∨ P1_0_ k_ ∨ P1_1_ k_) ∨ w.heap.size ≤ k_) ∧ k_ ≠ Q0b ∧ k_ ≠ Q0a ∧ k_ ≠ Q06 ∧ k_ ≠ Q07 ∧ k_ ≠ Q08)) (okp := (fun k_ => ((P0_0_ k_ ∨ P0_1_ k_ ∨ P1_0_ k_ ∨ P1_1_ k_) ∨ w.heap.size ≤ k_) ∧ k_ ≠ Q0b ∧ k_ ≠ Q0a ∧ k_ ≠ Q06 ∧ k_ ≠ Q07 ∧ k_ ≠ Q08)) ?hr ?hp (fun _ hk => hk) ((show ∀ k_, w81.heap.size ≤ k_ → (fun k_ => ((P0_0_ k_ ∨ P0_1_ k_ ∨ P1_0_ k_ ∨ P1_1_ k_) ∨ w.heap.size ≤ k_) ∧ k_ ≠ Q0b ∧ k_ ≠ Q0a ∧ k_ ≠ Q06 ∧ k_ ≠ Q07 ∧ k_ ≠ Q08) k_ from fun k_ hk => ⟨(.inr (Nat.le_trans (below_size (pH HB)) hk)), Kd.freshB (g := Q0b) (o := .cells #[.slice A0_0 l0_0.length c0_0, .slice A0_1 l0_1.length c0_1] 25 (0, 0)) (pB Q01) k_ hk, Kd.freshB (g := Q0a) (o := .cells #[.slice A1_0 l1_0.length c1_0, .slice A1_1 l1_1.length c1_1] 25 (0, 0)) (pB Q00) k_ hk, Kd.freshB (g := Q06) (o := .cells #[.slice none 0 0, .slice none 0 0] 25 (0, 0)) (pB Q02) k_ hk, Kd.freshB (g := Q07) (o := .cells #[.slice none 0 0, .slice none 0 0] 29 (0, 0)) (pB Q03) k_ hk, Kd.freshB (g := Q08) (o := .cells #[.slice none 0 0, .slice none 0 0] 29 (0, 0)) (pB Q04) k_ hk⟩) _ (Nat.le_refl _)) (Below.refl _ _) (Nat.le_refl _) (by simp) ?_; (case hd => rfl); (case hg => rfl); (case hr => first | (go_simp; done) | (go_simp; rfl)); (case hp => exact (Reps.one (show Kd.FK (Kd.slice 3 (Kd.int .i64)) _ _ l0_0 [.slice A0_0 l0_0.length c0_0] from (Kd.FK_slice_mk (Kd.V_reads' (Kd.V_mono (ok' := (fun k_ => ((P0_0_ k_ ∨ P0_1_ k_ ∨ P1_0_ k_ ∨ P1_1_ k_) ∨ w.heap.size ≤ k_) ∧ k_ ≠ Q0b ∧ k_ ≠ Q0a ∧ k_ ≠ Q06 ∧ k_ ≠ Q07 ∧ k_ ≠ Q08)) (Q0d.out) (fun k_ hk => ⟨hk.1, ⟨hk.2.1, ⟨hk.2.2.1, ⟨hk.2.2.2.1, ⟨hk.2.2.2.2.1, hk.2.2.2.2.2⟩⟩⟩⟩⟩))).2.1 (Kd.V_F (Kd.V_mono (ok' := (fun k_ => ((P0_0_ k_ ∨ P0_1_ k_ ∨ P1_0_ k_ ∨ P1_1_ k_) ∨ w.heap.size ≤ k_) ∧ k_ ≠ Q0b ∧ k_ ≠ Q0a ∧ k_ ≠ Q06 ∧ k_ ≠ Q07 ∧ k_ ≠ Q08)) (Q0d.out) (fun k_ hk => ⟨hk.1, ⟨hk.2.1, ⟨hk.2.2.1, ⟨hk.2.2.2.1, ⟨hk.2.2.2.2.1, hk.2.2.2.2.2⟩⟩⟩⟩⟩))))) (Reps.one (show Kd.FK (Kd.slice 3 (Kd.int .i64)) _ _ l1_0 [.slice A1_0 l1_0.length c1_0] from (Kd.FK_slice_mk (Kd.V_reads' (Kd.V_mono (ok' := (fun k_ => ((P0_0_ k_ ∨ P0_1_ k_ ∨ P1_0_ k_ ∨ P1_1_ k_) ∨ w.heap.size ≤ k_) ∧ k_ ≠ Q0b ∧ k_ ≠ Q0a ∧ k_ ≠ Q06 ∧ k_ ≠ Q07 ∧ k_ ≠ Q08)) (Q0e.out) (fun k_ hk => ⟨hk.1, ⟨hk.2.1, ⟨hk.2.2.1, ⟨hk.2.2.2.1, ⟨hk.2.2.2.2.1, hk.2.2.2.2.2⟩⟩⟩⟩⟩))).2.1 (Kd.V_F (Kd.V_mono (ok' := (fun k_ => ((P0_0_ k_ ∨ P0_1_ k_ ∨ P1_0_ k_ ∨ P1_1_ k_) ∨ w.heap.size ≤ k_) ∧ k_ ≠ Q0b ∧ k_ ≠ Q0a ∧ k_ ≠ Q06 ∧ k_ ≠ Q07 ∧ k_ ≠ Q08)) (Q0e.out) (fun k_ hk => ⟨hk.1, ⟨hk.2.1, ⟨hk.2.2.1, ⟨hk.2.2.2.1, ⟨hk.2.2.2.2.1, hk.2.2.2.2.2⟩⟩⟩⟩⟩))))) (Reps.none _ _))))
         intro v113 w82 ho83 hb hg_ hnew_
         clear hg_ hnew_
         (first | rw [← Ny112.out] at ho83 | (simp only [Int.reduceToNat] at ho83; rw [← Ny112.out] at ho83))
         replace Q0d := eV Q0d (Kd.N_base ho83) hb
         replace Q0c := eV Q0c (Kd.N_base ho83) hb
         replace Q0e := eV Q0e (Kd.N_base ho83) hb
         replace Q0f := eV Q0f (Kd.N_base ho83) hb
         have Q10 := Aside0.mk (Kd.N_lower ho83 (below_size (pH HB)))
         replace Q01 := uB Q01 hb
         replace Q00 := uB Q00 hb
         replace Q02 := uB Q02 hb
         replace Q03 := uB Q03 hb
         replace Q04 := uB Q04 hb
         replace HB := uH HB hb
         clear hb ho83
         obtain ⟨Q41, Q42, Q4i⟩ := Kd.N_slice Q10.out
         (first | subst Q4i | (injection Q4i with f1_ f2_ f3_; have f4_ := f1_.symm; have f5_ := f3_.symm; clear f1_ f2_ f3_; subst f4_; subst f5_))
         refine hK.out _ _ ⟨(blk_cell Q01.out 0).trans rfl, (blk_cell Q01.out 1).trans rfl, (blk_cell Q00.out 0).trans rfl, (blk_cell Q00.out 1).trans rfl⟩ (fun hHeld => ?_)
         clear hK K
         refine norm_ (a' := ?_) ?_ ?_
         rotate_left
         ·show Act.put _ (some 62) _ = _
          simp only [Act.put, List.setIfInBounds_toArray, List.set_cons_zero, List.set_cons_succ, i64_w, i32_w]
          rfl
         refine two_ (i := 5) (j := 10) (Ni := some 63) (Nj := some 13) #[true, true, true, true, true, true, true, true, false, false, false, false] #[true, true, true, true, true, false, true, true, false, false, true, false] rfl rfl rfl rfl (two_of HT_.out (by kernel_rfl)) (by decide) (by decide) (fun K hK => ?_) (fun K hK => ?_)
         ·skip
          refine goes_ Try.func55 (by kernel_rfl) rfl #[.slice Q41 y112.length Q42] (by rfl) rfl rfl aM ?_
          with_reducible refine (slices_Concat_int_int.calls _ _ y112 t115 _ ?side1 ?side2 A79.out).mono ?_
          (case side1 => repeat (first | exact (Kd.N_reads' Q10.out).2.2 | (with_reducible refine cA ?_ _) | (with_reducible refine cN ?_ _) | (with_reducible refine cD ?_)))
          (case side2 => exact (Kd.N_reads' Q10.out).2.1)
          rintro e w85 ⟨v116, rfl, ho0, hb⟩
          refine ⟨_, rfl, ?_⟩
          replace Q0d := eV Q0d (Kd.R_base ho0) hb
          replace Q0c := eV Q0c (Kd.R_base ho0) hb
          replace Q0e := eV Q0e (Kd.R_base ho0) hb
          replace Q0f := eV Q0f (Kd.R_base ho0) hb
          replace Q10 := eN Q10 (Kd.R_base ho0) hb
          have Q13 := Aside0.mk (Kd.R_lower (Kd.R_newM (M := fun k_ => (w.heap.size ≤ k_)) ho0 (below_size (pH HB)) (fun k_ h_ => h_)) (below_size (pH HB)))
          replace Q01 := uB Q01 hb
          replace Q00 := uB Q00 hb
          replace Q02 := uB Q02 hb
          replace Q03 := uB Q03 hb
          replace Q04 := uB Q04 hb
          replace HB := uH HB hb
          (try clear hb)
          (try clear hb2)
          (try clear hk)
          (try clear hi)
          (try clear ho0)
          refine hK.out _ _ ⟨(blk_cell Q01.out 0).trans rfl, (blk_cell Q01.out 1).trans rfl, (blk_cell Q00.out 0).trans rfl, (blk_cell Q00.out 1).trans rfl⟩ (fun hHeld => ?_)
          clear hK K
          refine norm_ (a' := ?_) ?_ ?_
          rotate_left
          ·show Act.put _ (some 63) _ = _
           simp only [Act.put, List.setIfInBounds_toArray, List.set_cons_zero, List.set_cons_succ, i64_w, i32_w]
           rfl
          refine two_ (i := 8) (j := 10) (Ni := some 66) (Nj := some 13) #[true, true, true, true, true, true, true, true, true, false, false, false] #[true, true, true, true, true, true, true, true, false, false, true, false] rfl rfl rfl rfl (two_of HT_.out (by kernel_rfl)) (by decide) (by decide) (fun K hK => ?_) (fun K hK => ?_)
          ·skip
           refine goes_ Try.func46 (by kernel_rfl) rfl #[.slice A0_1 l0_1.length c0_1] (by rfl) rfl rfl aM ?_
           with_reducible refine (api_Edge_46.calls _ _ l0_1 t118 _ ?side1 ?side2 A80.out).mono ?_
           (case side1 => repeat (first | exact (Kd.V_reads' Q0c.out).2.2 | (with_reducible refine cA ?_ _) | (with_reducible refine cN ?_ _) | (with_reducible refine cD ?_)))
           (case side2 => exact (Kd.V_reads' Q0c.out).2.1)
           rintro e w86 ⟨v119, rfl, ho0, hb⟩
           refine ⟨_, rfl, ?_⟩
           replace Q0d := eV Q0d (Kd.R_base ho0) hb
           replace Q0c := eV Q0c (Kd.R_base ho0) hb
           replace Q0e := eV Q0e (Kd.R_base ho0) hb
           replace Q0f := eV Q0f (Kd.R_base ho0) hb
           replace Q10 := eN Q10 (Kd.R_base ho0) hb
           replace Q13 := uR Q13 hb
           have Q1b := Aside0.mk (Kd.R_lower (Kd.R_newM (M := fun k_ => (w.heap.size ≤ k_)) ho0 (below_size (pH HB)) (fun k_ h_ => h_)) (below_size (pH HB)))
           replace Q01 := uB Q01 hb
           replace Q00 := uB Q00 hb
           replace Q02 := uB Q02 hb
           replace Q03 := uB Q03 hb
           replace Q04 := uB Q04 hb
           replace HB := uH HB hb
           (try clear hb)
           (try clear hb2)
           (try clear hk)
           (try clear hi)
           (try clear ho0)
           obtain ⟨Q5p, Q5q, Q4j⟩ := Kd.R_slice Q1b.out
           (first | subst Q4j | (injection Q4j with f1_ f2_ f3_; have f4_ := f1_.symm; have f5_ := f3_.symm; clear f1_ f2_ f3_; subst f4_; subst f5_))
           obtain ⟨Q2t, Q2u, Q1y⟩ := Kd.R_slice Q13.out
           (first | subst Q1y | (injection Q1y with f1_ f2_ f3_; have f4_ := f1_.symm; have f5_ := f3_.symm; clear f1_ f2_ f3_; subst f4_; subst f5_))
           refine hK.out _ _ ⟨(blk_cell Q01.out 0).trans rfl, (blk_cell Q01.out 1).trans rfl, (blk_cell Q00.out 0).trans rfl, (blk_cell Q00.out 1).trans rfl⟩ (fun hHeld => ?_)
           clear hK K
           refine norm_ (a' := ?_) ?_ ?_
           rotate_left
           ·show Act.put _ (some 66) _ = _
            simp only [Act.put, List.setIfInBounds_toArray, List.set_cons_zero, List.set_cons_succ, i64_w, i32_w]
            rfl
           refine pure_ (i := 9) (N := some 67) (v := ?_) (a' := ?_) #[true, true, true, true, true, true, true, true, true, true, false, false] rfl rfl (any_of HT_.out (by kernel_rfl)) (fun _ _ _ h => h) (Or.inl ⟨by rfl, ?_⟩) ?_ ?_
           rotate_left
           ·intro w'
            go_simp
            with_reducible rfl
           rotate_left
           ·simp only [Act.put, List.setIfInBounds_toArray, List.set_cons_zero, List.set_cons_succ, i64_w, i32_w]
            rfl
           refine one_ (i := 10) (N := some 13) #[true, true, true, true, true, true, true, true, true, true, true, false] rfl rfl (one_of HT_.out (by kernel_rfl)) (by decide) (fun K hK => ?_)
           refine box_step ?hg (N := 13) ?hd (cs := #[.slice none 0 0, .slice none 0 0]) (t := 25) ?hr ?_; (case hd => rfl); (case hg => rfl); (case hr => first | (go_simp; done) | (go_simp; rfl))
           intro Q05 hg w89 hbox hb
           replace Q0d := gV Q0d Q05 hg hb
           replace Q0c := gV Q0c Q05 hg hb
           replace Q0e := gV Q0e Q05 hg hb
           replace Q0f := gV Q0f Q05 hg hb
           replace Q10 := gN Q10 Q05 hg hb
           replace Q13 := uR Q13 hb
           replace Q1b := uR Q1b hb
           have Q0g := Aside0.mk (hbox)
           have Q2b := uS HB hg
           have Q24 := uS HB hg
           replace HB := uH HB hb
           have Q17 := uL Q01 hg
           have Q1z := uG Q01 hg
           replace Q01 := uB Q01 hb
           have Q14 := uL Q00 hg
           have Q1u := uG Q00 hg
           replace Q00 := uB Q00 hb
           have Q1c := uL Q02 hg
           have Q18 := uG Q02 hg
           replace Q02 := uB Q02 hb
           have Q1d := uL Q03 hg
           have Q19 := uG Q03 hg
           replace Q03 := uB Q03 hb
           have Q1e := uL Q04 hg
           have Q1a := uG Q04 hg
           replace Q04 := uB Q04 hb
           clear hb hbox hg
           refine hK.out _ _ ⟨(blk_cell Q01.out 0).trans rfl, (blk_cell Q01.out 1).trans rfl, (blk_cell Q00.out 0).trans rfl, (blk_cell Q00.out 1).trans rfl⟩ (fun hHeld => ?_)
           clear hK K
           refine norm_ (a' := ?_) ?_ ?_
           rotate_left
           ·show Act.put _ (some 13) _ = _
            simp only [Act.put, List.setIfInBounds_toArray, List.set_cons_zero, List.set_cons_succ, i64_w, i32_w]
            rfl
           exact norm_ (by simp only [putAll, Act.put, List.setIfInBounds_toArray, List.set_cons_zero, List.set_cons_succ]) (hCont (.slice Q41 y112.length Q42, .slice Q2t t115.length Q2u, .slice Q5p t118.length Q5q, Q05) _ ⟨hHeld, (by (with_reducible repeat (first | apply Kd.N_alloc | apply Kd.N_drewN | apply Kd.N_drew)); exact Kd.N_mono Q10.out (fun _ hk => ⟨hk.1.1.1.1, ⟨hk.1.1.2, ⟨hk.1.2, ⟨hk.1.1.1.2.1, ⟨hk.1.1.1.2.2.1, ⟨hk.1.1.1.2.2.2.1, ⟨hk.1.1.1.2.2.2.2.1, ⟨hk.1.1.1.2.2.2.2.2, hk.2⟩⟩⟩⟩⟩⟩⟩⟩)), (by (with_reducible repeat (first | apply rA | apply rN | apply rD)); exact Kd.R_mono Q13.out (fun _ hk => hk.1)), (by (with_reducible repeat (first | apply rA | apply rN | apply rD)); exact Kd.R_mono Q1b.out (fun _ hk => hk.1)), (by (with_reducible repeat (first | apply Kd.V_alloc | apply Kd.V_drewN | apply Kd.V_drew)); exact Kd.V_mono Q0d.out (fun _ hk => ⟨hk.1.1.1.1.1, ⟨hk.1.1.1.2, ⟨hk.1.1.2, ⟨hk.1.2, ⟨hk.1.1.1.1.2.1, ⟨hk.1.1.1.1.2.2.1, ⟨hk.1.1.1.1.2.2.2.1, ⟨hk.1.1.1.1.2.2.2.2.1, ⟨hk.1.1.1.1.2.2.2.2.2, hk.2⟩⟩⟩⟩⟩⟩⟩⟩⟩)), (by (with_reducible repeat (first | apply Kd.V_alloc | apply Kd.V_drewN | apply Kd.V_drew)); exact Kd.V_mono Q0c.out (fun _ hk => ⟨hk.1.1.1.1.1, ⟨hk.1.1.1.2, ⟨hk.1.1.2, ⟨hk.1.2, ⟨hk.1.1.1.1.2.1, ⟨hk.1.1.1.1.2.2.1, ⟨hk.1.1.1.1.2.2.2.1, ⟨hk.1.1.1.1.2.2.2.2.1, ⟨hk.1.1.1.1.2.2.2.2.2, hk.2⟩⟩⟩⟩⟩⟩⟩⟩⟩)), (by (with_reducible repeat (first | apply Kd.V_alloc | apply Kd.V_drewN | apply Kd.V_drew)); exact Kd.V_mono Q0e.out (fun _ hk => ⟨hk.1.1.1.1.1, ⟨hk.1.1.1.2, ⟨hk.1.1.2, ⟨hk.1.2, ⟨hk.1.1.1.1.2.1, ⟨hk.1.1.1.1.2.2.1, ⟨hk.1.1.1.1.2.2.2.1, ⟨hk.1.1.1.1.2.2.2.2.1, ⟨hk.1.1.1.1.2.2.2.2.2, hk.2⟩⟩⟩⟩⟩⟩⟩⟩⟩)), (by (with_reducible repeat (first | apply Kd.V_alloc | apply Kd.V_drewN | apply Kd.V_drew)); exact Kd.V_mono Q0f.out (fun _ hk => ⟨hk.1.1.1.1.1, ⟨hk.1.1.1.2, ⟨hk.1.1.2, ⟨hk.1.2, ⟨hk.1.1.1.1.2.1, ⟨hk.1.1.1.1.2.2.1, ⟨hk.1.1.1.1.2.2.2.1, ⟨hk.1.1.1.1.2.2.2.2.1, ⟨hk.1.1.1.1.2.2.2.2.2, hk.2⟩⟩⟩⟩⟩⟩⟩⟩⟩)), (pB Q01), (pB Q00), (pB Q02), (pB Q03), (pB Q04), (pB Q0g), Q2b.out, Q24.out, Q17.out, Q1z.out, Q14.out, Q1u.out, Q1c.out, Q18.out, Q1d.out, Q19.out, Q1e.out, Q1a.out, (pH HB)⟩)
          ·skip
           refine box_step ?hg (N := 13) ?hd (cs := #[.slice none 0 0, .slice none 0 0]) (t := 25) ?hr ?_; (case hd => rfl); (case hg => rfl); (case hr => first | (go_simp; done) | (go_simp; rfl))
           intro Q05 hg w86 hbox hb
           replace Q0d := gV Q0d Q05 hg hb
           replace Q0c := gV Q0c Q05 hg hb
           replace Q0e := gV Q0e Q05 hg hb
           replace Q0f := gV Q0f Q05 hg hb
           replace Q10 := gN Q10 Q05 hg hb
           replace Q13 := uR Q13 hb
           have Q0g := Aside0.mk (hbox)
           have Q2b := uS HB hg
           have Q24 := uS HB hg
           replace HB := uH HB hb
           have Q17 := uL Q01 hg
           have Q1z := uG Q01 hg
           replace Q01 := uB Q01 hb
           have Q14 := uL Q00 hg
           have Q1u := uG Q00 hg
           replace Q00 := uB Q00 hb
           have Q1c := uL Q02 hg
           have Q18 := uG Q02 hg
           replace Q02 := uB Q02 hb
           have Q1d := uL Q03 hg
           have Q19 := uG Q03 hg
           replace Q03 := uB Q03 hb
           have Q1e := uL Q04 hg
           have Q1a := uG Q04 hg
           replace Q04 := uB Q04 hb
           clear hb hbox hg
           refine hK.out _ _ ⟨(blk_cell Q01.out 0).trans rfl, (blk_cell Q01.out 1).trans rfl, (blk_cell Q00.out 0).trans rfl, (blk_cell Q00.out 1).trans rfl⟩ (fun hHeld => ?_)
           clear hK K
           refine norm_ (a' := ?_) ?_ ?_
           rotate_left
           ·show Act.put _ (some 13) _ = _
            simp only [Act.put, List.setIfInBounds_toArray, List.set_cons_zero, List.set_cons_succ, i64_w, i32_w]
            rfl
           refine one_ (i := 8) (N := some 66) #[true, true, true, true, true, true, true, true, true, false, true, false] rfl rfl (one_of HT_.out (by kernel_rfl)) (by decide) (fun K hK => ?_)
           refine goes_ Try.func46 (by kernel_rfl) rfl #[.slice A0_1 l0_1.length c0_1] (by rfl) rfl rfl aM ?_
           with_reducible refine (api_Edge_46.calls _ _ l0_1 t118 _ ?side1 ?side2 A80.out).mono ?_
           (case side1 => repeat (first | exact (Kd.V_reads' Q0c.out).2.2 | (with_reducible refine cA ?_ _) | (with_reducible refine cN ?_ _) | (with_reducible refine cD ?_)))
           (case side2 => exact (Kd.V_reads' Q0c.out).2.1)
           rintro e w87 ⟨v119, rfl, ho0, hb⟩
           refine ⟨_, rfl, ?_⟩
           replace Q0d := eV Q0d (Kd.R_base ho0) hb
           replace Q0c := eV Q0c (Kd.R_base ho0) hb
           replace Q0e := eV Q0e (Kd.R_base ho0) hb
           replace Q0f := eV Q0f (Kd.R_base ho0) hb
           replace Q10 := eN Q10 (Kd.R_base ho0) hb
           replace Q13 := uR Q13 hb
           have Q1b := Aside0.mk (Kd.R_lower (Kd.R_newM (M := fun k_ => (w.heap.size ≤ k_)) ho0 (below_size (pH HB)) (fun k_ h_ => h_)) (below_size (pH HB)))
           replace Q01 := uB Q01 hb
           replace Q00 := uB Q00 hb
           replace Q02 := uB Q02 hb
           replace Q03 := uB Q03 hb
           replace Q04 := uB Q04 hb
           replace Q0g := uB Q0g hb
           replace HB := uH HB hb
           (try clear hb)
           (try clear hb2)
           (try clear hk)
           (try clear hi)
           (try clear ho0)
           obtain ⟨Q2t, Q2u, Q1y⟩ := Kd.R_slice Q1b.out
           (first | subst Q1y | (injection Q1y with f1_ f2_ f3_; have f4_ := f1_.symm; have f5_ := f3_.symm; clear f1_ f2_ f3_; subst f4_; subst f5_))
           obtain ⟨Q38, Q39, Q2c⟩ := Kd.R_slice Q13.out
           (first | subst Q2c | (injection Q2c with f1_ f2_ f3_; have f4_ := f1_.symm; have f5_ := f3_.symm; clear f1_ f2_ f3_; subst f4_; subst f5_))
           refine hK.out _ _ ⟨(blk_cell Q01.out 0).trans rfl, (blk_cell Q01.out 1).trans rfl, (blk_cell Q00.out 0).trans rfl, (blk_cell Q00.out 1).trans rfl⟩ (fun hHeld => ?_)
           clear hK K
           refine norm_ (a' := ?_) ?_ ?_
           rotate_left
           ·show Act.put _ (some 66) _ = _
            simp only [Act.put, List.setIfInBounds_toArray, List.set_cons_zero, List.set_cons_succ, i64_w, i32_w]
            rfl
           refine pure_ (i := 9) (N := some 67) (v := ?_) (a' := ?_) #[true, true, true, true, true, true, true, true, true, true, true, false] rfl rfl (any_of HT_.out (by kernel_rfl)) (fun _ _ _ h => h) (Or.inl ⟨by rfl, ?_⟩) ?_ ?_
           rotate_left
           ·intro w'
            go_simp
            with_reducible rfl
           rotate_left
           ·simp only [Act.put, List.setIfInBounds_toArray, List.set_cons_zero, List.set_cons_succ, i64_w, i32_w]
            rfl
           exact norm_ (by simp only [putAll, Act.put, List.setIfInBounds_toArray, List.set_cons_zero, List.set_cons_succ]) (hCont (.slice Q41 y112.length Q42, .slice Q38 t115.length Q39, .slice Q2t t118.length Q2u, Q05) _ ⟨hHeld, (by (with_reducible repeat (first | apply Kd.N_alloc | apply Kd.N_drewN | apply Kd.N_drew)); exact Kd.N_mono Q10.out (fun _ hk => ⟨hk.1.1.1.1, ⟨hk.1.1.2, ⟨hk.2, ⟨hk.1.1.1.2.1, ⟨hk.1.1.1.2.2.1, ⟨hk.1.1.1.2.2.2.1, ⟨hk.1.1.1.2.2.2.2.1, ⟨hk.1.1.1.2.2.2.2.2, hk.1.2⟩⟩⟩⟩⟩⟩⟩⟩)), (by (with_reducible repeat (first | apply rA | apply rN | apply rD)); exact Kd.R_mono Q13.out (fun _ hk => hk.1)), (by (with_reducible repeat (first | apply rA | apply rN | apply rD)); exact Kd.R_mono Q1b.out (fun _ hk => hk.1)), (by (with_reducible repeat (first | apply Kd.V_alloc | apply Kd.V_drewN | apply Kd.V_drew)); exact Kd.V_mono Q0d.out (fun _ hk => ⟨hk.1.1.1.1.1, ⟨hk.1.1.1.2, ⟨hk.1.1.2, ⟨hk.2, ⟨hk.1.1.1.1.2.1, ⟨hk.1.1.1.1.2.2.1, ⟨hk.1.1.1.1.2.2.2.1, ⟨hk.1.1.1.1.2.2.2.2.1, ⟨hk.1.1.1.1.2.2.2.2.2, hk.1.2⟩⟩⟩⟩⟩⟩⟩⟩⟩)), (by (with_reducible repeat (first | apply Kd.V_alloc | apply Kd.V_drewN | apply Kd.V_drew)); exact Kd.V_mono Q0c.out (fun _ hk => ⟨hk.1.1.1.1.1, ⟨hk.1.1.1.2, ⟨hk.1.1.2, ⟨hk.2, ⟨hk.1.1.1.1.2.1, ⟨hk.1.1.1.1.2.2.1, ⟨hk.1.1.1.1.2.2.2.1, ⟨hk.1.1.1.1.2.2.2.2.1, ⟨hk.1.1.1.1.2.2.2.2.2, hk.1.2⟩⟩⟩⟩⟩⟩⟩⟩⟩)), (by (with_reducible repeat (first | apply Kd.V_alloc | apply Kd.V_drewN | apply Kd.V_drew)); exact Kd.V_mono Q0e.out (fun _ hk => ⟨hk.1.1.1.1.1, ⟨hk.1.1.1.2, ⟨hk.1.1.2, ⟨hk.2, ⟨hk.1.1.1.1.2.1, ⟨hk.1.1.1.1.2.2.1, ⟨hk.1.1.1.1.2.2.2.1, ⟨hk.1.1.1.1.2.2.2.2.1, ⟨hk.1.1.1.1.2.2.2.2.2, hk.1.2⟩⟩⟩⟩⟩⟩⟩⟩⟩)), (by (with_reducible repeat (first | apply Kd.V_alloc | apply Kd.V_drewN | apply Kd.V_drew)); exact Kd.V_mono Q0f.out (fun _ hk => ⟨hk.1.1.1.1.1, ⟨hk.1.1.1.2, ⟨hk.1.1.2, ⟨hk.2, ⟨hk.1.1.1.1.2.1, ⟨hk.1.1.1.1.2.2.1, ⟨hk.1.1.1.1.2.2.2.1, ⟨hk.1.1.1.1.2.2.2.2.1, ⟨hk.1.1.1.1.2.2.2.2.2, hk.1.2⟩⟩⟩⟩⟩⟩⟩⟩⟩)), (pB Q01), (pB Q00), (pB Q02), (pB Q03), (pB Q04), (pB Q0g), Q2b.out, Q24.out, Q17.out, Q1z.out, Q14.out, Q1u.out, Q1c.out, Q18.out, Q1d.out, Q19.out, Q1e.out, Q1a.out, (pH HB)⟩)
         ·skip
          refine box_step ?hg (N := 13) ?hd (cs := #[.slice none 0 0, .slice none 0 0]) (t := 25) ?hr ?_; (case hd => rfl); (case hg => rfl); (case hr => first | (go_simp; done) | (go_simp; rfl))
          intro Q05 hg w84 hbox hb
          replace Q0d := gV Q0d Q05 hg hb
          replace Q0c := gV Q0c Q05 hg hb
          replace Q0e := gV Q0e Q05 hg hb
          replace Q0f := gV Q0f Q05 hg hb
          replace Q10 := gN Q10 Q05 hg hb
          have Q0g := Aside0.mk (hbox)
          have Q2b := uS HB hg
          have Q24 := uS HB hg
          replace HB := uH HB hb
          have Q17 := uL Q01 hg
          have Q1z := uG Q01 hg
          replace Q01 := uB Q01 hb
          have Q14 := uL Q00 hg
          have Q1u := uG Q00 hg
          replace Q00 := uB Q00 hb
          have Q1c := uL Q02 hg
          have Q18 := uG Q02 hg
          replace Q02 := uB Q02 hb
          have Q1d := uL Q03 hg
          have Q19 := uG Q03 hg
          replace Q03 := uB Q03 hb
          have Q1e := uL Q04 hg
          have Q1a := uG Q04 hg
          replace Q04 := uB Q04 hb
          clear hb hbox hg
          obtain ⟨Q3a, Q3b, Q3c⟩ := Kd.N_slice Q10.out
          (first | subst Q3c | (injection Q3c with f1_ f2_ f3_; have f4_ := f1_.symm; have f5_ := f3_.symm; clear f1_ f2_ f3_; subst f4_; subst f5_))
          refine hK.out _ _ ⟨(blk_cell Q01.out 0).trans rfl, (blk_cell Q01.out 1).trans rfl, (blk_cell Q00.out 0).trans rfl, (blk_cell Q00.out 1).trans rfl⟩ (fun hHeld => ?_)
          clear hK K
          refine norm_ (a' := ?_) ?_ ?_
          rotate_left
          ·show Act.put _ (some 13) _ = _
           simp only [Act.put, List.setIfInBounds_toArray, List.set_cons_zero, List.set_cons_succ, i64_w, i32_w]
           rfl
          refine one_ (i := 5) (N := some 63) #[true, true, true, true, true, true, true, true, false, false, true, false] rfl rfl (one_of HT_.out (by kernel_rfl)) (by decide) (fun K hK => ?_)
          refine goes_ Try.func55 (by kernel_rfl) rfl #[.slice Q3a y112.length Q3b] (by rfl) rfl rfl aM ?_
          with_reducible refine (slices_Concat_int_int.calls _ _ y112 t115 _ ?side1 ?side2 A79.out).mono ?_
          (case side1 => repeat (first | exact (Kd.N_reads' Q10.out).2.2 | (with_reducible refine cA ?_ _) | (with_reducible refine cN ?_ _) | (with_reducible refine cD ?_)))
          (case side2 => exact (Kd.N_reads' Q10.out).2.1)
          rintro e w86 ⟨v116, rfl, ho0, hb⟩
          refine ⟨_, rfl, ?_⟩
          replace Q0d := eV Q0d (Kd.R_base ho0) hb
          replace Q0c := eV Q0c (Kd.R_base ho0) hb
          replace Q0e := eV Q0e (Kd.R_base ho0) hb
          replace Q0f := eV Q0f (Kd.R_base ho0) hb
          replace Q10 := eN Q10 (Kd.R_base ho0) hb
          have Q13 := Aside0.mk (Kd.R_lower (Kd.R_newM (M := fun k_ => (w.heap.size ≤ k_)) ho0 (below_size (pH HB)) (fun k_ h_ => h_)) (below_size (pH HB)))
          replace Q01 := uB Q01 hb
          replace Q00 := uB Q00 hb
          replace Q02 := uB Q02 hb
          replace Q03 := uB Q03 hb
          replace Q04 := uB Q04 hb
          replace Q0g := uB Q0g hb
          replace HB := uH HB hb
          (try clear hb)
          (try clear hb2)
          (try clear hk)
          (try clear hi)
          (try clear ho0)
          refine hK.out _ _ ⟨(blk_cell Q01.out 0).trans rfl, (blk_cell Q01.out 1).trans rfl, (blk_cell Q00.out 0).trans rfl, (blk_cell Q00.out 1).trans rfl⟩ (fun hHeld => ?_)
          clear hK K
          refine norm_ (a' := ?_) ?_ ?_
          rotate_left
          ·show Act.put _ (some 63) _ = _
           simp only [Act.put, List.setIfInBounds_toArray, List.set_cons_zero, List.set_cons_succ, i64_w, i32_w]
           rfl
          refine one_ (i := 8) (N := some 66) #[true, true, true, true, true, true, true, true, true, false, true, false] rfl rfl (one_of HT_.out (by kernel_rfl)) (by decide) (fun K hK => ?_)
          refine goes_ Try.func46 (by kernel_rfl) rfl #[.slice A0_1 l0_1.length c0_1] (by rfl) rfl rfl aM ?_
          with_reducible refine (api_Edge_46.calls _ _ l0_1 t118 _ ?side1 ?side2 A80.out).mono ?_
          (case side1 => repeat (first | exact (Kd.V_reads' Q0c.out).2.2 | (with_reducible refine cA ?_ _) | (with_reducible refine cN ?_ _) | (with_reducible refine cD ?_)))
          (case side2 => exact (Kd.V_reads' Q0c.out).2.1)
          rintro e w87 ⟨v119, rfl, ho0, hb⟩
          refine ⟨_, rfl, ?_⟩
          replace Q0d := eV Q0d (Kd.R_base ho0) hb
          replace Q0c := eV Q0c (Kd.R_base ho0) hb
          replace Q0e := eV Q0e (Kd.R_base ho0) hb
          replace Q0f := eV Q0f (Kd.R_base ho0) hb
          replace Q10 := eN Q10 (Kd.R_base ho0) hb
          replace Q13 := uR Q13 hb
          have Q1b := Aside0.mk (Kd.R_lower (Kd.R_newM (M := fun k_ => (w.heap.size ≤ k_)) ho0 (below_size (pH HB)) (fun k_ h_ => h_)) (below_size (pH HB)))
          replace Q01 := uB Q01 hb
          replace Q00 := uB Q00 hb
          replace Q02 := uB Q02 hb
          replace Q03 := uB Q03 hb
          replace Q04 := uB Q04 hb
          replace Q0g := uB Q0g hb
          replace HB := uH HB hb
          (try clear hb)
          (try clear hb2)
          (try clear hk)
          (try clear hi)
          (try clear ho0)
          obtain ⟨Q2t, Q2u, Q1y⟩ := Kd.R_slice Q1b.out
          (first | subst Q1y | (injection Q1y with f1_ f2_ f3_; have f4_ := f1_.symm; have f5_ := f3_.symm; clear f1_ f2_ f3_; subst f4_; subst f5_))
          obtain ⟨Q38, Q39, Q2c⟩ := Kd.R_slice Q13.out
          (first | subst Q2c | (injection Q2c with f1_ f2_ f3_; have f4_ := f1_.symm; have f5_ := f3_.symm; clear f1_ f2_ f3_; subst f4_; subst f5_))
          refine hK.out _ _ ⟨(blk_cell Q01.out 0).trans rfl, (blk_cell Q01.out 1).trans rfl, (blk_cell Q00.out 0).trans rfl, (blk_cell Q00.out 1).trans rfl⟩ (fun hHeld => ?_)
          clear hK K
          refine norm_ (a' := ?_) ?_ ?_
          rotate_left
          ·show Act.put _ (some 66) _ = _
           simp only [Act.put, List.setIfInBounds_toArray, List.set_cons_zero, List.set_cons_succ, i64_w, i32_w]
           rfl
          refine pure_ (i := 9) (N := some 67) (v := ?_) (a' := ?_) #[true, true, true, true, true, true, true, true, true, true, true, false] rfl rfl (any_of HT_.out (by kernel_rfl)) (fun _ _ _ h => h) (Or.inl ⟨by rfl, ?_⟩) ?_ ?_
          rotate_left
          ·intro w'
           go_simp
           with_reducible rfl
          rotate_left
          ·simp only [Act.put, List.setIfInBounds_toArray, List.set_cons_zero, List.set_cons_succ, i64_w, i32_w]
           rfl
          exact norm_ (by simp only [putAll, Act.put, List.setIfInBounds_toArray, List.set_cons_zero, List.set_cons_succ]) (hCont (.slice Q3a y112.length Q3b, .slice Q38 t115.length Q39, .slice Q2t t118.length Q2u, Q05) _ ⟨hHeld, (by (with_reducible repeat (first | apply Kd.N_alloc | apply Kd.N_drewN | apply Kd.N_drew)); exact Kd.N_mono Q10.out (fun _ hk => ⟨hk.1.1.1.1, ⟨hk.1.2, ⟨hk.2, ⟨hk.1.1.1.2.1, ⟨hk.1.1.1.2.2.1, ⟨hk.1.1.1.2.2.2.1, ⟨hk.1.1.1.2.2.2.2.1, ⟨hk.1.1.1.2.2.2.2.2, hk.1.1.2⟩⟩⟩⟩⟩⟩⟩⟩)), (by (with_reducible repeat (first | apply rA | apply rN | apply rD)); exact Kd.R_mono Q13.out (fun _ hk => hk.1)), (by (with_reducible repeat (first | apply rA | apply rN | apply rD)); exact Kd.R_mono Q1b.out (fun _ hk => hk.1)), (by (with_reducible repeat (first | apply Kd.V_alloc | apply Kd.V_drewN | apply Kd.V_drew)); exact Kd.V_mono Q0d.out (fun _ hk => ⟨hk.1.1.1.1.1, ⟨hk.1.1.1.2, ⟨hk.1.2, ⟨hk.2, ⟨hk.1.1.1.1.2.1, ⟨hk.1.1.1.1.2.2.1, ⟨hk.1.1.1.1.2.2.2.1, ⟨hk.1.1.1.1.2.2.2.2.1, ⟨hk.1.1.1.1.2.2.2.2.2, hk.1.1.2⟩⟩⟩⟩⟩⟩⟩⟩⟩)), (by (with_reducible repeat (first | apply Kd.V_alloc | apply Kd.V_drewN | apply Kd.V_drew)); exact Kd.V_mono Q0c.out (fun _ hk => ⟨hk.1.1.1.1.1, ⟨hk.1.1.1.2, ⟨hk.1.2, ⟨hk.2, ⟨hk.1.1.1.1.2.1, ⟨hk.1.1.1.1.2.2.1, ⟨hk.1.1.1.1.2.2.2.1, ⟨hk.1.1.1.1.2.2.2.2.1, ⟨hk.1.1.1.1.2.2.2.2.2, hk.1.1.2⟩⟩⟩⟩⟩⟩⟩⟩⟩)), (by (with_reducible repeat (first | apply Kd.V_alloc | apply Kd.V_drewN | apply Kd.V_drew)); exact Kd.V_mono Q0e.out (fun _ hk => ⟨hk.1.1.1.1.1, ⟨hk.1.1.1.2, ⟨hk.1.2, ⟨hk.2, ⟨hk.1.1.1.1.2.1, ⟨hk.1.1.1.1.2.2.1, ⟨hk.1.1.1.1.2.2.2.1, ⟨hk.1.1.1.1.2.2.2.2.1, ⟨hk.1.1.1.1.2.2.2.2.2, hk.1.1.2⟩⟩⟩⟩⟩⟩⟩⟩⟩)), (by (with_reducible repeat (first | apply Kd.V_alloc | apply Kd.V_drewN | apply Kd.V_drew)); exact Kd.V_mono Q0f.out (fun _ hk => ⟨hk.1.1.1.1.1, ⟨hk.1.1.1.2, ⟨hk.1.2, ⟨hk.2, ⟨hk.1.1.1.1.2.1, ⟨hk.1.1.1.1.2.2.1, ⟨hk.1.1.1.1.2.2.2.1, ⟨hk.1.1.1.1.2.2.2.2.1, ⟨hk.1.1.1.1.2.2.2.2.2, hk.1.1.2⟩⟩⟩⟩⟩⟩⟩⟩⟩)), (pB Q01), (pB Q00), (pB Q02), (pB Q03), (pB Q04), (pB Q0g), Q2b.out, Q24.out, Q17.out, Q1z.out, Q14.out, Q1u.out, Q1c.out, Q18.out, Q1d.out, Q19.out, Q1e.out, Q1a.out, (pH HB)⟩)
        ·skip
         refine box_step ?hg (N := 13) ?hd (cs := #[.slice none 0 0, .slice none 0 0]) (t := 25) ?hr ?_; (case hd => rfl); (case hg => rfl); (case hr => first | (go_simp; done) | (go_simp; rfl))
         intro Q05 hg w82 hbox hb
         replace Q0d := gV Q0d Q05 hg hb
         replace Q0c := gV Q0c Q05 hg hb
         replace Q0e := gV Q0e Q05 hg hb
         replace Q0f := gV Q0f Q05 hg hb
         have Q0g := Aside0.mk (hbox)
         have Q2b := uS HB hg
         have Q24 := uS HB hg
         replace HB := uH HB hb
         have Q17 := uL Q01 hg
         have Q1z := uG Q01 hg
         replace Q01 := uB Q01 hb
         have Q14 := uL Q00 hg
         have Q1u := uG Q00 hg
         replace Q00 := uB Q00 hb
         have Q1c := uL Q02 hg
         have Q18 := uG Q02 hg
         replace Q02 := uB Q02 hb
         have Q1d := uL Q03 hg
         have Q19 := uG Q03 hg
         replace Q03 := uB Q03 hb
         have Q1e := uL Q04 hg
         have Q1a := uG Q04 hg
         replace Q04 := uB Q04 hb
         clear hb hbox hg
         refine hK.out _ _ ⟨(blk_cell Q01.out 0).trans rfl, (blk_cell Q01.out 1).trans rfl, (blk_cell Q00.out 0).trans rfl, (blk_cell Q00.out 1).trans rfl⟩ (fun hHeld => ?_)
         clear hK K
         refine norm_ (a' := ?_) ?_ ?_
         rotate_left
         ·show Act.put _ (some 13) _ = _
          simp only [Act.put, List.setIfInBounds_toArray, List.set_cons_zero, List.set_cons_succ, i64_w, i32_w]
          rfl
         refine one_ (i := 4) (N := some 62) #[true, true, true, true, true, false, true, true, false, false, true, false] rfl rfl (one_of HT_.out (by kernel_rfl)) (by decide) (fun K hK => ?_)
         refine Kd.N_lit_step (Kd.slice 3 (Kd.int .i64)) _ 22 ?hg (N' := 62) ?hd (xs := ([l0_0, l1_0] : List (List Int))) (inner := [.slice A0_0 l0_0.length c0_0, .slice A1_0 l1_0.length c1_0]) (ok := (fun k_ => ((P0_0_ k_ ∨ P0_1_ k_ ∨ P1_0_ k_ ∨ P1_1_ k_) ∨ w.heap.size ≤ k_) ∧ k_ ≠ Q0b ∧ k_ ≠ Q0a ∧ k_ ≠ Q06 ∧ k_ ≠ Q07 ∧ k_ ≠ Q08 ∧ k_ ≠ Q05)) (okp := (fun k_ => ((P0_0_ k_ ∨ P0_1_ k_ ∨ P1_0_ k_ ∨ P1_1_ k_) ∨ w.heap.size ≤ k_) ∧ k_ ≠ Q0b ∧ k_ ≠ Q0a ∧ k_ ≠ Q06 ∧ k_ ≠ Q07 ∧ k_ ≠ Q08 ∧ k_ ≠ Q05)) ?hr ?hp (fun _ hk => hk) ((show ∀ k_, w82.heap.size ≤ k_ → (fun k_ => ((P0_0_ k_ ∨ P0_1_ k_ ∨ P1_0_ k_ ∨ P1_1_ k_) ∨ w.heap.size ≤ k_) ∧ k_ ≠ Q0b ∧ k_ ≠ Q0a ∧ k_ ≠ Q06 ∧ k_ ≠ Q07 ∧ k_ ≠ Q08 ∧ k_ ≠ Q05) k_ from fun k_ hk => ⟨(.inr (Nat.le_trans (below_size (pH HB)) hk)), Kd.freshB (g := Q0b) (o := .cells #[.slice A0_0 l0_0.length c0_0, .slice A0_1 l0_1.length c0_1] 25 (0, 0)) (pB Q01) k_ hk, Kd.freshB (g := Q0a) (o := .cells #[.slice A1_0 l1_0.length c1_0, .slice A1_1 l1_1.length c1_1] 25 (0, 0)) (pB Q00) k_ hk, Kd.freshB (g := Q06) (o := .cells #[.slice none 0 0, .slice none 0 0] 25 (0, 0)) (pB Q02) k_ hk, Kd.freshB (g := Q07) (o := .cells #[.slice none 0 0, .slice none 0 0] 29 (0, 0)) (pB Q03) k_ hk, Kd.freshB (g := Q08) (o := .cells #[.slice none 0 0, .slice none 0 0] 29 (0, 0)) (pB Q04) k_ hk, Kd.freshB (g := Q05) (o := .cells #[.slice none 0 0, .slice none 0 0] 25 (0, 0)) (pB Q0g) k_ hk⟩) _ (Nat.le_refl _)) (Below.refl _ _) (Nat.le_refl _) (by simp) ?_; (case hd => rfl); (case hg => rfl); (case hr => first | (go_simp; done) | (go_simp; rfl)); (case hp => exact (Reps.one (show Kd.FK (Kd.slice 3 (Kd.int .i64)) _ _ l0_0 [.slice A0_0 l0_0.length c0_0] from (Kd.FK_slice_mk (Kd.V_reads' (Kd.V_mono (ok' := (fun k_ => ((P0_0_ k_ ∨ P0_1_ k_ ∨ P1_0_ k_ ∨ P1_1_ k_) ∨ w.heap.size ≤ k_) ∧ k_ ≠ Q0b ∧ k_ ≠ Q0a ∧ k_ ≠ Q06 ∧ k_ ≠ Q07 ∧ k_ ≠ Q08 ∧ k_ ≠ Q05)) (Q0d.out) (fun k_ hk => ⟨hk.1.1, ⟨hk.1.2.1, ⟨hk.1.2.2.1, ⟨hk.1.2.2.2.1, ⟨hk.1.2.2.2.2.1, ⟨hk.1.2.2.2.2.2, hk.2⟩⟩⟩⟩⟩⟩))).2.1 (Kd.V_F (Kd.V_mono (ok' := (fun k_ => ((P0_0_ k_ ∨ P0_1_ k_ ∨ P1_0_ k_ ∨ P1_1_ k_) ∨ w.heap.size ≤ k_) ∧ k_ ≠ Q0b ∧ k_ ≠ Q0a ∧ k_ ≠ Q06 ∧ k_ ≠ Q07 ∧ k_ ≠ Q08 ∧ k_ ≠ Q05)) (Q0d.out) (fun k_ hk => ⟨hk.1.1, ⟨hk.1.2.1, ⟨hk.1.2.2.1, ⟨hk.1.2.2.2.1, ⟨hk.1.2.2.2.2.1, ⟨hk.1.2.2.2.2.2, hk.2⟩⟩⟩⟩⟩⟩))))) (Reps.one (show Kd.FK (Kd.slice 3 (Kd.int .i64)) _ _ l1_0 [.slice A1_0 l1_0.length c1_0] from (Kd.FK_slice_mk (Kd.V_reads' (Kd.V_mono (ok' := (fun k_ => ((P0_0_ k_ ∨ P0_1_ k_ ∨ P1_0_ k_ ∨ P1_1_ k_) ∨ w.heap.size ≤ k_) ∧ k_ ≠ Q0b ∧ k_ ≠ Q0a ∧ k_ ≠ Q06 ∧ k_ ≠ Q07 ∧ k_ ≠ Q08 ∧ k_ ≠ Q05)) (Q0e.out) (fun k_ hk => ⟨hk.1.1, ⟨hk.1.2.1, ⟨hk.1.2.2.1, ⟨hk.1.2.2.2.1, ⟨hk.1.2.2.2.2.1, ⟨hk.1.2.2.2.2.2, hk.2⟩⟩⟩⟩⟩⟩))).2.1 (Kd.V_F (Kd.V_mono (ok' := (fun k_ => ((P0_0_ k_ ∨ P0_1_ k_ ∨ P1_0_ k_ ∨ P1_1_ k_) ∨ w.heap.size ≤ k_) ∧ k_ ≠ Q0b ∧ k_ ≠ Q0a ∧ k_ ≠ Q06 ∧ k_ ≠ Q07 ∧ k_ ≠ Q08 ∧ k_ ≠ Q05)) (Q0e.out) (fun k_ hk => ⟨hk.1.1, ⟨hk.1.2.1, ⟨hk.1.2.2.1, ⟨hk.1.2.2.2.1, ⟨hk.1.2.2.2.2.1, ⟨hk.1.2.2.2.2.2, hk.2⟩⟩⟩⟩⟩⟩))))) (Reps.none _ _))))
         intro v113 w83 ho84 hb hg_ hnew_
         clear hg_ hnew_
         (first | rw [← Ny112.out] at ho84 | (simp only [Int.reduceToNat] at ho84; rw [← Ny112.out] at ho84))
         replace Q0d := eV Q0d (Kd.N_base ho84) hb
         replace Q0c := eV Q0c (Kd.N_base ho84) hb
         replace Q0e := eV Q0e (Kd.N_base ho84) hb
         replace Q0f := eV Q0f (Kd.N_base ho84) hb
         have Q10 := Aside0.mk (Kd.N_lower ho84 (below_size (pH HB)))
         replace Q01 := uB Q01 hb
         replace Q00 := uB Q00 hb
         replace Q02 := uB Q02 hb
         replace Q03 := uB Q03 hb
         replace Q04 := uB Q04 hb
         replace Q0g := uB Q0g hb
         replace HB := uH HB hb
         clear hb ho84
         obtain ⟨Q3a, Q3b, Q3c⟩ := Kd.N_slice Q10.out
         (first | subst Q3c | (injection Q3c with f1_ f2_ f3_; have f4_ := f1_.symm; have f5_ := f3_.symm; clear f1_ f2_ f3_; subst f4_; subst f5_))
         refine hK.out _ _ ⟨(blk_cell Q01.out 0).trans rfl, (blk_cell Q01.out 1).trans rfl, (blk_cell Q00.out 0).trans rfl, (blk_cell Q00.out 1).trans rfl⟩ (fun hHeld => ?_)
         clear hK K
         refine norm_ (a' := ?_) ?_ ?_
         rotate_left
         ·show Act.put _ (some 62) _ = _
          simp only [Act.put, List.setIfInBounds_toArray, List.set_cons_zero, List.set_cons_succ, i64_w, i32_w]
          rfl
         refine one_ (i := 5) (N := some 63) #[true, true, true, true, true, true, true, true, false, false, true, false] rfl rfl (one_of HT_.out (by kernel_rfl)) (by decide) (fun K hK => ?_)
         refine goes_ Try.func55 (by kernel_rfl) rfl #[.slice Q3a y112.length Q3b] (by rfl) rfl rfl aM ?_
         with_reducible refine (slices_Concat_int_int.calls _ _ y112 t115 _ ?side1 ?side2 A79.out).mono ?_
         (case side1 => repeat (first | exact (Kd.N_reads' Q10.out).2.2 | (with_reducible refine cA ?_ _) | (with_reducible refine cN ?_ _) | (with_reducible refine cD ?_)))
         (case side2 => exact (Kd.N_reads' Q10.out).2.1)
         rintro e w86 ⟨v116, rfl, ho0, hb⟩
         refine ⟨_, rfl, ?_⟩
         replace Q0d := eV Q0d (Kd.R_base ho0) hb
         replace Q0c := eV Q0c (Kd.R_base ho0) hb
         replace Q0e := eV Q0e (Kd.R_base ho0) hb
         replace Q0f := eV Q0f (Kd.R_base ho0) hb
         replace Q10 := eN Q10 (Kd.R_base ho0) hb
         have Q13 := Aside0.mk (Kd.R_lower (Kd.R_newM (M := fun k_ => (w.heap.size ≤ k_)) ho0 (below_size (pH HB)) (fun k_ h_ => h_)) (below_size (pH HB)))
         replace Q01 := uB Q01 hb
         replace Q00 := uB Q00 hb
         replace Q02 := uB Q02 hb
         replace Q03 := uB Q03 hb
         replace Q04 := uB Q04 hb
         replace Q0g := uB Q0g hb
         replace HB := uH HB hb
         (try clear hb)
         (try clear hb2)
         (try clear hk)
         (try clear hi)
         (try clear ho0)
         refine hK.out _ _ ⟨(blk_cell Q01.out 0).trans rfl, (blk_cell Q01.out 1).trans rfl, (blk_cell Q00.out 0).trans rfl, (blk_cell Q00.out 1).trans rfl⟩ (fun hHeld => ?_)
         clear hK K
         refine norm_ (a' := ?_) ?_ ?_
         rotate_left
         ·show Act.put _ (some 63) _ = _
          simp only [Act.put, List.setIfInBounds_toArray, List.set_cons_zero, List.set_cons_succ, i64_w, i32_w]
          rfl
         refine one_ (i := 8) (N := some 66) #[true, true, true, true, true, true, true, true, true, false, true, false] rfl rfl (one_of HT_.out (by kernel_rfl)) (by decide) (fun K hK => ?_)
         refine goes_ Try.func46 (by kernel_rfl) rfl #[.slice A0_1 l0_1.length c0_1] (by rfl) rfl rfl aM ?_
         with_reducible refine (api_Edge_46.calls _ _ l0_1 t118 _ ?side1 ?side2 A80.out).mono ?_
         (case side1 => repeat (first | exact (Kd.V_reads' Q0c.out).2.2 | (with_reducible refine cA ?_ _) | (with_reducible refine cN ?_ _) | (with_reducible refine cD ?_)))
         (case side2 => exact (Kd.V_reads' Q0c.out).2.1)
         rintro e w87 ⟨v119, rfl, ho0, hb⟩
         refine ⟨_, rfl, ?_⟩
         replace Q0d := eV Q0d (Kd.R_base ho0) hb
         replace Q0c := eV Q0c (Kd.R_base ho0) hb
         replace Q0e := eV Q0e (Kd.R_base ho0) hb
         replace Q0f := eV Q0f (Kd.R_base ho0) hb
         replace Q10 := eN Q10 (Kd.R_base ho0) hb
         replace Q13 := uR Q13 hb
         have Q1b := Aside0.mk (Kd.R_lower (Kd.R_newM (M := fun k_ => (w.heap.size ≤ k_)) ho0 (below_size (pH HB)) (fun k_ h_ => h_)) (below_size (pH HB)))
         replace Q01 := uB Q01 hb
         replace Q00 := uB Q00 hb
         replace Q02 := uB Q02 hb
         replace Q03 := uB Q03 hb
         replace Q04 := uB Q04 hb
         replace Q0g := uB Q0g hb
         replace HB := uH HB hb
         (try clear hb)
         (try clear hb2)
         (try clear hk)
         (try clear hi)
         (try clear ho0)
         obtain ⟨Q2t, Q2u, Q1y⟩ := Kd.R_slice Q1b.out
         (first | subst Q1y | (injection Q1y with f1_ f2_ f3_; have f4_ := f1_.symm; have f5_ := f3_.symm; clear f1_ f2_ f3_; subst f4_; subst f5_))
         obtain ⟨Q38, Q39, Q2c⟩ := Kd.R_slice Q13.out
         (first | subst Q2c | (injection Q2c with f1_ f2_ f3_; have f4_ := f1_.symm; have f5_ := f3_.symm; clear f1_ f2_ f3_; subst f4_; subst f5_))
         refine hK.out _ _ ⟨(blk_cell Q01.out 0).trans rfl, (blk_cell Q01.out 1).trans rfl, (blk_cell Q00.out 0).trans rfl, (blk_cell Q00.out 1).trans rfl⟩ (fun hHeld => ?_)
         clear hK K
         refine norm_ (a' := ?_) ?_ ?_
         rotate_left
         ·show Act.put _ (some 66) _ = _
          simp only [Act.put, List.setIfInBounds_toArray, List.set_cons_zero, List.set_cons_succ, i64_w, i32_w]
          rfl
         refine pure_ (i := 9) (N := some 67) (v := ?_) (a' := ?_) #[true, true, true, true, true, true, true, true, true, true, true, false] rfl rfl (any_of HT_.out (by kernel_rfl)) (fun _ _ _ h => h) (Or.inl ⟨by rfl, ?_⟩) ?_ ?_
         rotate_left
         ·intro w'
          go_simp
          with_reducible rfl
         rotate_left
         ·simp only [Act.put, List.setIfInBounds_toArray, List.set_cons_zero, List.set_cons_succ, i64_w, i32_w]
          rfl
         exact norm_ (by simp only [putAll, Act.put, List.setIfInBounds_toArray, List.set_cons_zero, List.set_cons_succ]) (hCont (.slice Q3a y112.length Q3b, .slice Q38 t115.length Q39, .slice Q2t t118.length Q2u, Q05) _ ⟨hHeld, (by (with_reducible repeat (first | apply Kd.N_alloc | apply Kd.N_drewN | apply Kd.N_drew)); exact Kd.N_mono Q10.out (fun _ hk => ⟨hk.1.1.1, ⟨hk.1.2, ⟨hk.2, ⟨hk.1.1.2.1, ⟨hk.1.1.2.2.1, ⟨hk.1.1.2.2.2.1, ⟨hk.1.1.2.2.2.2.1, ⟨hk.1.1.2.2.2.2.2.1, hk.1.1.2.2.2.2.2.2⟩⟩⟩⟩⟩⟩⟩⟩)), (by (with_reducible repeat (first | apply rA | apply rN | apply rD)); exact Kd.R_mono Q13.out (fun _ hk => hk.1)), (by (with_reducible repeat (first | apply rA | apply rN | apply rD)); exact Kd.R_mono Q1b.out (fun _ hk => hk.1)), (by (with_reducible repeat (first | apply Kd.V_alloc | apply Kd.V_drewN | apply Kd.V_drew)); exact Kd.V_mono Q0d.out (fun _ hk => ⟨hk.1.1.1.1.1, ⟨hk.1.1.2, ⟨hk.1.2, ⟨hk.2, ⟨hk.1.1.1.1.2.1, ⟨hk.1.1.1.1.2.2.1, ⟨hk.1.1.1.1.2.2.2.1, ⟨hk.1.1.1.1.2.2.2.2.1, ⟨hk.1.1.1.1.2.2.2.2.2, hk.1.1.1.2⟩⟩⟩⟩⟩⟩⟩⟩⟩)), (by (with_reducible repeat (first | apply Kd.V_alloc | apply Kd.V_drewN | apply Kd.V_drew)); exact Kd.V_mono Q0c.out (fun _ hk => ⟨hk.1.1.1.1.1, ⟨hk.1.1.2, ⟨hk.1.2, ⟨hk.2, ⟨hk.1.1.1.1.2.1, ⟨hk.1.1.1.1.2.2.1, ⟨hk.1.1.1.1.2.2.2.1, ⟨hk.1.1.1.1.2.2.2.2.1, ⟨hk.1.1.1.1.2.2.2.2.2, hk.1.1.1.2⟩⟩⟩⟩⟩⟩⟩⟩⟩)), (by (with_reducible repeat (first | apply Kd.V_alloc | apply Kd.V_drewN | apply Kd.V_drew)); exact Kd.V_mono Q0e.out (fun _ hk => ⟨hk.1.1.1.1.1, ⟨hk.1.1.2, ⟨hk.1.2, ⟨hk.2, ⟨hk.1.1.1.1.2.1, ⟨hk.1.1.1.1.2.2.1, ⟨hk.1.1.1.1.2.2.2.1, ⟨hk.1.1.1.1.2.2.2.2.1, ⟨hk.1.1.1.1.2.2.2.2.2, hk.1.1.1.2⟩⟩⟩⟩⟩⟩⟩⟩⟩)), (by (with_reducible repeat (first | apply Kd.V_alloc | apply Kd.V_drewN | apply Kd.V_drew)); exact Kd.V_mono Q0f.out (fun _ hk => ⟨hk.1.1.1.1.1, ⟨hk.1.1.2, ⟨hk.1.2, ⟨hk.2, ⟨hk.1.1.1.1.2.1, ⟨hk.1.1.1.1.2.2.1, ⟨hk.1.1.1.1.2.2.2.1, ⟨hk.1.1.1.1.2.2.2.2.1, ⟨hk.1.1.1.1.2.2.2.2.2, hk.1.1.1.2⟩⟩⟩⟩⟩⟩⟩⟩⟩)), (pB Q01), (pB Q00), (pB Q02), (pB Q03), (pB Q04), (pB Q0g), Q2b.out, Q24.out, Q17.out, Q1z.out, Q14.out, Q1u.out, Q1c.out, Q18.out, Q1d.out, Q19.out, Q1e.out, Q1a.out, (pH HB)⟩)
       rintro ⟨v113, v116, v119, Q05⟩ w90 ⟨hS_, h0_, h1_, h2_, h3_, h4_, h5_, h6_, h7_, h8_, h9_, h10_, h11_, h12_, h13_, h14_, h15_, h16_, h17_, h18_, h19_, h20_, h21_, h22_, h23_, h24_, h25_⟩
       have n0_ : Aside0 (Kd.N (Kd.slice 3 (Kd.int .i64)) 22 w90 w.heap.size (fun k_ => ((P0_0_ k_ ∨ P0_1_ k_ ∨ P1_0_ k_ ∨ P1_1_ k_) ∨ w.heap.size ≤ k_) ∧ some k_ ≠ (v116 : Value).ownBlock ∧ some k_ ≠ (v119 : Value).ownBlock ∧ k_ ≠ Q0b ∧ k_ ≠ Q0a ∧ k_ ≠ Q06 ∧ k_ ≠ Q07 ∧ k_ ≠ Q08 ∧ k_ ≠ Q05) v113 y112) := ⟨h0_⟩
       have n1_ : Aside0 (Kd.R (Kd.int .i64) 3 w90 w.heap.size (fun k_ => (w.heap.size ≤ k_)) v116 t115) := ⟨h1_⟩
       have n2_ : Aside0 (Kd.R k38 38 w90 w.heap.size (fun k_ => (w.heap.size ≤ k_)) v119 t118) := ⟨h2_⟩
       have n3_ : Aside0 (Kd.V (Kd.int .i64) 3 w90 w.heap.size (fun k_ => ((P0_0_ k_ ∨ P0_1_ k_ ∨ P1_0_ k_ ∨ P1_1_ k_) ∨ w.heap.size ≤ k_) ∧ some k_ ≠ (v113 : Value).ownBlock ∧ some k_ ≠ (v116 : Value).ownBlock ∧ some k_ ≠ (v119 : Value).ownBlock ∧ k_ ≠ Q0b ∧ k_ ≠ Q0a ∧ k_ ≠ Q06 ∧ k_ ≠ Q07 ∧ k_ ≠ Q08 ∧ k_ ≠ Q05) (.slice A0_0 l0_0.length c0_0) l0_0) := ⟨h3_⟩
       have n4_ : Aside0 (Kd.V k38 38 w90 w.heap.size (fun k_ => ((P0_0_ k_ ∨ P0_1_ k_ ∨ P1_0_ k_ ∨ P1_1_ k_) ∨ w.heap.size ≤ k_) ∧ some k_ ≠ (v113 : Value).ownBlock ∧ some k_ ≠ (v116 : Value).ownBlock ∧ some k_ ≠ (v119 : Value).ownBlock ∧ k_ ≠ Q0b ∧ k_ ≠ Q0a ∧ k_ ≠ Q06 ∧ k_ ≠ Q07 ∧ k_ ≠ Q08 ∧ k_ ≠ Q05) (.slice A0_1 l0_1.length c0_1) l0_1) := ⟨h4_⟩
       have n5_ : Aside0 (Kd.V (Kd.int .i64) 3 w90 w.heap.size (fun k_ => ((P0_0_ k_ ∨ P0_1_ k_ ∨ P1_0_ k_ ∨ P1_1_ k_) ∨ w.heap.size ≤ k_) ∧ some k_ ≠ (v113 : Value).ownBlock ∧ some k_ ≠ (v116 : Value).ownBlock ∧ some k_ ≠ (v119 : Value).ownBlock ∧ k_ ≠ Q0b ∧ k_ ≠ Q0a ∧ k_ ≠ Q06 ∧ k_ ≠ Q07 ∧ k_ ≠ Q08 ∧ k_ ≠ Q05) (.slice A1_0 l1_0.length c1_0) l1_0) := ⟨h5_⟩
       have n6_ : Aside0 (Kd.V k38 38 w90 w.heap.size (fun k_ => ((P0_0_ k_ ∨ P0_1_ k_ ∨ P1_0_ k_ ∨ P1_1_ k_) ∨ w.heap.size ≤ k_) ∧ some k_ ≠ (v113 : Value).ownBlock ∧ some k_ ≠ (v116 : Value).ownBlock ∧ some k_ ≠ (v119 : Value).ownBlock ∧ k_ ≠ Q0b ∧ k_ ≠ Q0a ∧ k_ ≠ Q06 ∧ k_ ≠ Q07 ∧ k_ ≠ Q08 ∧ k_ ≠ Q05) (.slice A1_1 l1_1.length c1_1) l1_1) := ⟨h6_⟩
       have n7_ : Aside0 (w90.heap[Q0b]? = some (.cells #[.slice A0_0 l0_0.length c0_0, .slice A0_1 l0_1.length c0_1] 25 (0, 0))) := ⟨h7_⟩
       have n8_ : Aside0 (w90.heap[Q0a]? = some (.cells #[.slice A1_0 l1_0.length c1_0, .slice A1_1 l1_1.length c1_1] 25 (0, 0))) := ⟨h8_⟩
       have n9_ : Aside0 (w90.heap[Q06]? = some (.cells #[.slice none 0 0, .slice none 0 0] 25 (0, 0))) := ⟨h9_⟩
       have n10_ : Aside0 (w90.heap[Q07]? = some (.cells #[.slice none 0 0, .slice none 0 0] 29 (0, 0))) := ⟨h10_⟩
       have n11_ : Aside0 (w90.heap[Q08]? = some (.cells #[.slice none 0 0, .slice none 0 0] 29 (0, 0))) := ⟨h11_⟩
       have n12_ : Aside0 (w90.heap[Q05]? = some (.cells #[.slice none 0 0, .slice none 0 0] 25 (0, 0))) := ⟨h12_⟩
       have n13_ : Aside0 (w.heap.size ≤ Q05) := ⟨h13_⟩
       have n14_ : Aside0 (w.heap.size ≤ Q05) := ⟨h14_⟩
       have n15_ : Aside0 (Q0b ≠ Q05) := ⟨h15_⟩
       have n16_ : Aside0 (Q05 ≠ Q0b) := ⟨h16_⟩
       have n17_ : Aside0 (Q0a ≠ Q05) := ⟨h17_⟩
       have n18_ : Aside0 (Q05 ≠ Q0a) := ⟨h18_⟩
       have n19_ : Aside0 (Q06 ≠ Q05) := ⟨h19_⟩
       have n20_ : Aside0 (Q05 ≠ Q06) := ⟨h20_⟩
       have n21_ : Aside0 (Q07 ≠ Q05) := ⟨h21_⟩
       have n22_ : Aside0 (Q05 ≠ Q07) := ⟨h22_⟩
       have n23_ : Aside0 (Q08 ≠ Q05) := ⟨h23_⟩
       have n24_ : Aside0 (Q05 ≠ Q08) := ⟨h24_⟩
       have n25_ : Aside0 (Below w.heap.size w w90) := ⟨h25_⟩
       clear Q0d
       clear Q0c
       clear Q0e
       clear Q0f
       clear Q01
       clear Q00
       clear Q02
       clear Q03
       clear Q04
       clear HB
       clear h0_ h1_ h2_ h3_ h4_ h5_ h6_ h7_ h8_ h9_ h10_ h11_ h12_ h13_ h14_ h15_ h16_ h17_ h18_ h19_ h20_ h21_ h22_ h23_ h24_ h25_
       have Q10 := n0_
       have Q13 := n1_
       have Q1b := n2_
       have Q0d := n3_
       have Q0c := n4_
       have Q0e := n5_
       have Q0f := n6_
       have Q01 := n7_
       have Q00 := n8_
       have Q02 := n9_
       have Q03 := n10_
       have Q04 := n11_
       have Q0g := n12_
       have Q2b := n13_
       have Q24 := n14_
       have Q17 := n15_
       have Q1z := n16_
       have Q14 := n17_
       have Q1u := n18_
       have Q1c := n19_
       have Q18 := n20_
       have Q1d := n21_
       have Q19 := n22_
       have Q1e := n23_
       have Q1a := n24_
       have HB := n25_
       clear n0_ n1_ n2_ n3_ n4_ n5_ n6_ n7_ n8_ n9_ n10_ n11_ n12_ n13_ n14_ n15_ n16_ n17_ n18_ n19_ n20_ n21_ n22_ n23_ n24_ n25_
       have hHeld : w90.cell? ⟨Q0b, 0, none⟩ = some (.slice A0_0 l0_0.length c0_0) ∧ w90.cell? ⟨Q0b, 1, none⟩ = some (.slice A0_1 l0_1.length c0_1) ∧ w90.cell? ⟨Q0a, 0, none⟩ = some (.slice A1_0 l1_0.length c1_0) ∧ w90.cell? ⟨Q0a, 1, none⟩ = some (.slice A1_1 l1_1.length c1_1) := hS_
       obtain ⟨Q2d, Q2e, Q4k⟩ := Kd.R_slice Q1b.out
       (first | subst Q4k | (injection Q4k with f1_ f2_ f3_; have f4_ := f1_.symm; have f5_ := f3_.symm; clear f1_ f2_ f3_; subst f4_; subst f5_))
       obtain ⟨Q0n, Q0o, Q4l⟩ := Kd.R_slice Q13.out
       (first | subst Q4l | (injection Q4l with f1_ f2_ f3_; have f4_ := f1_.symm; have f5_ := f3_.symm; clear f1_ f2_ f3_; subst f4_; subst f5_))
       refine norm_ (a' := ?_) ?_ ?_
       rotate_left
       ·simp only [putAll, Act.put, List.setIfInBounds_toArray, List.set_cons_zero, List.set_cons_succ]
        rfl
       refine one_ (i := 11) (N := none) #[true, true, true, true, true, true, true, true, true, true, true, true] rfl rfl (one_of HT_.out (by kernel_rfl)) (by decide) (fun K hK => ?_)
       have Q95 : w90.cell? ⟨Q05, 0, none⟩ = some (.slice none 0 0) := (blk_cell Q0g.out 0).trans rfl
       have Q96 := blk_frozen Q0g.out 0
       have Q97 := Q17.out
       have Q98 := Q14.out
       have Q99 := Q1c.out
       have Q9a := Q1d.out
       have Q9b := Q1e.out
       have Q9c := Q1z.out
       have Q9d := Q1u.out
       have Q9e := Q18.out
       have Q9f := Q19.out
       have Q9g := Q1a.out
       have Q9h : w90.cell? ⟨Q05, 1, none⟩ = some (.slice none 0 0) := (blk_cell Q0g.out 1).trans rfl
       have Q9i := blk_frozen Q0g.out 1
       have Q9j := Q17.out
       have Q9k := Q14.out
       have Q9l := Q1c.out
       have Q9m := Q1d.out
       have Q9n := Q1e.out
       have Q9o := Q1z.out
       have Q9p := Q1u.out
       have Q9q := Q18.out
       have Q9r := Q19.out
       have Q9s := Q1a.out
       refine skip_ (w1 := ?_) (by rfl) rfl ?_ ?_
       rotate_left
       ·go_simp
        rfl
       refine hK.out _ _ ⟨((cell_far (p := ⟨Q05, _, none⟩) Q17.out _).trans (((cell_far (p := ⟨Q05, _, none⟩) Q17.out _).trans (hHeld.1)))), ((cell_far (p := ⟨Q05, _, none⟩) Q17.out _).trans (((cell_far (p := ⟨Q05, _, none⟩) Q17.out _).trans (hHeld.2.1)))), ((cell_far (p := ⟨Q05, _, none⟩) Q14.out _).trans (((cell_far (p := ⟨Q05, _, none⟩) Q14.out _).trans (hHeld.2.2.1)))), ((cell_far (p := ⟨Q05, _, none⟩) Q14.out _).trans (((cell_far (p := ⟨Q05, _, none⟩) Q14.out _).trans (hHeld.2.2.2))))⟩ (fun hHeld => ?_)
       clear hK K
       refine done_ (done_of HT_.out (by kernel_rfl)) ?_
       have Q9t := Q3k.out
       have Q9u := Q3j.out
       have Q9v := Q25.out
       have Q9w := Q26.out
       have Q9x := Q27.out
       have Q9y := Q28.out
       have Q9z := Q29.out
       have Qa0 := Q2a.out
       have Qa1 := Q14.out
       have Qa2 := Q1u.out
       have Q5r : w90.cell? ⟨Q0a, 0, none⟩ = some (.slice A1_0 l1_0.length c1_0) := (blk_cell Q00.out 0).trans rfl
       have Q5s : w90.cell? ⟨Q0a, 1, none⟩ = some (.slice A1_1 l1_1.length c1_1) := (blk_cell Q00.out 1).trans rfl
       have Q5t := blk_frozen Q00.out 0
       have Q5u := blk_frozen Q00.out 1
       try go_wp2
       go_loopg [71] kj52 (fun kq v71 w' => ∃ (x71_3 : Int) (x122001_3 : List (S38)) (u122001 : Value), v71 = .int .i64 x71_3 ∧ Aside0 (graph_Union.l1 kq (l0_0.length : Int) (l0_1.length : Int) l1_1 (l1_1.length : Int) x71_3 l1_0 l1_1 t115 x122001_3 = some (r1, r2, r3, r4, r5, r6, r7)) ∧ Aside0 (kq ≤ kj52) ∧ Aside0 (Kd.V k38 38 w' w.heap.size (fun k_ => ((P0_0_ k_ ∨ P0_1_ k_ ∨ P1_0_ k_ ∨ P1_1_ k_) ∨ w.heap.size ≤ k_) ∧ some k_ ≠ ((.slice Q0n t115.length Q0o) : Value).ownBlock ∧ some k_ ≠ (u122001 : Value).ownBlock ∧ k_ ≠ Q0b ∧ k_ ≠ Q0a ∧ k_ ≠ Q06 ∧ k_ ≠ Q07 ∧ k_ ≠ Q08 ∧ k_ ≠ Q05) (.slice A1_1 l1_1.length c1_1) l1_1) ∧ Aside0 (Kd.V (Kd.int .i64) 3 w' w.heap.size (fun k_ => ((P0_0_ k_ ∨ P0_1_ k_ ∨ P1_0_ k_ ∨ P1_1_ k_) ∨ w.heap.size ≤ k_) ∧ some k_ ≠ ((.slice Q0n t115.length Q0o) : Value).ownBlock ∧ some k_ ≠ (u122001 : Value).ownBlock ∧ k_ ≠ Q0b ∧ k_ ≠ Q0a ∧ k_ ≠ Q06 ∧ k_ ≠ Q07 ∧ k_ ≠ Q08 ∧ k_ ≠ Q05) (.slice A0_0 l0_0.length c0_0) l0_0) ∧ Aside0 (Kd.V k38 38 w' w.heap.size (fun k_ => ((P0_0_ k_ ∨ P0_1_ k_ ∨ P1_0_ k_ ∨ P1_1_ k_) ∨ w.heap.size ≤ k_) ∧ some k_ ≠ ((.slice Q0n t115.length Q0o) : Value).ownBlock ∧ some k_ ≠ (u122001 : Value).ownBlock ∧ k_ ≠ Q0b ∧ k_ ≠ Q0a ∧ k_ ≠ Q06 ∧ k_ ≠ Q07 ∧ k_ ≠ Q08 ∧ k_ ≠ Q05) (.slice A0_1 l0_1.length c0_1) l0_1) ∧ Aside0 (Kd.V (Kd.int .i64) 3 w' w.heap.size (fun k_ => ((P0_0_ k_ ∨ P0_1_ k_ ∨ P1_0_ k_ ∨ P1_1_ k_) ∨ w.heap.size ≤ k_) ∧ some k_ ≠ ((.slice Q0n t115.length Q0o) : Value).ownBlock ∧ some k_ ≠ (u122001 : Value).ownBlock ∧ k_ ≠ Q0b ∧ k_ ≠ Q0a ∧ k_ ≠ Q06 ∧ k_ ≠ Q07 ∧ k_ ≠ Q08 ∧ k_ ≠ Q05) (.slice A1_0 l1_0.length c1_0) l1_0) ∧ Aside0 (Kd.V k38 38 w' w.heap.size (fun k_ => ((P0_0_ k_ ∨ P0_1_ k_ ∨ P1_0_ k_ ∨ P1_1_ k_) ∨ w.heap.size ≤ k_) ∧ some k_ ≠ ((.slice Q0n t115.length Q0o) : Value).ownBlock ∧ some k_ ≠ (u122001 : Value).ownBlock ∧ k_ ≠ Q0b ∧ k_ ≠ Q0a ∧ k_ ≠ Q06 ∧ k_ ≠ Q07 ∧ k_ ≠ Q08 ∧ k_ ≠ Q05) (.slice A1_1 l1_1.length c1_1) l1_1) ∧ Aside0 (Kd.R (Kd.int .i64) 3 w' w.heap.size (fun k_ => (w.heap.size ≤ k_)) (.slice Q0n t115.length Q0o) t115) ∧ Aside0 (Kd.R k38 38 w' w.heap.size (fun k_ => (w.heap.size ≤ k_)) u122001 x122001_3) ∧ Aside0 (w'.heap[Q0b]? = some (.cells #[(.slice A0_0 l0_0.length c0_0), (.slice A0_1 l0_1.length c0_1)] 25 (0, 0))) ∧ Aside0 (w'.heap[Q0a]? = some (.cells #[(.slice A1_0 l1_0.length c1_0), (.slice A1_1 l1_1.length c1_1)] 25 (0, 0))) ∧ Aside0 (w'.heap[Q06]? = some (.cells #[(.slice none 0 0), (.slice none 0 0)] 25 (0, 0))) ∧ Aside0 (w'.heap[Q07]? = some (.cells #[(.slice none 0 0), (.slice none 0 0)] 29 (0, 0))) ∧ Aside0 (w'.heap[Q08]? = some (.cells #[(.slice none 0 0), (.slice none 0 0)] 29 (0, 0))) ∧ Aside0 (w'.heap[Q05]? = some (.cells #[(.slice Q0n t115.length Q0o), u122001] 25 (0, 0))) ∧ Aside0 (Below w.heap.size w w'))
       case atStart => exact ⟨(0), (t118), (.slice Q2d t118.length Q2e), rS, H', ⟨Nat.le_refl _⟩, ⟨by (with_reducible repeat (first | apply Kd.V_alloc | apply Kd.V_drewN | apply Kd.V_drew)); exact Kd.V_mono (Kd.V_far (p := ⟨Q05, 1, none⟩) (Kd.V_far (p := ⟨Q05, 0, none⟩) (Kd.V_mono Q0f.out (fun k_ hk => (⟨hk, hk.2.2.2.2.2.2.2.2.2⟩ : _ ∧ k_ ≠ Q05))) (fun _ hk => hk.2) (.slice Q0n t115.length Q0o)) (fun _ hk => hk.2) (.slice Q2d t118.length Q2e)) (fun _ hk => ⟨hk.1.1, ⟨hk.1.2.2.1, ⟨hk.1.2.2.2.1, ⟨hk.1.2.2.2.2.1, ⟨hk.1.2.2.2.2.2.1, ⟨hk.1.2.2.2.2.2.2.1, ⟨hk.1.2.2.2.2.2.2.2.1, ⟨hk.1.2.2.2.2.2.2.2.2.1, hk.1.2.2.2.2.2.2.2.2.2⟩⟩⟩⟩⟩⟩⟩⟩)⟩, ⟨by (with_reducible repeat (first | apply Kd.V_alloc | apply Kd.V_drewN | apply Kd.V_drew)); exact Kd.V_mono (Kd.V_far (p := ⟨Q05, 1, none⟩) (Kd.V_far (p := ⟨Q05, 0, none⟩) (Kd.V_mono Q0d.out (fun k_ hk => (⟨hk, hk.2.2.2.2.2.2.2.2.2⟩ : _ ∧ k_ ≠ Q05))) (fun _ hk => hk.2) (.slice Q0n t115.length Q0o)) (fun _ hk => hk.2) (.slice Q2d t118.length Q2e)) (fun _ hk => ⟨hk.1.1, ⟨hk.1.2.2.1, ⟨hk.1.2.2.2.1, ⟨hk.1.2.2.2.2.1, ⟨hk.1.2.2.2.2.2.1, ⟨hk.1.2.2.2.2.2.2.1, ⟨hk.1.2.2.2.2.2.2.2.1, ⟨hk.1.2.2.2.2.2.2.2.2.1, hk.1.2.2.2.2.2.2.2.2.2⟩⟩⟩⟩⟩⟩⟩⟩)⟩, ⟨by (with_reducible repeat (first | apply Kd.V_alloc | apply Kd.V_drewN | apply Kd.V_drew)); exact Kd.V_mono (Kd.V_far (p := ⟨Q05, 1, none⟩) (Kd.V_far (p := ⟨Q05, 0, none⟩) (Kd.V_mono Q0c.out (fun k_ hk => (⟨hk, hk.2.2.2.2.2.2.2.2.2⟩ : _ ∧ k_ ≠ Q05))) (fun _ hk => hk.2) (.slice Q0n t115.length Q0o)) (fun _ hk => hk.2) (.slice Q2d t118.length Q2e)) (fun _ hk => ⟨hk.1.1, ⟨hk.1.2.2.1, ⟨hk.1.2.2.2.1, ⟨hk.1.2.2.2.2.1, ⟨hk.1.2.2.2.2.2.1, ⟨hk.1.2.2.2.2.2.2.1, ⟨hk.1.2.2.2.2.2.2.2.1, ⟨hk.1.2.2.2.2.2.2.2.2.1, hk.1.2.2.2.2.2.2.2.2.2⟩⟩⟩⟩⟩⟩⟩⟩)⟩, ⟨by (with_reducible repeat (first | apply Kd.V_alloc | apply Kd.V_drewN | apply Kd.V_drew)); exact Kd.V_mono (Kd.V_far (p := ⟨Q05, 1, none⟩) (Kd.V_far (p := ⟨Q05, 0, none⟩) (Kd.V_mono Q0e.out (fun k_ hk => (⟨hk, hk.2.2.2.2.2.2.2.2.2⟩ : _ ∧ k_ ≠ Q05))) (fun _ hk => hk.2) (.slice Q0n t115.length Q0o)) (fun _ hk => hk.2) (.slice Q2d t118.length Q2e)) (fun _ hk => ⟨hk.1.1, ⟨hk.1.2.2.1, ⟨hk.1.2.2.2.1, ⟨hk.1.2.2.2.2.1, ⟨hk.1.2.2.2.2.2.1, ⟨hk.1.2.2.2.2.2.2.1, ⟨hk.1.2.2.2.2.2.2.2.1, ⟨hk.1.2.2.2.2.2.2.2.2.1, hk.1.2.2.2.2.2.2.2.2.2⟩⟩⟩⟩⟩⟩⟩⟩)⟩, ⟨by (with_reducible repeat (first | apply Kd.V_alloc | apply Kd.V_drewN | apply Kd.V_drew)); exact Kd.V_mono (Kd.V_far (p := ⟨Q05, 1, none⟩) (Kd.V_far (p := ⟨Q05, 0, none⟩) (Kd.V_mono Q0f.out (fun k_ hk => (⟨hk, hk.2.2.2.2.2.2.2.2.2⟩ : _ ∧ k_ ≠ Q05))) (fun _ hk => hk.2) (.slice Q0n t115.length Q0o)) (fun _ hk => hk.2) (.slice Q2d t118.length Q2e)) (fun _ hk => ⟨hk.1.1, ⟨hk.1.2.2.1, ⟨hk.1.2.2.2.1, ⟨hk.1.2.2.2.2.1, ⟨hk.1.2.2.2.2.2.1, ⟨hk.1.2.2.2.2.2.2.1, ⟨hk.1.2.2.2.2.2.2.2.1, ⟨hk.1.2.2.2.2.2.2.2.2.1, hk.1.2.2.2.2.2.2.2.2.2⟩⟩⟩⟩⟩⟩⟩⟩)⟩, ⟨by (with_reducible repeat (first | apply rA | apply rN | apply rD)); exact Kd.R_mono (Kd.R_far (p := ⟨Q05, 1, none⟩) (Kd.R_far (p := ⟨Q05, 0, none⟩) (Kd.R_types Q13.out Q0g.out (by decide)) (fun _ hk => hk.2) (.slice Q0n t115.length Q0o)) (fun _ hk => hk.2) (.slice Q2d t118.length Q2e)) (fun _ hk => hk.1)⟩, ⟨by (with_reducible repeat (first | apply rA | apply rN | apply rD)); exact Kd.R_mono (Kd.R_far (p := ⟨Q05, 1, none⟩) (Kd.R_far (p := ⟨Q05, 0, none⟩) (Kd.R_types Q1b.out Q0g.out (by decide)) (fun _ hk => hk.2) (.slice Q0n t115.length Q0o)) (fun _ hk => hk.2) (.slice Q2d t118.length Q2e)) (fun _ hk => hk.1)⟩, ⟨by (with_reducible repeat (first | refine bN ?_ _ | refine bD ?_ | refine bA ?_ _)); refine blk_far ?_ Q17.out _; (with_reducible repeat (first | refine bN ?_ _ | refine bD ?_ | refine bA ?_ _)); refine blk_far ?_ Q17.out _; (with_reducible repeat (first | refine bN ?_ _ | refine bD ?_ | refine bA ?_ _)); exact Q01.out⟩, ⟨by (with_reducible repeat (first | refine bN ?_ _ | refine bD ?_ | refine bA ?_ _)); refine blk_far ?_ Q14.out _; (with_reducible repeat (first | refine bN ?_ _ | refine bD ?_ | refine bA ?_ _)); refine blk_far ?_ Q14.out _; (with_reducible repeat (first | refine bN ?_ _ | refine bD ?_ | refine bA ?_ _)); exact Q00.out⟩, ⟨by (with_reducible repeat (first | refine bN ?_ _ | refine bD ?_ | refine bA ?_ _)); refine blk_far ?_ Q1c.out _; (with_reducible repeat (first | refine bN ?_ _ | refine bD ?_ | refine bA ?_ _)); refine blk_far ?_ Q1c.out _; (with_reducible repeat (first | refine bN ?_ _ | refine bD ?_ | refine bA ?_ _)); exact Q02.out⟩, ⟨by (with_reducible repeat (first | refine bN ?_ _ | refine bD ?_ | refine bA ?_ _)); refine blk_far ?_ Q1d.out _; (with_reducible repeat (first | refine bN ?_ _ | refine bD ?_ | refine bA ?_ _)); refine blk_far ?_ Q1d.out _; (with_reducible repeat (first | refine bN ?_ _ | refine bD ?_ | refine bA ?_ _)); exact Q03.out⟩, ⟨by (with_reducible repeat (first | refine bN ?_ _ | refine bD ?_ | refine bA ?_ _)); refine blk_far ?_ Q1e.out _; (with_reducible repeat (first | refine bN ?_ _ | refine bD ?_ | refine bA ?_ _)); refine blk_far ?_ Q1e.out _; (with_reducible repeat (first | refine bN ?_ _ | refine bD ?_ | refine bA ?_ _)); exact Q04.out⟩, ⟨by (with_reducible repeat (first | refine bN ?_ _ | refine bD ?_ | refine bA ?_ _)); refine blk_put (cs := #[.slice Q0n t115.length Q0o, .slice none 0 0]) ?_ 1 _ rfl; (with_reducible repeat (first | refine bN ?_ _ | refine bD ?_ | refine bA ?_ _)); refine blk_put (cs := #[.slice none 0 0, .slice none 0 0]) ?_ 0 _ rfl; (with_reducible repeat (first | refine bN ?_ _ | refine bD ?_ | refine bA ?_ _)); exact Q0g.out⟩, ⟨pH HB⟩⟩
       case round =>
        clear H'
        try clear c1; try clear p2; try clear c4; try clear c5; try clear c9; try clear c46; try clear c55; try clear c95; try clear c96; try clear c97; try clear c98; try clear c99; try clear Q5r; try clear Q5s; try clear Q5t; try clear Q5u
        obtain ⟨x71_3, x122001_3, u122001, rfl, HA, HK3, Q0x, Q0d, Q0c, Q0e, Q0f, Q0s, Q0p, Q01, Q00, Q02, Q03, Q04, Q0g, HB⟩ := hrel
        cases gk with
        | zero => exact absurd HA.out (by simp [graph_Union.l1])
        | succ k3 =>
         have H := HA.out
         clear HA
         simp only [graph_Union.l1] at H
         by_cases c101 : x71_3 < (l1_1.length : Int)
         ·rw [if_pos c101] at H
          have c101b0 : decide (x71_3 < (l1_1.length : Int)) = true := decide_eq_true c101
          clear c101
          by_cases c102 : 0 ≤ x71_3
          ·rw [if_pos c102] at H
           have c102b0 : decide (0 ≤ x71_3) = true := decide_eq_true c102
           clear c102
           by_cases c103 : x71_3 < (l1_1.length : Int)
           ·rw [if_pos c103] at H
            have c103b0 : decide (x71_3 < (l1_1.length : Int)) = true := decide_eq_true c103
            clear c103
            by_cases c104 : x122001_3.length < 5864062014805
            ·rw [if_pos c104] at H
             have LMc104 := Aside0.mk c104
             clear c104
             obtain ⟨y124, hy124⟩ : ∃ y_ : List (S38), y_ = (x122001_3 ++ [(⟨(rd_T38 l1_1 x71_3).f0, wrap64 (((rd_T38 l1_1 x71_3).f1) + (l0_0.length : Int)), wrap64 (((rd_T38 l1_1 x71_3).f2) + (l0_0.length : Int))⟩ : S38)]) := ⟨_, rfl⟩
             replace H : (graph_Union.l1 k3 (l0_0.length : Int) (l0_1.length : Int) l1_1 (l1_1.length : Int) (wrap64 (x71_3 + 1)) l1_0 l1_1 t115 y124) = some (r1, r2, r3, r4, r5, r6, r7) := by first | (rw [hy124]; with_reducible exact H) | (have H2_ := (Option.bind_some _ _).symm.trans H; rw [hy124]; with_reducible exact H2_) | (have H2_ := (Option.bind_some _ _).symm.trans H; with_reducible exact H2_) | with_reducible exact H | (rw [hy124]; exact H) | exact H
             have Ny124 := Aside0.mk hy124
             clear hy124
             have H' := Aside0.mk H
             clear H
             have p122 : 0 ≤ (x71_3 : Int) := oT
             have q122 : x71_3 < (l1_1.length : Int) := oT
             obtain ⟨ad122, e122, hx122_0, hx122_1, hx122_2⟩ := at_T38 (Kd.V_reads' Q0x.out).2.2 x71_3 p122 q122
             cases e122
             replace p122 := eq_true p122
             replace q122 := eq_true q122
             go_wp2_with (first | ((with_reducible refine gate_dst (N := 15) rfl ?_); (try (refine gate_guard (by rfl) ?_; dsimp only)); refine box_event ?hg (N := 15) ?hd (cs := #[.int .i64 0, .int .i64 0, .int .i64 0]) (t := 38) ?hr ?_; (case hd => rfl); (case hg => rfl); (case hr => first | (go_simp; done) | (go_simp; rfl)); intro Q0w hg w105 hbox hb; replace Q0x := gV Q0x Q0w hg hb; replace Q0d := gV Q0d Q0w hg hb; replace Q0c := gV Q0c Q0w hg hb; replace Q0e := gV Q0e Q0w hg hb; replace Q0f := gV Q0f Q0w hg hb; replace Q0s := uR Q0s hb; replace Q0p := gR Q0p Q0w hg hb; have Q20 := Aside0.mk (hbox); have Qa3 := uS HB hg; have Qa4 := uS HB hg; replace HB := uH HB hb; have Q3l := uL Q01 hg; have Q5v := uG Q01 hg; replace Q01 := uB Q01 hb; have Q3m := uL Q00 hg; have Q5w := uG Q00 hg; replace Q00 := uB Q00 hb; have Q3n := uL Q02 hg; have Q5x := uG Q02 hg; replace Q02 := uB Q02 hb; have Q3o := uL Q03 hg; have Q5y := uG Q03 hg; replace Q03 := uB Q03 hb; have Q3p := uL Q04 hg; have Q5z := uG Q04 hg; replace Q04 := uB Q04 hb; have Q3q := uL Q0g hg; have Q60 := uG Q0g hg; replace Q0g := uB Q0g hb; clear hb hbox hg; have Qa5 := Q5v.out; have Qa6 := Q3l.out; have Qa7 := Q5w.out; have Qa8 := Q3m.out; have Qa9 := Q5x.out; have Qaa := Q3n.out; have Qab := Q5y.out; have Qac := Q3o.out; have Qad := Q5z.out; have Qae := Q3p.out; have Qaf := Q60.out; have Qag := Q3q.out; have Qah : w105.cell? ⟨Q0w, 0, none⟩ = some (.int .i64 0) := (blk_cell Q20.out 0).trans rfl; have Qai : w105.cell? ⟨Q0w, 1, none⟩ = some (.int .i64 0) := (blk_cell Q20.out 1).trans rfl; have Qaj : w105.cell? ⟨Q0w, 2, none⟩ = some (.int .i64 0) := (blk_cell Q20.out 2).trans rfl; have Qak := blk_frozen Q20.out 0; have Qal := blk_frozen Q20.out 1; have Qam := blk_frozen Q20.out 2; have Qan := Q1z.out; have Qao := Q17.out; have Qap := Q1u.out; have Qaq := Q14.out; have Qar := Q18.out; have Qas := Q1c.out; have Qat := Q19.out; have Qau := Q1d.out; have Qav := Q1a.out; have Qaw := Q1e.out; have Qax : w105.cell? ⟨Q05, 0, none⟩ = some (.slice Q0n t115.length Q0o) := (blk_cell Q0g.out 0).trans rfl; have Qay : w105.cell? ⟨Q05, 1, none⟩ = some (u122001) := (blk_cell Q0g.out 1).trans rfl; have Qaz := blk_frozen Q0g.out 0; have Qb0 := blk_frozen Q0g.out 1) | ((with_reducible refine gate_builtin (b := .append) (xs := #[.tmp 76, .tmp 88]) rfl ?_); (try (refine gate_guard (by rfl) ?_; dsimp only)); at_builtin; refine Kd.R_append k38 (w0 := w) w.heap.size rfl (.tmp 76) (.tmp 88) 23 38 (.agg #[(.int .i64 0), (.int .i64 0), (.int .i64 0)]) 24 rfl Try.underlying23 info38 rfl (by decide) (by omega) u122001 x122001_3 (⟨(rd_T38 l1_1 x71_3).f0, wrap64 (((rd_T38 l1_1 x71_3).f1) + (l0_0.length : Int)), wrap64 (((rd_T38 l1_1 x71_3).f2) + (l0_0.length : Int))⟩ : S38) [.int .i64 ((rd_T38 l1_1 x71_3).f0), .int .i64 (wrap64 (((rd_T38 l1_1 x71_3).f1) + (l0_0.length : Int))), .int .i64 (wrap64 (((rd_T38 l1_1 x71_3).f2) + (l0_0.length : Int)))] (fun k_ => (w.heap.size ≤ k_) ∧ k_ ≠ Q0w) (fun _ => False) rfl (by first | (go_simp; done) | (go_simp; rfl)) ?aP (fun _ hk => hk.elim) ?aF ?aO ?aB ?aS ?aL ?_; (case aP => exact k38_mkM _ _ _ (⟨(rd_T38 l1_1 x71_3).f0, wrap64 (((rd_T38 l1_1 x71_3).f1) + (l0_0.length : Int)), wrap64 (((rd_T38 l1_1 x71_3).f2) + (l0_0.length : Int))⟩ : S38)); (case aB => exact (pH HB)); (case aF => exact (fun k_ hk => ⟨(Nat.le_trans (below_size (pH HB)) hk), Kd.freshB (g := Q0w) (o := .cells #[.int .i64 ((rd_T38 l1_1 x71_3).f0), .int .i64 ((rd_T38 l1_1 x71_3).f1), .int .i64 ((rd_T38 l1_1 x71_3).f2)] 38 (0, 0)) (by (with_reducible repeat (first | refine bN ?_ _ | refine bD ?_ | refine bA ?_ _)); refine blk_put (cs := #[.int .i64 ((rd_T38 l1_1 x71_3).f0), .int .i64 ((rd_T38 l1_1 x71_3).f1), .int .i64 0]) ?_ 2 _ rfl; (with_reducible repeat (first | refine bN ?_ _ | refine bD ?_ | refine bA ?_ _)); refine blk_put (cs := #[.int .i64 ((rd_T38 l1_1 x71_3).f0), .int .i64 0, .int .i64 0]) ?_ 1 _ rfl; (with_reducible repeat (first | refine bN ?_ _ | refine bD ?_ | refine bA ?_ _)); refine blk_put (cs := #[.int .i64 0, .int .i64 0, .int .i64 0]) ?_ 0 _ rfl; (with_reducible repeat (first | refine bN ?_ _ | refine bD ?_ | refine bA ?_ _)); exact Q20.out) k_ hk⟩)); (case aO => exact (by (with_reducible repeat (first | apply rA | apply rN | apply rD)); exact Kd.R_mono (Kd.R_far (p := ⟨Q0w, 2, none⟩) (Kd.R_far (p := ⟨Q0w, 1, none⟩) (Kd.R_far (p := ⟨Q0w, 0, none⟩) (Kd.R_mono Q0p.out (fun k_ hk => (⟨hk, hk.2⟩ : _ ∧ k_ ≠ Q0w))) (fun _ hk => hk.2) (.int .i64 ((rd_T38 l1_1 x71_3).f0))) (fun _ hk => hk.2) (.int .i64 ((rd_T38 l1_1 x71_3).f1))) (fun _ hk => hk.2) (.int .i64 ((rd_T38 l1_1 x71_3).f2))) (fun _ hk => ⟨hk.1.1, hk.1.2⟩))); (case aS => exact (below_size (pH HB))); (case aL => have := LMc104.out; omega); intro v125 w119 ho hb hg hat; rw [← Ny124.out] at ho; replace Q0x := Aside0.mk (Kd.V_afterv (ok := (fun k_ => ((P0_0_ k_ ∨ P0_1_ k_ ∨ P1_0_ k_ ∨ P1_1_ k_) ∨ w.heap.size ≤ k_) ∧ some k_ ≠ (.slice Q0n t115.length Q0o : Value).ownBlock ∧ k_ ≠ Q0b ∧ k_ ≠ Q0a ∧ k_ ≠ Q06 ∧ k_ ≠ Q07 ∧ k_ ≠ Q08 ∧ k_ ≠ Q05 ∧ k_ ≠ Q0w)) (by (with_reducible repeat (first | apply Kd.V_alloc | apply Kd.V_drewN | apply Kd.V_drew)); exact Kd.V_mono (Kd.V_far (p := ⟨Q0w, 2, none⟩) (Kd.V_far (p := ⟨Q0w, 1, none⟩) (Kd.V_far (p := ⟨Q0w, 0, none⟩) (Kd.V_mono Q0x.out (fun k_ hk => (⟨hk, hk.2⟩ : _ ∧ k_ ≠ Q0w))) (fun _ hk => hk.2) (.int .i64 ((rd_T38 l1_1 x71_3).f0))) (fun _ hk => hk.2) (.int .i64 ((rd_T38 l1_1 x71_3).f1))) (fun _ hk => hk.2) (.int .i64 ((rd_T38 l1_1 x71_3).f2))) (fun _ hk => ⟨⟨hk.1.1.1, ⟨hk.1.1.2.1, ⟨hk.1.1.2.2.2.1, ⟨hk.1.1.2.2.2.2.1, ⟨hk.1.1.2.2.2.2.2.1, ⟨hk.1.1.2.2.2.2.2.2.1, ⟨hk.1.1.2.2.2.2.2.2.2.1, ⟨hk.1.1.2.2.2.2.2.2.2.2, hk.1.2⟩⟩⟩⟩⟩⟩⟩⟩, hk.1.1.2.2.1⟩)) hg hat); replace Q0d := Aside0.mk (Kd.V_afterv (ok := (fun k_ => ((P0_0_ k_ ∨ P0_1_ k_ ∨ P1_0_ k_ ∨ P1_1_ k_) ∨ w.heap.size ≤ k_) ∧ some k_ ≠ (.slice Q0n t115.length Q0o : Value).ownBlock ∧ k_ ≠ Q0b ∧ k_ ≠ Q0a ∧ k_ ≠ Q06 ∧ k_ ≠ Q07 ∧ k_ ≠ Q08 ∧ k_ ≠ Q05 ∧ k_ ≠ Q0w)) (by (with_reducible repeat (first | apply Kd.V_alloc | apply Kd.V_drewN | apply Kd.V_drew)); exact Kd.V_mono (Kd.V_far (p := ⟨Q0w, 2, none⟩) (Kd.V_far (p := ⟨Q0w, 1, none⟩) (Kd.V_far (p := ⟨Q0w, 0, none⟩) (Kd.V_mono Q0d.out (fun k_ hk => (⟨hk, hk.2⟩ : _ ∧ k_ ≠ Q0w))) (fun _ hk => hk.2) (.int .i64 ((rd_T38 l1_1 x71_3).f0))) (fun _ hk => hk.2) (.int .i64 ((rd_T38 l1_1 x71_3).f1))) (fun _ hk => hk.2) (.int .i64 ((rd_T38 l1_1 x71_3).f2))) (fun _ hk => ⟨⟨hk.1.1.1, ⟨hk.1.1.2.1, ⟨hk.1.1.2.2.2.1, ⟨hk.1.1.2.2.2.2.1, ⟨hk.1.1.2.2.2.2.2.1, ⟨hk.1.1.2.2.2.2.2.2.1, ⟨hk.1.1.2.2.2.2.2.2.2.1, ⟨hk.1.1.2.2.2.2.2.2.2.2, hk.1.2⟩⟩⟩⟩⟩⟩⟩⟩, hk.1.1.2.2.1⟩)) hg hat); replace Q0c := Aside0.mk (Kd.V_afterv (ok := (fun k_ => ((P0_0_ k_ ∨ P0_1_ k_ ∨ P1_0_ k_ ∨ P1_1_ k_) ∨ w.heap.size ≤ k_) ∧ some k_ ≠ (.slice Q0n t115.length Q0o : Value).ownBlock ∧ k_ ≠ Q0b ∧ k_ ≠ Q0a ∧ k_ ≠ Q06 ∧ k_ ≠ Q07 ∧ k_ ≠ Q08 ∧ k_ ≠ Q05 ∧ k_ ≠ Q0w)) (by (with_reducible repeat (first | apply Kd.V_alloc | apply Kd.V_drewN | apply Kd.V_drew)); exact Kd.V_mono (Kd.V_far (p := ⟨Q0w, 2, none⟩) (Kd.V_far (p := ⟨Q0w, 1, none⟩) (Kd.V_far (p := ⟨Q0w, 0, none⟩) (Kd.V_mono Q0c.out (fun k_ hk => (⟨hk, hk.2⟩ : _ ∧ k_ ≠ Q0w))) (fun _ hk => hk.2) (.int .i64 ((rd_T38 l1_1 x71_3).f0))) (fun _ hk => hk.2) (.int .i64 ((rd_T38 l1_1 x71_3).f1))) (fun _ hk => hk.2) (.int .i64 ((rd_T38 l1_1 x71_3).f2))) (fun _ hk => ⟨⟨hk.1.1.1, ⟨hk.1.1.2.1, ⟨hk.1.1.2.2.2.1, ⟨hk.1.1.2.2.2.2.1, ⟨hk.1.1.2.2.2.2.2.1, ⟨hk.1.1.2.2.2.2.2.2.1, ⟨hk.1.1.2.2.2.2.2.2.2.1, ⟨hk.1.1.2.2.2.2.2.2.2.2, hk.1.2⟩⟩⟩⟩⟩⟩⟩⟩, hk.1.1.2.2.1⟩)) hg hat); replace Q0e := Aside0.mk (Kd.V_afterv (ok := (fun k_ => ((P0_0_ k_ ∨ P0_1_ k_ ∨ P1_0_ k_ ∨ P1_1_ k_) ∨ w.heap.size ≤ k_) ∧ some k_ ≠ (.slice Q0n t115.length Q0o : Value).ownBlock ∧ k_ ≠ Q0b ∧ k_ ≠ Q0a ∧ k_ ≠ Q06 ∧ k_ ≠ Q07 ∧ k_ ≠ Q08 ∧ k_ ≠ Q05 ∧ k_ ≠ Q0w)) (by (with_reducible repeat (first | apply Kd.V_alloc | apply Kd.V_drewN | apply Kd.V_drew)); exact Kd.V_mono (Kd.V_far (p := ⟨Q0w, 2, none⟩) (Kd.V_far (p := ⟨Q0w, 1, none⟩) (Kd.V_far (p := ⟨Q0w, 0, none⟩) (Kd.V_mono Q0e.out (fun k_ hk => (⟨hk, hk.2⟩ : _ ∧ k_ ≠ Q0w))) (fun _ hk => hk.2) (.int .i64 ((rd_T38 l1_1 x71_3).f0))) (fun _ hk => hk.2) (.int .i64 ((rd_T38 l1_1 x71_3).f1))) (fun _ hk => hk.2) (.int .i64 ((rd_T38 l1_1 x71_3).f2))) (fun _ hk => ⟨⟨hk.1.1.1, ⟨hk.1.1.2.1, ⟨hk.1.1.2.2.2.1, ⟨hk.1.1.2.2.2.2.1, ⟨hk.1.1.2.2.2.2.2.1, ⟨hk.1.1.2.2.2.2.2.2.1, ⟨hk.1.1.2.2.2.2.2.2.2.1, ⟨hk.1.1.2.2.2.2.2.2.2.2, hk.1.2⟩⟩⟩⟩⟩⟩⟩⟩, hk.1.1.2.2.1⟩)) hg hat); replace Q0f := Aside0.mk (Kd.V_afterv (ok := (fun k_ => ((P0_0_ k_ ∨ P0_1_ k_ ∨ P1_0_ k_ ∨ P1_1_ k_) ∨ w.heap.size ≤ k_) ∧ some k_ ≠ (.slice Q0n t115.length Q0o : Value).ownBlock ∧ k_ ≠ Q0b ∧ k_ ≠ Q0a ∧ k_ ≠ Q06 ∧ k_ ≠ Q07 ∧ k_ ≠ Q08 ∧ k_ ≠ Q05 ∧ k_ ≠ Q0w)) (by (with_reducible repeat (first | apply Kd.V_alloc | apply Kd.V_drewN | apply Kd.V_drew)); exact Kd.V_mono (Kd.V_far (p := ⟨Q0w, 2, none⟩) (Kd.V_far (p := ⟨Q0w, 1, none⟩) (Kd.V_far (p := ⟨Q0w, 0, none⟩) (Kd.V_mono Q0f.out (fun k_ hk => (⟨hk, hk.2⟩ : _ ∧ k_ ≠ Q0w))) (fun _ hk => hk.2) (.int .i64 ((rd_T38 l1_1 x71_3).f0))) (fun _ hk => hk.2) (.int .i64 ((rd_T38 l1_1 x71_3).f1))) (fun _ hk => hk.2) (.int .i64 ((rd_T38 l1_1 x71_3).f2))) (fun _ hk => ⟨⟨hk.1.1.1, ⟨hk.1.1.2.1, ⟨hk.1.1.2.2.2.1, ⟨hk.1.1.2.2.2.2.1, ⟨hk.1.1.2.2.2.2.2.1, ⟨hk.1.1.2.2.2.2.2.2.1, ⟨hk.1.1.2.2.2.2.2.2.2.1, ⟨hk.1.1.2.2.2.2.2.2.2.2, hk.1.2⟩⟩⟩⟩⟩⟩⟩⟩, hk.1.1.2.2.1⟩)) hg hat); replace Q0s := Aside0.mk (Kd.R_over' (by (with_reducible repeat (first | apply rA | apply rN | apply rD)); exact (Kd.R_mono (Kd.R_far (p := ⟨Q0w, 2, none⟩) (Kd.R_far (p := ⟨Q0w, 1, none⟩) (Kd.R_far (p := ⟨Q0w, 0, none⟩) (Kd.R_types Q0s.out Q20.out (by decide)) (fun _ hk => hk.2) (.int .i64 ((rd_T38 l1_1 x71_3).f0))) (fun _ hk => hk.2) (.int .i64 ((rd_T38 l1_1 x71_3).f1))) (fun _ hk => hk.2) (.int .i64 ((rd_T38 l1_1 x71_3).f2))) (fun _ h_ => h_.1))) (Kd.R_typed (by (with_reducible repeat (first | apply rA | apply rN | apply rD)); exact (Kd.R_mono (Kd.R_far (p := ⟨Q0w, 2, none⟩) (Kd.R_far (p := ⟨Q0w, 1, none⟩) (Kd.R_far (p := ⟨Q0w, 0, none⟩) (Kd.R_mono Q0p.out (fun k_ hk => (⟨hk, hk.2⟩ : _ ∧ k_ ≠ Q0w))) (fun _ hk => hk.2) (.int .i64 ((rd_T38 l1_1 x71_3).f0))) (fun _ hk => hk.2) (.int .i64 ((rd_T38 l1_1 x71_3).f1))) (fun _ hk => hk.2) (.int .i64 ((rd_T38 l1_1 x71_3).f2))) (fun _ h_ => h_.1)))) (by decide) hg); replace Q01 := Aside0.mk (bG (g := Q0b) (o := .cells #[.slice A0_0 l0_0.length c0_0, .slice A0_1 l0_1.length c0_1] 25 (0, 0)) (by (with_reducible repeat (first | refine bN ?_ _ | refine bD ?_ | refine bA ?_ _)); refine blk_far ?_ Q3l.out _; (with_reducible repeat (first | refine bN ?_ _ | refine bD ?_ | refine bA ?_ _)); refine blk_far ?_ Q3l.out _; (with_reducible repeat (first | refine bN ?_ _ | refine bD ?_ | refine bA ?_ _)); refine blk_far ?_ Q3l.out _; (with_reducible repeat (first | refine bN ?_ _ | refine bD ?_ | refine bA ?_ _)); exact Q01.out) hg (Kd.R_ne Q0p.out Q01.out (by decide))); replace Q00 := Aside0.mk (bG (g := Q0a) (o := .cells #[.slice A1_0 l1_0.length c1_0, .slice (some ad122) l1_1.length c1_1] 25 (0, 0)) (by (with_reducible repeat (first | refine bN ?_ _ | refine bD ?_ | refine bA ?_ _)); refine blk_far ?_ Q3m.out _; (with_reducible repeat (first | refine bN ?_ _ | refine bD ?_ | refine bA ?_ _)); refine blk_far ?_ Q3m.out _; (with_reducible repeat (first | refine bN ?_ _ | refine bD ?_ | refine bA ?_ _)); refine blk_far ?_ Q3m.out _; (with_reducible repeat (first | refine bN ?_ _ | refine bD ?_ | refine bA ?_ _)); exact Q00.out) hg (Kd.R_ne Q0p.out Q00.out (by decide))); replace Q02 := Aside0.mk (bG (g := Q06) (o := .cells #[.slice none 0 0, .slice none 0 0] 25 (0, 0)) (by (with_reducible repeat (first | refine bN ?_ _ | refine bD ?_ | refine bA ?_ _)); refine blk_far ?_ Q3n.out _; (with_reducible repeat (first | refine bN ?_ _ | refine bD ?_ | refine bA ?_ _)); refine blk_far ?_ Q3n.out _; (with_reducible repeat (first | refine bN ?_ _ | refine bD ?_ | refine bA ?_ _)); refine blk_far ?_ Q3n.out _; (with_reducible repeat (first | refine bN ?_ _ | refine bD ?_ | refine bA ?_ _)); exact Q02.out) hg (Kd.R_ne Q0p.out Q02.out (by decide))); replace Q03 := Aside0.mk (bG (g := Q07) (o := .cells #[.slice none 0 0, .slice none 0 0] 29 (0, 0)) (by (with_reducible repeat (first | refine bN ?_ _ | refine bD ?_ | refine bA ?_ _)); refine blk_far ?_ Q3o.out _; (with_reducible repeat (first | refine bN ?_ _ | refine bD ?_ | refine bA ?_ _)); refine blk_far ?_ Q3o.out _; (with_reducible repeat (first | refine bN ?_ _ | refine bD ?_ | refine bA ?_ _)); refine blk_far ?_ Q3o.out _; (with_reducible repeat (first | refine bN ?_ _ | refine bD ?_ | refine bA ?_ _)); exact Q03.out) hg (Kd.R_ne Q0p.out Q03.out (by decide))); replace Q04 := Aside0.mk (bG (g := Q08) (o := .cells #[.slice none 0 0, .slice none 0 0] 29 (0, 0)) (by (with_reducible repeat (first | refine bN ?_ _ | refine bD ?_ | refine bA ?_ _)); refine blk_far ?_ Q3p.out _; (with_reducible repeat (first | refine bN ?_ _ | refine bD ?_ | refine bA ?_ _)); refine blk_far ?_ Q3p.out _; (with_reducible repeat (first | refine bN ?_ _ | refine bD ?_ | refine bA ?_ _)); refine blk_far ?_ Q3p.out _; (with_reducible repeat (first | refine bN ?_ _ | refine bD ?_ | refine bA ?_ _)); exact Q04.out) hg (Kd.R_ne Q0p.out Q04.out (by decide))); replace Q0g := Aside0.mk (bG (g := Q05) (o := .cells #[.slice Q0n t115.length Q0o, u122001] 25 (0, 0)) (by (with_reducible repeat (first | refine bN ?_ _ | refine bD ?_ | refine bA ?_ _)); refine blk_far ?_ Q3q.out _; (with_reducible repeat (first | refine bN ?_ _ | refine bD ?_ | refine bA ?_ _)); refine blk_far ?_ Q3q.out _; (with_reducible repeat (first | refine bN ?_ _ | refine bD ?_ | refine bA ?_ _)); refine blk_far ?_ Q3q.out _; (with_reducible repeat (first | refine bN ?_ _ | refine bD ?_ | refine bA ?_ _)); exact Q0g.out) hg (Kd.R_ne Q0p.out Q0g.out (by decide))); replace Q20 := Aside0.mk (bG (g := Q0w) (o := .cells #[.int .i64 ((rd_T38 l1_1 x71_3).f0), .int .i64 ((rd_T38 l1_1 x71_3).f1), .int .i64 ((rd_T38 l1_1 x71_3).f2)] 38 (0, 0)) (by (with_reducible repeat (first | refine bN ?_ _ | refine bD ?_ | refine bA ?_ _)); refine blk_put (cs := #[.int .i64 ((rd_T38 l1_1 x71_3).f0), .int .i64 ((rd_T38 l1_1 x71_3).f1), .int .i64 0]) ?_ 2 _ rfl; (with_reducible repeat (first | refine bN ?_ _ | refine bD ?_ | refine bA ?_ _)); refine blk_put (cs := #[.int .i64 ((rd_T38 l1_1 x71_3).f0), .int .i64 0, .int .i64 0]) ?_ 1 _ rfl; (with_reducible repeat (first | refine bN ?_ _ | refine bD ?_ | refine bA ?_ _)); refine blk_put (cs := #[.int .i64 0, .int .i64 0, .int .i64 0]) ?_ 0 _ rfl; (with_reducible repeat (first | refine bN ?_ _ | refine bD ?_ | refine bA ?_ _)); exact Q20.out) hg (Kd.R_away Q0p.out (fun _ hk => hk.2))); replace HB := Aside0.mk (hb); have Q4m := Aside0.mk (ho); clear Q0p; clear ho hb hg hat; obtain ⟨Q2f, Q2g, Q61⟩ := Kd.R_slice Q4m.out; subst Q61; have Qb1 : w119.cell? ⟨Q05, 0, none⟩ = some (.slice Q0n t115.length Q0o) := (blk_cell Q0g.out 0).trans rfl; have Qb2 : w119.cell? ⟨Q05, 1, none⟩ = some (u122001) := (blk_cell Q0g.out 1).trans rfl; have Qb3 := blk_frozen Q0g.out 0; have Qb4 := blk_frozen Q0g.out 1))
             go_roundg k3
             case measure => have := HK1.out; have := HJ52.out; have := HK3.out; omega
             case rel => exact ⟨(wrap64 (x71_3 + 1)), (y124), (.slice Q2f y124.length Q2g), rS, H', ⟨by have := HK1.out; have := HJ52.out; have := HK3.out; omega⟩, ⟨by (with_reducible repeat (first | apply Kd.V_alloc | apply Kd.V_drewN | apply Kd.V_drew)); exact Kd.V_mono (Kd.V_far (p := ⟨Q05, 1, none⟩) (Kd.V_mono Q0x.out (fun k_ hk => (⟨hk, hk.1.2.2.2.2.2.2.2.1⟩ : _ ∧ k_ ≠ Q05))) (fun _ hk => hk.2) (.slice Q2f y124.length Q2g)) (fun _ hk => ⟨hk.1.1.1, ⟨hk.1.1.2.1, ⟨hk.1.2, ⟨hk.1.1.2.2.1, ⟨hk.1.1.2.2.2.1, ⟨hk.1.1.2.2.2.2.1, ⟨hk.1.1.2.2.2.2.2.1, ⟨hk.1.1.2.2.2.2.2.2.1, hk.1.1.2.2.2.2.2.2.2.1⟩⟩⟩⟩⟩⟩⟩⟩)⟩, ⟨by (with_reducible repeat (first | apply Kd.V_alloc | apply Kd.V_drewN | apply Kd.V_drew)); exact Kd.V_mono (Kd.V_far (p := ⟨Q05, 1, none⟩) (Kd.V_mono Q0d.out (fun k_ hk => (⟨hk, hk.1.2.2.2.2.2.2.2.1⟩ : _ ∧ k_ ≠ Q05))) (fun _ hk => hk.2) (.slice Q2f y124.length Q2g)) (fun _ hk => ⟨hk.1.1.1, ⟨hk.1.1.2.1, ⟨hk.1.2, ⟨hk.1.1.2.2.1, ⟨hk.1.1.2.2.2.1, ⟨hk.1.1.2.2.2.2.1, ⟨hk.1.1.2.2.2.2.2.1, ⟨hk.1.1.2.2.2.2.2.2.1, hk.1.1.2.2.2.2.2.2.2.1⟩⟩⟩⟩⟩⟩⟩⟩)⟩, ⟨by (with_reducible repeat (first | apply Kd.V_alloc | apply Kd.V_drewN | apply Kd.V_drew)); exact Kd.V_mono (Kd.V_far (p := ⟨Q05, 1, none⟩) (Kd.V_mono Q0c.out (fun k_ hk => (⟨hk, hk.1.2.2.2.2.2.2.2.1⟩ : _ ∧ k_ ≠ Q05))) (fun _ hk => hk.2) (.slice Q2f y124.length Q2g)) (fun _ hk => ⟨hk.1.1.1, ⟨hk.1.1.2.1, ⟨hk.1.2, ⟨hk.1.1.2.2.1, ⟨hk.1.1.2.2.2.1, ⟨hk.1.1.2.2.2.2.1, ⟨hk.1.1.2.2.2.2.2.1, ⟨hk.1.1.2.2.2.2.2.2.1, hk.1.1.2.2.2.2.2.2.2.1⟩⟩⟩⟩⟩⟩⟩⟩)⟩, ⟨by (with_reducible repeat (first | apply Kd.V_alloc | apply Kd.V_drewN | apply Kd.V_drew)); exact Kd.V_mono (Kd.V_far (p := ⟨Q05, 1, none⟩) (Kd.V_mono Q0e.out (fun k_ hk => (⟨hk, hk.1.2.2.2.2.2.2.2.1⟩ : _ ∧ k_ ≠ Q05))) (fun _ hk => hk.2) (.slice Q2f y124.length Q2g)) (fun _ hk => ⟨hk.1.1.1, ⟨hk.1.1.2.1, ⟨hk.1.2, ⟨hk.1.1.2.2.1, ⟨hk.1.1.2.2.2.1, ⟨hk.1.1.2.2.2.2.1, ⟨hk.1.1.2.2.2.2.2.1, ⟨hk.1.1.2.2.2.2.2.2.1, hk.1.1.2.2.2.2.2.2.2.1⟩⟩⟩⟩⟩⟩⟩⟩)⟩, ⟨by (with_reducible repeat (first | apply Kd.V_alloc | apply Kd.V_drewN | apply Kd.V_drew)); exact Kd.V_mono (Kd.V_far (p := ⟨Q05, 1, none⟩) (Kd.V_mono Q0f.out (fun k_ hk => (⟨hk, hk.1.2.2.2.2.2.2.2.1⟩ : _ ∧ k_ ≠ Q05))) (fun _ hk => hk.2) (.slice Q2f y124.length Q2g)) (fun _ hk => ⟨hk.1.1.1, ⟨hk.1.1.2.1, ⟨hk.1.2, ⟨hk.1.1.2.2.1, ⟨hk.1.1.2.2.2.1, ⟨hk.1.1.2.2.2.2.1, ⟨hk.1.1.2.2.2.2.2.1, ⟨hk.1.1.2.2.2.2.2.2.1, hk.1.1.2.2.2.2.2.2.2.1⟩⟩⟩⟩⟩⟩⟩⟩)⟩, ⟨by (with_reducible repeat (first | apply rA | apply rN | apply rD)); exact Kd.R_mono (Kd.R_far (p := ⟨Q05, 1, none⟩) (Kd.R_types Q0s.out Q0g.out (by decide)) (fun _ hk => hk.2) (.slice Q2f y124.length Q2g)) (fun _ hk => hk.1)⟩, ⟨by (with_reducible repeat (first | apply rA | apply rN | apply rD)); exact Kd.R_mono (Kd.R_far (p := ⟨Q05, 1, none⟩) (Kd.R_types Q4m.out Q0g.out (by decide)) (fun _ hk => hk.2) (.slice Q2f y124.length Q2g)) (fun _ hk => hk.1.1)⟩, ⟨by (with_reducible repeat (first | refine bN ?_ _ | refine bD ?_ | refine bA ?_ _)); refine blk_far ?_ Q17.out _; (with_reducible repeat (first | refine bN ?_ _ | refine bD ?_ | refine bA ?_ _)); exact Q01.out⟩, ⟨by (with_reducible repeat (first | refine bN ?_ _ | refine bD ?_ | refine bA ?_ _)); refine blk_far ?_ Q14.out _; (with_reducible repeat (first | refine bN ?_ _ | refine bD ?_ | refine bA ?_ _)); exact Q00.out⟩, ⟨by (with_reducible repeat (first | refine bN ?_ _ | refine bD ?_ | refine bA ?_ _)); refine blk_far ?_ Q1c.out _; (with_reducible repeat (first | refine bN ?_ _ | refine bD ?_ | refine bA ?_ _)); exact Q02.out⟩, ⟨by (with_reducible repeat (first | refine bN ?_ _ | refine bD ?_ | refine bA ?_ _)); refine blk_far ?_ Q1d.out _; (with_reducible repeat (first | refine bN ?_ _ | refine bD ?_ | refine bA ?_ _)); exact Q03.out⟩, ⟨by (with_reducible repeat (first | refine bN ?_ _ | refine bD ?_ | refine bA ?_ _)); refine blk_far ?_ Q1e.out _; (with_reducible repeat (first | refine bN ?_ _ | refine bD ?_ | refine bA ?_ _)); exact Q04.out⟩, ⟨by (with_reducible repeat (first | refine bN ?_ _ | refine bD ?_ | refine bA ?_ _)); refine blk_put (cs := #[.slice Q0n t115.length Q0o, u122001]) ?_ 1 _ rfl; (with_reducible repeat (first | refine bN ?_ _ | refine bD ?_ | refine bA ?_ _)); exact Q0g.out⟩, ⟨pH HB⟩⟩
            ·rw [if_neg c104] at H
             exact absurd H (by simp)
           ·rw [if_neg c103] at H
            exact absurd H (by simp)
          ·rw [if_neg c102] at H
           exact absurd H (by simp)
         ·rw [if_neg c101] at H
          have c101b0 : decide (x71_3 < (l1_1.length : Int)) = false := decide_eq_false c101
          clear c101
          replace H := Option.bind_eq_some_iff.mp H
          obtain ⟨t127, A1220, H⟩ := H
          replace H : ((graph_numbers.f k3 0 (l0_1.length : Int)).bind fun t130 => ((graph_numbers.f k3 (l0_0.length : Int) (l1_0.length : Int)).bind fun t134 => ((graph_numbers.f k3 (l0_1.length : Int) (l1_1.length : Int)).bind fun t137 => (some (t115, x122001_3, t127, t130, t134, t137, 0))))) = some (r1, r2, r3, r4, r5, r6, r7) := H
          have A122 := Aside0.mk A1220
          clear A1220
          replace H := Option.bind_eq_some_iff.mp H
          obtain ⟨t130, A1230, H⟩ := H
          replace H : ((graph_numbers.f k3 (l0_0.length : Int) (l1_0.length : Int)).bind fun t134 => ((graph_numbers.f k3 (l0_1.length : Int) (l1_1.length : Int)).bind fun t137 => (some (t115, x122001_3, t127, t130, t134, t137, 0)))) = some (r1, r2, r3, r4, r5, r6, r7) := H
          have A123 := Aside0.mk A1230
          clear A1230
          replace H := Option.bind_eq_some_iff.mp H
          obtain ⟨t134, A1240, H⟩ := H
          replace H : ((graph_numbers.f k3 (l0_1.length : Int) (l1_1.length : Int)).bind fun t137 => (some (t115, x122001_3, t127, t130, t134, t137, 0))) = some (r1, r2, r3, r4, r5, r6, r7) := H
          have A124 := Aside0.mk A1240
          clear A1240
          replace H := Option.bind_eq_some_iff.mp H
          obtain ⟨t137, A1250, H⟩ := H
          replace H : (some (t115, x122001_3, t127, t130, t134, t137, 0)) = some (r1, r2, r3, r4, r5, r6, r7) := H
          have A125 := Aside0.mk A1250
          clear A1250
          simp only [Option.some.injEq, Prod.mk.injEq] at H
          obtain ⟨rfl, rfl, rfl, rfl, rfl, rfl, rfl⟩ := H
          try go_wp2_with (first | ((with_reducible refine gate_callee (f := 45) rfl ?_); refine goesL_ (some 93) rfl rfl Try.func45 (by kernel_rfl) rfl #[.int .i64 0, .int .i64 (l0_0.length : Int)] rfl aM ?_; (with_reducible refine (graph_numbers.calls k3 0 (l0_0.length : Int) t127 _ A122.out).mono ?_); rintro e w126 ⟨v128, rfl, ho0, hb⟩; refine ⟨_, rfl, ?_⟩; replace Q0x := eV Q0x (Kd.R_base ho0) hb; replace Q0d := eV Q0d (Kd.R_base ho0) hb; replace Q0c := eV Q0c (Kd.R_base ho0) hb; replace Q0e := eV Q0e (Kd.R_base ho0) hb; replace Q0f := eV Q0f (Kd.R_base ho0) hb; replace Q0p := uR Q0p hb; have Q0y := Aside0.mk (Kd.R_lower (Kd.R_new' (Kd.R_newM (M := fun k_ => (w.heap.size ≤ k_)) ho0 (below_size (pH HB)) (fun k_ h_ => h_)) (Kd.R_lt (pR Q0s))) (below_size (pH HB))); replace Q0s := eR Q0s (Kd.R_base ho0) hb; replace Q01 := uB Q01 hb; replace Q00 := uB Q00 hb; replace Q02 := uB Q02 hb; replace Q03 := uB Q03 hb; replace Q04 := uB Q04 hb; replace Q0g := uB Q0g hb; replace HB := uH HB hb; (try clear hb); (try clear hb2); (try clear hk); (try clear hi); (try clear ho0)) | ((with_reducible refine gate_callee (f := 45) rfl ?_); refine goesL_ (some 95) rfl rfl Try.func45 (by kernel_rfl) rfl #[.int .i64 0, .int .i64 (l0_1.length : Int)] rfl aM ?_; (with_reducible refine (graph_numbers.calls k3 0 (l0_1.length : Int) t130 _ A123.out).mono ?_); rintro e w127 ⟨v131, rfl, ho0, hb⟩; refine ⟨_, rfl, ?_⟩; replace Q0x := eV Q0x (Kd.R_base ho0) hb; replace Q0d := eV Q0d (Kd.R_base ho0) hb; replace Q0c := eV Q0c (Kd.R_base ho0) hb; replace Q0e := eV Q0e (Kd.R_base ho0) hb; replace Q0f := eV Q0f (Kd.R_base ho0) hb; replace Q0p := uR Q0p hb; have Q0z := Aside0.mk (Kd.R_lower (Kd.R_new' (Kd.R_new' (Kd.R_newM (M := fun k_ => (w.heap.size ≤ k_)) ho0 (below_size (pH HB)) (fun k_ h_ => h_)) (Kd.R_lt (pR Q0s))) (Kd.R_lt (pR Q0y))) (below_size (pH HB))); replace Q0s := eR Q0s (Kd.R_base ho0) hb; replace Q0y := eR Q0y (Kd.R_base ho0) hb; replace Q01 := uB Q01 hb; replace Q00 := uB Q00 hb; replace Q02 := uB Q02 hb; replace Q03 := uB Q03 hb; replace Q04 := uB Q04 hb; replace Q0g := uB Q0g hb; replace HB := uH HB hb; (try clear hb); (try clear hb2); (try clear hk); (try clear hi); (try clear ho0); obtain ⟨Q0l, Q0m, Q62⟩ := Kd.R_slice Q0z.out; subst Q62; obtain ⟨Q0j, Q0k, Q63⟩ := Kd.R_slice Q0y.out; subst Q63) | ((with_reducible refine gate_dst (N := 16) rfl ?_); (try (refine gate_guard (by rfl) ?_; dsimp only)); refine box_event ?hg (N := 16) ?hd (cs := #[.slice none 0 0, .slice none 0 0]) (t := 29) ?hr ?_; (case hd => rfl); (case hg => rfl); (case hr => first | (go_simp; done) | (go_simp; rfl)); intro Q0h hg w130 hbox hb; replace Q0x := gV Q0x Q0h hg hb; replace Q0d := gV Q0d Q0h hg hb; replace Q0c := gV Q0c Q0h hg hb; replace Q0e := gV Q0e Q0h hg hb; replace Q0f := gV Q0f Q0h hg hb; replace Q0s := uR Q0s hb; replace Q0p := uR Q0p hb; replace Q0y := uR Q0y hb; replace Q0z := uR Q0z hb; have Q0v := Aside0.mk (hbox); have Qb5 := uS HB hg; have Q64 := uS HB hg; replace HB := uH HB hb; have Q43 := uL Q01 hg; have Q65 := uG Q01 hg; replace Q01 := uB Q01 hb; have Q44 := uL Q00 hg; have Q66 := uG Q00 hg; replace Q00 := uB Q00 hb; have Q3d := uL Q02 hg; have Q2v := uG Q02 hg; replace Q02 := uB Q02 hb; have Q3e := uL Q03 hg; have Q2w := uG Q03 hg; replace Q03 := uB Q03 hb; have Q3f := uL Q04 hg; have Q2x := uG Q04 hg; replace Q04 := uB Q04 hb; have Q45 := uL Q0g hg; have Q67 := uG Q0g hg; replace Q0g := uB Q0g hb; clear hb hbox hg; have Qb6 := Q65.out; have Qb7 := Q43.out; have Qb8 := Q66.out; have Qb9 := Q44.out; have Qba := Q2v.out; have Qbb := Q3d.out; have Qbc := Q2w.out; have Qbd := Q3e.out; have Qbe := Q2x.out; have Qbf := Q3f.out; have Qbg := Q67.out; have Qbh := Q45.out; have Qbi : w130.cell? ⟨Q0h, 0, none⟩ = some (.slice none 0 0) := (blk_cell Q0v.out 0).trans rfl; have Qbj : w130.cell? ⟨Q0h, 1, none⟩ = some (.slice none 0 0) := (blk_cell Q0v.out 1).trans rfl; have Qbk := blk_frozen Q0v.out 0; have Qbl := blk_frozen Q0v.out 1))
          have n0_ : Aside0 (Kd.V k38 38 ((w130.setCell ⟨Q0h, 0, none⟩ (.slice Q0j t127.length Q0k)).setCell ⟨Q0h, 1, none⟩ (.slice Q0l t130.length Q0m)) w.heap.size (fun k_ => ((P0_0_ k_ ∨ P0_1_ k_ ∨ P1_0_ k_ ∨ P1_1_ k_) ∨ w.heap.size ≤ k_) ∧ some k_ ≠ (.slice Q0n t115.length Q0o : Value).ownBlock ∧ some k_ ≠ (u122001 : Value).ownBlock ∧ some k_ ≠ (.slice Q0j t127.length Q0k : Value).ownBlock ∧ some k_ ≠ (.slice Q0l t130.length Q0m : Value).ownBlock ∧ k_ ≠ Q0b ∧ k_ ≠ Q0a ∧ k_ ≠ Q06 ∧ k_ ≠ Q07 ∧ k_ ≠ Q08 ∧ k_ ≠ Q05 ∧ k_ ≠ Q0h) (.slice A1_1 l1_1.length c1_1) l1_1) := ⟨by (with_reducible repeat (first | apply Kd.V_alloc | apply Kd.V_drewN | apply Kd.V_drew)); exact Kd.V_mono (Kd.V_far (p := ⟨Q0h, 1, none⟩) (Kd.V_far (p := ⟨Q0h, 0, none⟩) (Kd.V_mono Q0x.out (fun k_ hk => (⟨hk, hk.2⟩ : _ ∧ k_ ≠ Q0h))) (fun _ hk => hk.2) (.slice Q0j t127.length Q0k)) (fun _ hk => hk.2) (.slice Q0l t130.length Q0m)) (fun _ hk => ⟨hk.1.1.1.1.1, ⟨hk.1.1.1.1.2.1, ⟨hk.1.1.1.1.2.2.1, ⟨hk.1.1.1.2, ⟨hk.1.1.2, ⟨hk.1.1.1.1.2.2.2.1, ⟨hk.1.1.1.1.2.2.2.2.1, ⟨hk.1.1.1.1.2.2.2.2.2.1, ⟨hk.1.1.1.1.2.2.2.2.2.2.1, ⟨hk.1.1.1.1.2.2.2.2.2.2.2.1, ⟨hk.1.1.1.1.2.2.2.2.2.2.2.2, hk.1.2⟩⟩⟩⟩⟩⟩⟩⟩⟩⟩⟩)⟩
          have n1_ : Aside0 (Kd.V (Kd.int .i64) 3 ((w130.setCell ⟨Q0h, 0, none⟩ (.slice Q0j t127.length Q0k)).setCell ⟨Q0h, 1, none⟩ (.slice Q0l t130.length Q0m)) w.heap.size (fun k_ => ((P0_0_ k_ ∨ P0_1_ k_ ∨ P1_0_ k_ ∨ P1_1_ k_) ∨ w.heap.size ≤ k_) ∧ some k_ ≠ (.slice Q0n t115.length Q0o : Value).ownBlock ∧ some k_ ≠ (u122001 : Value).ownBlock ∧ some k_ ≠ (.slice Q0j t127.length Q0k : Value).ownBlock ∧ some k_ ≠ (.slice Q0l t130.length Q0m : Value).ownBlock ∧ k_ ≠ Q0b ∧ k_ ≠ Q0a ∧ k_ ≠ Q06 ∧ k_ ≠ Q07 ∧ k_ ≠ Q08 ∧ k_ ≠ Q05 ∧ k_ ≠ Q0h) (.slice A0_0 l0_0.length c0_0) l0_0) := ⟨by (with_reducible repeat (first | apply Kd.V_alloc | apply Kd.V_drewN | apply Kd.V_drew)); exact Kd.V_mono (Kd.V_far (p := ⟨Q0h, 1, none⟩) (Kd.V_far (p := ⟨Q0h, 0, none⟩) (Kd.V_mono Q0d.out (fun k_ hk => (⟨hk, hk.2⟩ : _ ∧ k_ ≠ Q0h))) (fun _ hk => hk.2) (.slice Q0j t127.length Q0k)) (fun _ hk => hk.2) (.slice Q0l t130.length Q0m)) (fun _ hk => ⟨hk.1.1.1.1.1, ⟨hk.1.1.1.1.2.1, ⟨hk.1.1.1.1.2.2.1, ⟨hk.1.1.1.2, ⟨hk.1.1.2, ⟨hk.1.1.1.1.2.2.2.1, ⟨hk.1.1.1.1.2.2.2.2.1, ⟨hk.1.1.1.1.2.2.2.2.2.1, ⟨hk.1.1.1.1.2.2.2.2.2.2.1, ⟨hk.1.1.1.1.2.2.2.2.2.2.2.1, ⟨hk.1.1.1.1.2.2.2.2.2.2.2.2, hk.1.2⟩⟩⟩⟩⟩⟩⟩⟩⟩⟩⟩)⟩
          have n2_ : Aside0 (Kd.V k38 38 ((w130.setCell ⟨Q0h, 0, none⟩ (.slice Q0j t127.length Q0k)).setCell ⟨Q0h, 1, none⟩ (.slice Q0l t130.length Q0m)) w.heap.size (fun k_ => ((P0_0_ k_ ∨ P0_1_ k_ ∨ P1_0_ k_ ∨ P1_1_ k_) ∨ w.heap.size ≤ k_) ∧ some k_ ≠ (.slice Q0n t115.length Q0o : Value).ownBlock ∧ some k_ ≠ (u122001 : Value).ownBlock ∧ some k_ ≠ (.slice Q0j t127.length Q0k : Value).ownBlock ∧ some k_ ≠ (.slice Q0l t130.length Q0m : Value).ownBlock ∧ k_ ≠ Q0b ∧ k_ ≠ Q0a ∧ k_ ≠ Q06 ∧ k_ ≠ Q07 ∧ k_ ≠ Q08 ∧ k_ ≠ Q05 ∧ k_ ≠ Q0h) (.slice A0_1 l0_1.length c0_1) l0_1) := ⟨by (with_reducible repeat (first | apply Kd.V_alloc | apply Kd.V_drewN | apply Kd.V_drew)); exact Kd.V_mono (Kd.V_far (p := ⟨Q0h, 1, none⟩) (Kd.V_far (p := ⟨Q0h, 0, none⟩) (Kd.V_mono Q0c.out (fun k_ hk => (⟨hk, hk.2⟩ : _ ∧ k_ ≠ Q0h))) (fun _ hk => hk.2) (.slice Q0j t127.length Q0k)) (fun _ hk => hk.2) (.slice Q0l t130.length Q0m)) (fun _ hk => ⟨hk.1.1.1.1.1, ⟨hk.1.1.1.1.2.1, ⟨hk.1.1.1.1.2.2.1, ⟨hk.1.1.1.2, ⟨hk.1.1.2, ⟨hk.1.1.1.1.2.2.2.1, ⟨hk.1.1.1.1.2.2.2.2.1, ⟨hk.1.1.1.1.2.2.2.2.2.1, ⟨hk.1.1.1.1.2.2.2.2.2.2.1, ⟨hk.1.1.1.1.2.2.2.2.2.2.2.1, ⟨hk.1.1.1.1.2.2.2.2.2.2.2.2, hk.1.2⟩⟩⟩⟩⟩⟩⟩⟩⟩⟩⟩)⟩
          have n3_ : Aside0 (Kd.V (Kd.int .i64) 3 ((w130.setCell ⟨Q0h, 0, none⟩ (.slice Q0j t127.length Q0k)).setCell ⟨Q0h, 1, none⟩ (.slice Q0l t130.length Q0m)) w.heap.size (fun k_ => ((P0_0_ k_ ∨ P0_1_ k_ ∨ P1_0_ k_ ∨ P1_1_ k_) ∨ w.heap.size ≤ k_) ∧ some k_ ≠ (.slice Q0n t115.length Q0o : Value).ownBlock ∧ some k_ ≠ (u122001 : Value).ownBlock ∧ some k_ ≠ (.slice Q0j t127.length Q0k : Value).ownBlock ∧ some k_ ≠ (.slice Q0l t130.length Q0m : Value).ownBlock ∧ k_ ≠ Q0b ∧ k_ ≠ Q0a ∧ k_ ≠ Q06 ∧ k_ ≠ Q07 ∧ k_ ≠ Q08 ∧ k_ ≠ Q05 ∧ k_ ≠ Q0h) (.slice A1_0 l1_0.length c1_0) l1_0) := ⟨by (with_reducible repeat (first | apply Kd.V_alloc | apply Kd.V_drewN | apply Kd.V_drew)); exact Kd.V_mono (Kd.V_far (p := ⟨Q0h, 1, none⟩) (Kd.V_far (p := ⟨Q0h, 0, none⟩) (Kd.V_mono Q0e.out (fun k_ hk => (⟨hk, hk.2⟩ : _ ∧ k_ ≠ Q0h))) (fun _ hk => hk.2) (.slice Q0j t127.length Q0k)) (fun _ hk => hk.2) (.slice Q0l t130.length Q0m)) (fun _ hk => ⟨hk.1.1.1.1.1, ⟨hk.1.1.1.1.2.1, ⟨hk.1.1.1.1.2.2.1, ⟨hk.1.1.1.2, ⟨hk.1.1.2, ⟨hk.1.1.1.1.2.2.2.1, ⟨hk.1.1.1.1.2.2.2.2.1, ⟨hk.1.1.1.1.2.2.2.2.2.1, ⟨hk.1.1.1.1.2.2.2.2.2.2.1, ⟨hk.1.1.1.1.2.2.2.2.2.2.2.1, ⟨hk.1.1.1.1.2.2.2.2.2.2.2.2, hk.1.2⟩⟩⟩⟩⟩⟩⟩⟩⟩⟩⟩)⟩
          have n4_ : Aside0 (Kd.V k38 38 ((w130.setCell ⟨Q0h, 0, none⟩ (.slice Q0j t127.length Q0k)).setCell ⟨Q0h, 1, none⟩ (.slice Q0l t130.length Q0m)) w.heap.size (fun k_ => ((P0_0_ k_ ∨ P0_1_ k_ ∨ P1_0_ k_ ∨ P1_1_ k_) ∨ w.heap.size ≤ k_) ∧ some k_ ≠ (.slice Q0n t115.length Q0o : Value).ownBlock ∧ some k_ ≠ (u122001 : Value).ownBlock ∧ some k_ ≠ (.slice Q0j t127.length Q0k : Value).ownBlock ∧ some k_ ≠ (.slice Q0l t130.length Q0m : Value).ownBlock ∧ k_ ≠ Q0b ∧ k_ ≠ Q0a ∧ k_ ≠ Q06 ∧ k_ ≠ Q07 ∧ k_ ≠ Q08 ∧ k_ ≠ Q05 ∧ k_ ≠ Q0h) (.slice A1_1 l1_1.length c1_1) l1_1) := ⟨by (with_reducible repeat (first | apply Kd.V_alloc | apply Kd.V_drewN | apply Kd.V_drew)); exact Kd.V_mono (Kd.V_far (p := ⟨Q0h, 1, none⟩) (Kd.V_far (p := ⟨Q0h, 0, none⟩) (Kd.V_mono Q0f.out (fun k_ hk => (⟨hk, hk.2⟩ : _ ∧ k_ ≠ Q0h))) (fun _ hk => hk.2) (.slice Q0j t127.length Q0k)) (fun _ hk => hk.2) (.slice Q0l t130.length Q0m)) (fun _ hk => ⟨hk.1.1.1.1.1, ⟨hk.1.1.1.1.2.1, ⟨hk.1.1.1.1.2.2.1, ⟨hk.1.1.1.2, ⟨hk.1.1.2, ⟨hk.1.1.1.1.2.2.2.1, ⟨hk.1.1.1.1.2.2.2.2.1, ⟨hk.1.1.1.1.2.2.2.2.2.1, ⟨hk.1.1.1.1.2.2.2.2.2.2.1, ⟨hk.1.1.1.1.2.2.2.2.2.2.2.1, ⟨hk.1.1.1.1.2.2.2.2.2.2.2.2, hk.1.2⟩⟩⟩⟩⟩⟩⟩⟩⟩⟩⟩)⟩
          have n5_ : Aside0 (Kd.R (Kd.int .i64) 3 ((w130.setCell ⟨Q0h, 0, none⟩ (.slice Q0j t127.length Q0k)).setCell ⟨Q0h, 1, none⟩ (.slice Q0l t130.length Q0m)) w.heap.size (fun k_ => (w.heap.size ≤ k_) ∧ some k_ ≠ (.slice Q0j t127.length Q0k : Value).ownBlock ∧ some k_ ≠ (.slice Q0l t130.length Q0m : Value).ownBlock) (.slice Q0n t115.length Q0o) t115) := ⟨by (with_reducible repeat (first | apply rA | apply rN | apply rD)); exact Kd.R_mono (Kd.R_far (p := ⟨Q0h, 1, none⟩) (Kd.R_far (p := ⟨Q0h, 0, none⟩) (Kd.R_types Q0s.out Q0v.out (by decide)) (fun _ hk => hk.2) (.slice Q0j t127.length Q0k)) (fun _ hk => hk.2) (.slice Q0l t130.length Q0m)) (fun _ hk => ⟨hk.1.1.1, ⟨hk.1.1.2, hk.1.2⟩⟩)⟩
          have n6_ : Aside0 (Kd.R k38 38 ((w130.setCell ⟨Q0h, 0, none⟩ (.slice Q0j t127.length Q0k)).setCell ⟨Q0h, 1, none⟩ (.slice Q0l t130.length Q0m)) w.heap.size (fun k_ => (w.heap.size ≤ k_)) u122001 x122001_3) := ⟨by (with_reducible repeat (first | apply rA | apply rN | apply rD)); exact Kd.R_mono (Kd.R_far (p := ⟨Q0h, 1, none⟩) (Kd.R_far (p := ⟨Q0h, 0, none⟩) (Kd.R_types Q0p.out Q0v.out (by decide)) (fun _ hk => hk.2) (.slice Q0j t127.length Q0k)) (fun _ hk => hk.2) (.slice Q0l t130.length Q0m)) (fun _ hk => hk.1)⟩
          have n7_ : Aside0 (Kd.R (Kd.int .i64) 3 ((w130.setCell ⟨Q0h, 0, none⟩ (.slice Q0j t127.length Q0k)).setCell ⟨Q0h, 1, none⟩ (.slice Q0l t130.length Q0m)) w.heap.size (fun k_ => (w.heap.size ≤ k_) ∧ some k_ ≠ (.slice Q0n t115.length Q0o : Value).ownBlock ∧ some k_ ≠ (.slice Q0l t130.length Q0m : Value).ownBlock) (.slice Q0j t127.length Q0k) t127) := ⟨by (with_reducible repeat (first | apply rA | apply rN | apply rD)); exact Kd.R_mono (Kd.R_far (p := ⟨Q0h, 1, none⟩) (Kd.R_far (p := ⟨Q0h, 0, none⟩) (Kd.R_types Q0y.out Q0v.out (by decide)) (fun _ hk => hk.2) (.slice Q0j t127.length Q0k)) (fun _ hk => hk.2) (.slice Q0l t130.length Q0m)) (fun _ hk => ⟨hk.1.1.1.1, ⟨hk.1.1.2, hk.1.2⟩⟩)⟩
          have n8_ : Aside0 (Kd.R (Kd.int .i64) 3 ((w130.setCell ⟨Q0h, 0, none⟩ (.slice Q0j t127.length Q0k)).setCell ⟨Q0h, 1, none⟩ (.slice Q0l t130.length Q0m)) w.heap.size (fun k_ => (w.heap.size ≤ k_) ∧ some k_ ≠ (.slice Q0n t115.length Q0o : Value).ownBlock ∧ some k_ ≠ (.slice Q0j t127.length Q0k : Value).ownBlock) (.slice Q0l t130.length Q0m) t130) := ⟨by (with_reducible repeat (first | apply rA | apply rN | apply rD)); exact Kd.R_mono (Kd.R_far (p := ⟨Q0h, 1, none⟩) (Kd.R_far (p := ⟨Q0h, 0, none⟩) (Kd.R_types Q0z.out Q0v.out (by decide)) (fun _ hk => hk.2) (.slice Q0j t127.length Q0k)) (fun _ hk => hk.2) (.slice Q0l t130.length Q0m)) (fun _ hk => ⟨hk.1.1.1.1, ⟨hk.1.1.2, hk.1.2⟩⟩)⟩
          have n9_ : Aside0 (((w130.setCell ⟨Q0h, 0, none⟩ (.slice Q0j t127.length Q0k)).setCell ⟨Q0h, 1, none⟩ (.slice Q0l t130.length Q0m)).heap[Q0b]? = some (.cells #[.slice A0_0 l0_0.length c0_0, .slice A0_1 l0_1.length c0_1] 25 (0, 0))) := ⟨by (with_reducible repeat (first | refine bN ?_ _ | refine bD ?_ | refine bA ?_ _)); refine blk_far ?_ Q43.out _; (with_reducible repeat (first | refine bN ?_ _ | refine bD ?_ | refine bA ?_ _)); refine blk_far ?_ Q43.out _; (with_reducible repeat (first | refine bN ?_ _ | refine bD ?_ | refine bA ?_ _)); exact Q01.out⟩
          have n10_ : Aside0 (((w130.setCell ⟨Q0h, 0, none⟩ (.slice Q0j t127.length Q0k)).setCell ⟨Q0h, 1, none⟩ (.slice Q0l t130.length Q0m)).heap[Q0a]? = some (.cells #[.slice A1_0 l1_0.length c1_0, .slice A1_1 l1_1.length c1_1] 25 (0, 0))) := ⟨by (with_reducible repeat (first | refine bN ?_ _ | refine bD ?_ | refine bA ?_ _)); refine blk_far ?_ Q44.out _; (with_reducible repeat (first | refine bN ?_ _ | refine bD ?_ | refine bA ?_ _)); refine blk_far ?_ Q44.out _; (with_reducible repeat (first | refine bN ?_ _ | refine bD ?_ | refine bA ?_ _)); exact Q00.out⟩
          have n11_ : Aside0 (((w130.setCell ⟨Q0h, 0, none⟩ (.slice Q0j t127.length Q0k)).setCell ⟨Q0h, 1, none⟩ (.slice Q0l t130.length Q0m)).heap[Q06]? = some (.cells #[.slice none 0 0, .slice none 0 0] 25 (0, 0))) := ⟨by (with_reducible repeat (first | refine bN ?_ _ | refine bD ?_ | refine bA ?_ _)); refine blk_far ?_ Q3d.out _; (with_reducible repeat (first | refine bN ?_ _ | refine bD ?_ | refine bA ?_ _)); refine blk_far ?_ Q3d.out _; (with_reducible repeat (first | refine bN ?_ _ | refine bD ?_ | refine bA ?_ _)); exact Q02.out⟩
          have n12_ : Aside0 (((w130.setCell ⟨Q0h, 0, none⟩ (.slice Q0j t127.length Q0k)).setCell ⟨Q0h, 1, none⟩ (.slice Q0l t130.length Q0m)).heap[Q07]? = some (.cells #[.slice none 0 0, .slice none 0 0] 29 (0, 0))) := ⟨by (with_reducible repeat (first | refine bN ?_ _ | refine bD ?_ | refine bA ?_ _)); refine blk_far ?_ Q3e.out _; (with_reducible repeat (first | refine bN ?_ _ | refine bD ?_ | refine bA ?_ _)); refine blk_far ?_ Q3e.out _; (with_reducible repeat (first | refine bN ?_ _ | refine bD ?_ | refine bA ?_ _)); exact Q03.out⟩
          have n13_ : Aside0 (((w130.setCell ⟨Q0h, 0, none⟩ (.slice Q0j t127.length Q0k)).setCell ⟨Q0h, 1, none⟩ (.slice Q0l t130.length Q0m)).heap[Q08]? = some (.cells #[.slice none 0 0, .slice none 0 0] 29 (0, 0))) := ⟨by (with_reducible repeat (first | refine bN ?_ _ | refine bD ?_ | refine bA ?_ _)); refine blk_far ?_ Q3f.out _; (with_reducible repeat (first | refine bN ?_ _ | refine bD ?_ | refine bA ?_ _)); refine blk_far ?_ Q3f.out _; (with_reducible repeat (first | refine bN ?_ _ | refine bD ?_ | refine bA ?_ _)); exact Q04.out⟩
          have n14_ : Aside0 (((w130.setCell ⟨Q0h, 0, none⟩ (.slice Q0j t127.length Q0k)).setCell ⟨Q0h, 1, none⟩ (.slice Q0l t130.length Q0m)).heap[Q05]? = some (.cells #[.slice Q0n t115.length Q0o, u122001] 25 (0, 0))) := ⟨by (with_reducible repeat (first | refine bN ?_ _ | refine bD ?_ | refine bA ?_ _)); refine blk_far ?_ Q45.out _; (with_reducible repeat (first | refine bN ?_ _ | refine bD ?_ | refine bA ?_ _)); refine blk_far ?_ Q45.out _; (with_reducible repeat (first | refine bN ?_ _ | refine bD ?_ | refine bA ?_ _)); exact Q0g.out⟩
          have n15_ : Aside0 (((w130.setCell ⟨Q0h, 0, none⟩ (.slice Q0j t127.length Q0k)).setCell ⟨Q0h, 1, none⟩ (.slice Q0l t130.length Q0m)).heap[Q0h]? = some (.cells #[.slice Q0j t127.length Q0k, .slice Q0l t130.length Q0m] 29 (0, 0))) := ⟨by (with_reducible repeat (first | refine bN ?_ _ | refine bD ?_ | refine bA ?_ _)); refine blk_put (cs := #[.slice Q0j t127.length Q0k, .slice none 0 0]) ?_ 1 _ rfl; (with_reducible repeat (first | refine bN ?_ _ | refine bD ?_ | refine bA ?_ _)); refine blk_put (cs := #[.slice none 0 0, .slice none 0 0]) ?_ 0 _ rfl; (with_reducible repeat (first | refine bN ?_ _ | refine bD ?_ | refine bA ?_ _)); exact Q0v.out⟩
          have n16_ : Aside0 (Below w.heap.size w ((w130.setCell ⟨Q0h, 0, none⟩ (.slice Q0j t127.length Q0k)).setCell ⟨Q0h, 1, none⟩ (.slice Q0l t130.length Q0m))) := ⟨pH HB⟩
          (try clear Q0x)
          (try clear Q0d)
          (try clear Q0c)
          (try clear Q0e)
          (try clear Q0f)
          (try clear Q0s)
          (try clear Q0p)
          (try clear Q0y)
          (try clear Q0z)
          (try clear Q01)
          (try clear Q00)
          (try clear Q02)
          (try clear Q03)
          (try clear Q04)
          (try clear Q0g)
          (try clear Q0v)
          (try clear HB)
          generalize ((w130.setCell ⟨Q0h, 0, none⟩ (.slice Q0j t127.length Q0k)).setCell ⟨Q0h, 1, none⟩ (.slice Q0l t130.length Q0m)) = w138 at n0_ n1_ n2_ n3_ n4_ n5_ n6_ n7_ n8_ n9_ n10_ n11_ n12_ n13_ n14_ n15_ n16_ ⊢
          have Q0x := n0_
          have Q0d := n1_
          have Q0c := n2_
          have Q0e := n3_
          have Q0f := n4_
          have Q0s := n5_
          have Q0p := n6_
          have Q0y := n7_
          have Q0z := n8_
          have Q01 := n9_
          have Q00 := n10_
          have Q02 := n11_
          have Q03 := n12_
          have Q04 := n13_
          have Q0g := n14_
          have Q0v := n15_
          have HB := n16_
          clear n0_ n1_ n2_ n3_ n4_ n5_ n6_ n7_ n8_ n9_ n10_ n11_ n12_ n13_ n14_ n15_ n16_
          replace Q0x := Aside0.mk (Kd.V_drew Q0x.out)
          replace Q0d := Aside0.mk (Kd.V_drew Q0d.out)
          replace Q0c := Aside0.mk (Kd.V_drew Q0c.out)
          replace Q0e := Aside0.mk (Kd.V_drew Q0e.out)
          replace Q0f := Aside0.mk (Kd.V_drew Q0f.out)
          replace Q0s := Aside0.mk (rD Q0s.out)
          replace Q0p := Aside0.mk (rD Q0p.out)
          replace Q0y := Aside0.mk (rD Q0y.out)
          replace Q0z := Aside0.mk (rD Q0z.out)
          replace Q01 := Aside0.mk (bD Q01.out)
          replace Q00 := Aside0.mk (bD Q00.out)
          replace Q02 := Aside0.mk (bD Q02.out)
          replace Q03 := Aside0.mk (bD Q03.out)
          replace Q04 := Aside0.mk (bD Q04.out)
          replace Q0g := Aside0.mk (bD Q0g.out)
          replace Q0v := Aside0.mk (bD Q0v.out)
          replace HB := Aside0.mk (wD HB.out)
          refine start_ (n := 13) (S := fun w' => w'.cell? ⟨Q0a, 0, none⟩ = some (.slice A1_0 l1_0.length c1_0) ∧ w'.cell? ⟨Q0a, 1, none⟩ = some (.slice A1_1 l1_1.length c1_1)) (ds := []) #[false, false, false, false, false, false, false, false, false, false, false, false, false] (by kernel_rfl) rfl rfl ⟨(blk_cell Q00.out 0).trans rfl, (blk_cell Q00.out 1).trans rfl⟩ (fun hHeld => ?_); refine with_tabW graph_Union.tab18 graph_Union.bits18 (fun HT_ HW_ => ?_)
          generalize w138.drew = w139 at Q0x Q0d Q0c Q0e Q0f Q0s Q0p Q0y Q0z Q01 Q00 Q02 Q03 Q04 Q0g Q0v HB hHeld ⊢
          refine pure_ (i := 0) (N := some 97) (v := ?_) (a' := ?_) #[true, false, false, false, false, false, false, false, false, false, false, false, false] rfl rfl (any_of HT_.out (by kernel_rfl)) (fun _ _ _ h => h) (Or.inl ⟨by rfl, ?_⟩) ?_ ?_
          rotate_left
          ·intro w'
           go_simp
           with_reducible rfl
          rotate_left
          ·simp only [Act.put, List.setIfInBounds_toArray, List.set_cons_zero, List.set_cons_succ, i64_w, i32_w]
           rfl
          refine pure_ (i := 1) (N := some 98) (v := ?_) (a' := ?_) #[true, true, false, false, false, false, false, false, false, false, false, false, false] rfl rfl (any_of HT_.out (by kernel_rfl)) (fun _ _ _ h => h) (Or.inl ⟨by rfl, ?_⟩) ?_ ?_
          rotate_left
          ·intro w'
           go_simp
           with_reducible rfl
          rotate_left
          ·simp only [Act.put, List.setIfInBounds_toArray, List.set_cons_zero, List.set_cons_succ, i64_w, i32_w]
           rfl
          refine pure_ (i := 5) (N := some 102) (v := ?_) (a' := ?_) #[true, true, false, false, false, true, false, false, false, false, false, false, false] rfl rfl (any_of HT_.out (by kernel_rfl)) (fun _ _ _ h => h) (Or.inl ⟨by rfl, ?_⟩) ?_ ?_
          rotate_left
          ·intro w'
           go_simp
           with_reducible rfl
          rotate_left
          ·simp only [Act.put, List.setIfInBounds_toArray, List.set_cons_zero, List.set_cons_succ, i64_w, i32_w]
           rfl
          refine pure_ (i := 6) (N := some 103) (v := ?_) (a' := ?_) #[true, true, false, false, false, true, true, false, false, false, false, false, false] rfl rfl (any_of HT_.out (by kernel_rfl)) (fun _ _ _ h => h) (Or.inl ⟨by rfl, ?_⟩) ?_ ?_
          rotate_left
          ·intro w'
           go_simp
           with_reducible rfl
          rotate_left
          ·simp only [Act.put, List.setIfInBounds_toArray, List.set_cons_zero, List.set_cons_succ, i64_w, i32_w]
           rfl
          refine take_ (i := 2) (N := some 99) (v := ?_) (a' := ?_) #[true, true, true, false, false, true, true, false, false, false, false, false, false] rfl rfl (take_ofW HT_.out HW_.out (by kernel_rfl)) (fun _ _ _ h => h) (Or.inl ⟨by rfl, ?_⟩) hHeld ?_ ?_
          rotate_left
          ·rintro w' ⟨s0, s1⟩
           go_simp
           with_reducible rfl
          rotate_left
          ·simp only [Act.put, List.setIfInBounds_toArray, List.set_cons_zero, List.set_cons_succ, i64_w, i32_w]
           rfl
          refine pure_ (i := 3) (N := some 100) (v := ?_) (a' := ?_) #[true, true, true, true, false, true, true, false, false, false, false, false, false] rfl rfl (any_of HT_.out (by kernel_rfl)) (fun _ _ _ h => h) (Or.inl ⟨by rfl, ?_⟩) ?_ ?_
          rotate_left
          ·intro w'
           go_simp
           with_reducible rfl
          rotate_left
          ·simp only [Act.put, List.setIfInBounds_toArray, List.set_cons_zero, List.set_cons_succ, i64_w, i32_w]
           rfl
          refine take_ (i := 7) (N := some 104) (v := ?_) (a' := ?_) #[true, true, true, true, false, true, true, true, false, false, false, false, false] rfl rfl (take_ofW HT_.out HW_.out (by kernel_rfl)) (fun _ _ _ h => h) (Or.inl ⟨by rfl, ?_⟩) hHeld ?_ ?_
          rotate_left
          ·rintro w' ⟨s0, s1⟩
           go_simp
           with_reducible rfl
          rotate_left
          ·simp only [Act.put, List.setIfInBounds_toArray, List.set_cons_zero, List.set_cons_succ, i64_w, i32_w]
           rfl
          refine pure_ (i := 8) (N := some 105) (v := ?_) (a' := ?_) #[true, true, true, true, false, true, true, true, true, false, false, false, false] rfl rfl (any_of HT_.out (by kernel_rfl)) (fun _ _ _ h => h) (Or.inl ⟨by rfl, ?_⟩) ?_ ?_
          rotate_left
          ·intro w'
           go_simp
           with_reducible rfl
          rotate_left
          ·simp only [Act.put, List.setIfInBounds_toArray, List.set_cons_zero, List.set_cons_succ, i64_w, i32_w]
           rfl
          refine join_ (σ := Value × Value × Nat) 1 #[true, true, true, true, true, true, true, true, true, true, true, true, false] (fun s_ => [(101, s_.1), (106, s_.2.1), (17, .pointer (some ⟨s_.2.2, 0, none⟩)), (107, .agg #[s_.1, s_.2.1])]) (fun s_ w' => (w'.cell? ⟨Q0a, 0, none⟩ = some (.slice A1_0 l1_0.length c1_0) ∧ w'.cell? ⟨Q0a, 1, none⟩ = some (.slice A1_1 l1_1.length c1_1)) ∧ (Kd.R (Kd.int .i64) 3 w' w.heap.size (fun k_ => (w.heap.size ≤ k_) ∧ some k_ ≠ (.slice Q0l t130.length Q0m : Value).ownBlock ∧ some k_ ≠ (s_.1 : Value).ownBlock ∧ some k_ ≠ (s_.2.1 : Value).ownBlock ∧ some k_ ≠ (.slice Q0n t115.length Q0o : Value).ownBlock) (.slice Q0j t127.length Q0k) t127) ∧ (Kd.R (Kd.int .i64) 3 w' w.heap.size (fun k_ => (w.heap.size ≤ k_) ∧ some k_ ≠ (.slice Q0j t127.length Q0k : Value).ownBlock ∧ some k_ ≠ (s_.1 : Value).ownBlock ∧ some k_ ≠ (s_.2.1 : Value).ownBlock ∧ some k_ ≠ (.slice Q0n t115.length Q0o : Value).ownBlock) (.slice Q0l t130.length Q0m) t130) ∧ (Kd.R (Kd.int .i64) 3 w' w.heap.size (fun k_ => (w.heap.size ≤ k_) ∧ some k_ ≠ (.slice Q0j t127.length Q0k : Value).ownBlock ∧ some k_ ≠ (.slice Q0l t130.length Q0m : Value).ownBlock ∧ some k_ ≠ (s_.2.1 : Value).ownBlock ∧ some k_ ≠ (.slice Q0n t115.length Q0o : Value).ownBlock) s_.1 t134) ∧ (Kd.R (Kd.int .i64) 3 w' w.heap.size (fun k_ => (w.heap.size ≤ k_) ∧ some k_ ≠ (.slice Q0j t127.length Q0k : Value).ownBlock ∧ some k_ ≠ (.slice Q0l t130.length Q0m : Value).ownBlock ∧ some k_ ≠ (s_.1 : Value).ownBlock ∧ some k_ ≠ (.slice Q0n t115.length Q0o : Value).ownBlock) s_.2.1 t137) ∧ (Kd.V (Kd.int .i64) 3 w' w.heap.size (fun k_ => ((P0_0_ k_ ∨ P0_1_ k_ ∨ P1_0_ k_ ∨ P1_1_ k_) ∨ w.heap.size ≤ k_) ∧ some k_ ≠ (.slice Q0j t127.length Q0k : Value).ownBlock ∧ some k_ ≠ (.slice Q0l t130.length Q0m : Value).ownBlock ∧ some k_ ≠ (s_.1 : Value).ownBlock ∧ some k_ ≠ (s_.2.1 : Value).ownBlock ∧ some k_ ≠ (.slice Q0n t115.length Q0o : Value).ownBlock ∧ some k_ ≠ (u122001 : Value).ownBlock ∧ k_ ≠ Q0b ∧ k_ ≠ Q0a ∧ k_ ≠ Q06 ∧ k_ ≠ Q07 ∧ k_ ≠ Q08 ∧ k_ ≠ Q05 ∧ k_ ≠ Q0h ∧ k_ ≠ s_.2.2) (.slice A0_0 l0_0.length c0_0) l0_0) ∧ (Kd.V k38 38 w' w.heap.size (fun k_ => ((P0_0_ k_ ∨ P0_1_ k_ ∨ P1_0_ k_ ∨ P1_1_ k_) ∨ w.heap.size ≤ k_) ∧ some k_ ≠ (.slice Q0j t127.length Q0k : Value).ownBlock ∧ some k_ ≠ (.slice Q0l t130.length Q0m : Value).ownBlock ∧ some k_ ≠ (s_.1 : Value).ownBlock ∧ some k_ ≠ (s_.2.1 : Value).ownBlock ∧ some k_ ≠ (.slice Q0n t115.length Q0o : Value).ownBlock ∧ some k_ ≠ (u122001 : Value).ownBlock ∧ k_ ≠ Q0b ∧ k_ ≠ Q0a ∧ k_ ≠ Q06 ∧ k_ ≠ Q07 ∧ k_ ≠ Q08 ∧ k_ ≠ Q05 ∧ k_ ≠ Q0h ∧ k_ ≠ s_.2.2) (.slice A0_1 l0_1.length c0_1) l0_1) ∧ (Kd.V (Kd.int .i64) 3 w' w.heap.size (fun k_ => ((P0_0_ k_ ∨ P0_1_ k_ ∨ P1_0_ k_ ∨ P1_1_ k_) ∨ w.heap.size ≤ k_) ∧ some k_ ≠ (.slice Q0j t127.length Q0k : Value).ownBlock ∧ some k_ ≠ (.slice Q0l t130.length Q0m : Value).ownBlock ∧ some k_ ≠ (s_.1 : Value).ownBlock ∧ some k_ ≠ (s_.2.1 : Value).ownBlock ∧ some k_ ≠ (.slice Q0n t115.length Q0o : Value).ownBlock ∧ some k_ ≠ (u122001 : Value).ownBlock ∧ k_ ≠ Q0b ∧ k_ ≠ Q0a ∧ k_ ≠ Q06 ∧ k_ ≠ Q07 ∧ k_ ≠ Q08 ∧ k_ ≠ Q05 ∧ k_ ≠ Q0h ∧ k_ ≠ s_.2.2) (.slice A1_0 l1_0.length c1_0) l1_0) ∧ (Kd.V k38 38 w' w.heap.size (fun k_ => ((P0_0_ k_ ∨ P0_1_ k_ ∨ P1_0_ k_ ∨ P1_1_ k_) ∨ w.heap.size ≤ k_) ∧ some k_ ≠ (.slice Q0j t127.length Q0k : Value).ownBlock ∧ some k_ ≠ (.slice Q0l t130.length Q0m : Value).ownBlock ∧ some k_ ≠ (s_.1 : Value).ownBlock ∧ some k_ ≠ (s_.2.1 : Value).ownBlock ∧ some k_ ≠ (.slice Q0n t115.length Q0o : Value).ownBlock ∧ some k_ ≠ (u122001 : Value).ownBlock ∧ k_ ≠ Q0b ∧ k_ ≠ Q0a ∧ k_ ≠ Q06 ∧ k_ ≠ Q07 ∧ k_ ≠ Q08 ∧ k_ ≠ Q05 ∧ k_ ≠ Q0h ∧ k_ ≠ s_.2.2) (.slice A1_1 l1_1.length c1_1) l1_1) ∧ (Kd.R (Kd.int .i64) 3 w' w.heap.size (fun k_ => (w.heap.size ≤ k_) ∧ some k_ ≠ (.slice Q0j t127.length Q0k : Value).ownBlock ∧ some k_ ≠ (.slice Q0l t130.length Q0m : Value).ownBlock ∧ some k_ ≠ (s_.1 : Value).ownBlock ∧ some k_ ≠ (s_.2.1 : Value).ownBlock) (.slice Q0n t115.length Q0o) t115) ∧ (Kd.R k38 38 w' w.heap.size (fun k_ => (w.heap.size ≤ k_)) u122001 x122001_3) ∧ (Kd.V k38 38 w' w.heap.size (fun k_ => ((P0_0_ k_ ∨ P0_1_ k_ ∨ P1_0_ k_ ∨ P1_1_ k_) ∨ w.heap.size ≤ k_) ∧ some k_ ≠ (.slice Q0j t127.length Q0k : Value).ownBlock ∧ some k_ ≠ (.slice Q0l t130.length Q0m : Value).ownBlock ∧ some k_ ≠ (s_.1 : Value).ownBlock ∧ some k_ ≠ (s_.2.1 : Value).ownBlock ∧ some k_ ≠ (.slice Q0n t115.length Q0o : Value).ownBlock ∧ some k_ ≠ (u122001 : Value).ownBlock ∧ k_ ≠ Q0b ∧ k_ ≠ Q0a ∧ k_ ≠ Q06 ∧ k_ ≠ Q07 ∧ k_ ≠ Q08 ∧ k_ ≠ Q05 ∧ k_ ≠ Q0h ∧ k_ ≠ s_.2.2) (.slice A1_1 l1_1.length c1_1) l1_1) ∧ (w'.heap[Q0b]? = some (.cells #[.slice A0_0 l0_0.length c0_0, .slice A0_1 l0_1.length c0_1] 25 (0, 0))) ∧ (w'.heap[Q0a]? = some (.cells #[.slice A1_0 l1_0.length c1_0, .slice A1_1 l1_1.length c1_1] 25 (0, 0))) ∧ (w'.heap[Q06]? = some (.cells #[.slice none 0 0, .slice none 0 0] 25 (0, 0))) ∧ (w'.heap[Q07]? = some (.cells #[.slice none 0 0, .slice none 0 0] 29 (0, 0))) ∧ (w'.heap[Q08]? = some (.cells #[.slice none 0 0, .slice none 0 0] 29 (0, 0))) ∧ (w'.heap[Q05]? = some (.cells #[.slice Q0n t115.length Q0o, u122001] 25 (0, 0))) ∧ (w'.heap[Q0h]? = some (.cells #[.slice Q0j t127.length Q0k, .slice Q0l t130.length Q0m] 29 (0, 0))) ∧ (w'.heap[s_.2.2]? = some (.cells #[.slice none 0 0, .slice none 0 0] 29 (0, 0))) ∧ (w.heap.size ≤ s_.2.2) ∧ (w.heap.size ≤ s_.2.2) ∧ (Q0b ≠ s_.2.2) ∧ (s_.2.2 ≠ Q0b) ∧ (Q0a ≠ s_.2.2) ∧ (s_.2.2 ≠ Q0a) ∧ (Q06 ≠ s_.2.2) ∧ (s_.2.2 ≠ Q06) ∧ (Q07 ≠ s_.2.2) ∧ (s_.2.2 ≠ Q07) ∧ (Q08 ≠ s_.2.2) ∧ (s_.2.2 ≠ Q08) ∧ (Q05 ≠ s_.2.2) ∧ (s_.2.2 ≠ Q05) ∧ (Q0h ≠ s_.2.2) ∧ (s_.2.2 ≠ Q0h) ∧ (Below w.heap.size w w')) ?_ ?_
          rotate_left
          ·intro hCont
           refine two_ (i := 4) (j := 11) (Ni := some 101) (Nj := some 17) #[true, true, true, true, true, true, true, true, true, false, false, false, false] #[true, true, true, true, false, true, true, true, true, false, false, true, false] rfl rfl rfl rfl (two_of HT_.out (by kernel_rfl)) (by decide) (by decide) (fun K hK => ?_) (fun K hK => ?_)
           ·skip
            refine goes_ Try.func45 (by kernel_rfl) rfl #[.int .i64 (l0_0.length : Int), .int .i64 (l1_0.length : Int)] (by rfl) rfl rfl aM ?_
            with_reducible refine (graph_numbers.calls k3 (l0_0.length : Int) (l1_0.length : Int) t134 _ A124.out).mono ?_
            rintro e w140 ⟨v135, rfl, ho0, hb⟩
            refine ⟨_, rfl, ?_⟩
            replace Q0x := eV Q0x (Kd.R_base ho0) hb
            replace Q0d := eV Q0d (Kd.R_base ho0) hb
            replace Q0c := eV Q0c (Kd.R_base ho0) hb
            replace Q0e := eV Q0e (Kd.R_base ho0) hb
            replace Q0f := eV Q0f (Kd.R_base ho0) hb
            replace Q0p := uR Q0p hb
            have Q12 := Aside0.mk (Kd.R_lower (Kd.R_new' (Kd.R_new' (Kd.R_new' (Kd.R_newM (M := fun k_ => (w.heap.size ≤ k_)) ho0 (below_size (pH HB)) (fun k_ h_ => h_)) (Kd.R_lt (pR Q0s))) (Kd.R_lt (pR Q0y))) (Kd.R_lt (pR Q0z))) (below_size (pH HB)))
            replace Q0s := eR Q0s (Kd.R_base ho0) hb
            replace Q0y := eR Q0y (Kd.R_base ho0) hb
            replace Q0z := eR Q0z (Kd.R_base ho0) hb
            replace Q01 := uB Q01 hb
            replace Q00 := uB Q00 hb
            replace Q02 := uB Q02 hb
            replace Q03 := uB Q03 hb
            replace Q04 := uB Q04 hb
            replace Q0g := uB Q0g hb
            replace Q0v := uB Q0v hb
            replace HB := uH HB hb
            (try clear hb)
            (try clear hb2)
            (try clear hk)
            (try clear hi)
            (try clear ho0)
            refine hK.out _ _ ⟨(blk_cell Q00.out 0).trans rfl, (blk_cell Q00.out 1).trans rfl⟩ (fun hHeld => ?_)
            clear hK K
            refine norm_ (a' := ?_) ?_ ?_
            rotate_left
            ·show Act.put _ (some 101) _ = _
             simp only [Act.put, List.setIfInBounds_toArray, List.set_cons_zero, List.set_cons_succ, i64_w, i32_w]
             rfl
            refine two_ (i := 9) (j := 11) (Ni := some 106) (Nj := some 17) #[true, true, true, true, true, true, true, true, true, true, false, false, false] #[true, true, true, true, true, true, true, true, true, false, false, true, false] rfl rfl rfl rfl (two_of HT_.out (by kernel_rfl)) (by decide) (by decide) (fun K hK => ?_) (fun K hK => ?_)
            ·skip
             refine goes_ Try.func45 (by kernel_rfl) rfl #[.int .i64 (l0_1.length : Int), .int .i64 (l1_1.length : Int)] (by rfl) rfl rfl aM ?_
             with_reducible refine (graph_numbers.calls k3 (l0_1.length : Int) (l1_1.length : Int) t137 _ A125.out).mono ?_
             rintro e w141 ⟨v138, rfl, ho0, hb⟩
             refine ⟨_, rfl, ?_⟩
             replace Q0x := eV Q0x (Kd.R_base ho0) hb
             replace Q0d := eV Q0d (Kd.R_base ho0) hb
             replace Q0c := eV Q0c (Kd.R_base ho0) hb
             replace Q0e := eV Q0e (Kd.R_base ho0) hb
             replace Q0f := eV Q0f (Kd.R_base ho0) hb
             replace Q0p := uR Q0p hb
             have Q15 := Aside0.mk (Kd.R_lower (Kd.R_new' (Kd.R_new' (Kd.R_new' (Kd.R_new' (Kd.R_newM (M := fun k_ => (w.heap.size ≤ k_)) ho0 (below_size (pH HB)) (fun k_ h_ => h_)) (Kd.R_lt (pR Q0s))) (Kd.R_lt (pR Q0y))) (Kd.R_lt (pR Q0z))) (Kd.R_lt (pR Q12))) (below_size (pH HB)))
             replace Q0s := eR Q0s (Kd.R_base ho0) hb
             replace Q0y := eR Q0y (Kd.R_base ho0) hb
             replace Q0z := eR Q0z (Kd.R_base ho0) hb
             replace Q12 := eR Q12 (Kd.R_base ho0) hb
             replace Q01 := uB Q01 hb
             replace Q00 := uB Q00 hb
             replace Q02 := uB Q02 hb
             replace Q03 := uB Q03 hb
             replace Q04 := uB Q04 hb
             replace Q0g := uB Q0g hb
             replace Q0v := uB Q0v hb
             replace HB := uH HB hb
             (try clear hb)
             (try clear hb2)
             (try clear hk)
             (try clear hi)
             (try clear ho0)
             obtain ⟨Q68, Q69, Q4n⟩ := Kd.R_slice Q15.out
             (first | subst Q4n | (injection Q4n with f1_ f2_ f3_; have f4_ := f1_.symm; have f5_ := f3_.symm; clear f1_ f2_ f3_; subst f4_; subst f5_))
             obtain ⟨Q3g, Q3h, Q2h⟩ := Kd.R_slice Q12.out
             (first | subst Q2h | (injection Q2h with f1_ f2_ f3_; have f4_ := f1_.symm; have f5_ := f3_.symm; clear f1_ f2_ f3_; subst f4_; subst f5_))
             refine hK.out _ _ ⟨(blk_cell Q00.out 0).trans rfl, (blk_cell Q00.out 1).trans rfl⟩ (fun hHeld => ?_)
             clear hK K
             refine norm_ (a' := ?_) ?_ ?_
             rotate_left
             ·show Act.put _ (some 106) _ = _
              simp only [Act.put, List.setIfInBounds_toArray, List.set_cons_zero, List.set_cons_succ, i64_w, i32_w]
              rfl
             refine pure_ (i := 10) (N := some 107) (v := ?_) (a' := ?_) #[true, true, true, true, true, true, true, true, true, true, true, false, false] rfl rfl (any_of HT_.out (by kernel_rfl)) (fun _ _ _ h => h) (Or.inl ⟨by rfl, ?_⟩) ?_ ?_
             rotate_left
             ·intro w'
              go_simp
              with_reducible rfl
             rotate_left
             ·simp only [Act.put, List.setIfInBounds_toArray, List.set_cons_zero, List.set_cons_succ, i64_w, i32_w]
              rfl
             refine one_ (i := 11) (N := some 17) #[true, true, true, true, true, true, true, true, true, true, true, true, false] rfl rfl (one_of HT_.out (by kernel_rfl)) (by decide) (fun K hK => ?_)
             refine box_step ?hg (N := 17) ?hd (cs := #[.slice none 0 0, .slice none 0 0]) (t := 29) ?hr ?_; (case hd => rfl); (case hg => rfl); (case hr => first | (go_simp; done) | (go_simp; rfl))
             intro Q09 hg w144 hbox hb
             replace Q0x := gV Q0x Q09 hg hb
             replace Q0d := gV Q0d Q09 hg hb
             replace Q0c := gV Q0c Q09 hg hb
             replace Q0e := gV Q0e Q09 hg hb
             replace Q0f := gV Q0f Q09 hg hb
             replace Q0s := uR Q0s hb
             replace Q0p := uR Q0p hb
             replace Q0y := uR Q0y hb
             replace Q0z := uR Q0z hb
             replace Q12 := uR Q12 hb
             replace Q15 := uR Q15 hb
             have Q11 := Aside0.mk (hbox)
             have Q2z := uS HB hg
             have Q2y := uS HB hg
             replace HB := uH HB hb
             have Q21 := uL Q01 hg
             have Q2i := uG Q01 hg
             replace Q01 := uB Q01 hb
             have Q1j := uL Q00 hg
             have Q2j := uG Q00 hg
             replace Q00 := uB Q00 hb
             have Q1v := uL Q02 hg
             have Q1k := uG Q02 hg
             replace Q02 := uB Q02 hb
             have Q1w := uL Q03 hg
             have Q1l := uG Q03 hg
             replace Q03 := uB Q03 hb
             have Q1x := uL Q04 hg
             have Q1m := uG Q04 hg
             replace Q04 := uB Q04 hb
             have Q22 := uL Q0g hg
             have Q2k := uG Q0g hg
             replace Q0g := uB Q0g hb
             have Q23 := uL Q0v hg
             have Q2l := uG Q0v hg
             replace Q0v := uB Q0v hb
             clear hb hbox hg
             refine hK.out _ _ ⟨(blk_cell Q00.out 0).trans rfl, (blk_cell Q00.out 1).trans rfl⟩ (fun hHeld => ?_)
             clear hK K
             refine norm_ (a' := ?_) ?_ ?_
             rotate_left
             ·show Act.put _ (some 17) _ = _
              simp only [Act.put, List.setIfInBounds_toArray, List.set_cons_zero, List.set_cons_succ, i64_w, i32_w]
              rfl
             exact norm_ (by simp only [putAll, Act.put, List.setIfInBounds_toArray, List.set_cons_zero, List.set_cons_succ]) (hCont (.slice Q3g t134.length Q3h, .slice Q68 t137.length Q69, Q09) _ ⟨hHeld, (by (with_reducible repeat (first | apply rA | apply rN | apply rD)); exact Kd.R_mono Q0y.out (fun _ hk => ⟨hk.1.1.1, ⟨hk.1.1.2.2, ⟨hk.1.2, ⟨hk.2, hk.1.1.2.1⟩⟩⟩⟩)), (by (with_reducible repeat (first | apply rA | apply rN | apply rD)); exact Kd.R_mono Q0z.out (fun _ hk => ⟨hk.1.1.1, ⟨hk.1.1.2.2, ⟨hk.1.2, ⟨hk.2, hk.1.1.2.1⟩⟩⟩⟩)), (by (with_reducible repeat (first | apply rA | apply rN | apply rD)); exact Kd.R_mono Q12.out (fun _ hk => ⟨hk.1.1.1.1.1, ⟨hk.1.1.2, ⟨hk.1.2, ⟨hk.2, hk.1.1.1.2⟩⟩⟩⟩)), (by (with_reducible repeat (first | apply rA | apply rN | apply rD)); exact Kd.R_mono Q15.out (fun _ hk => ⟨hk.1.1.1.1.1, ⟨hk.1.1.2, ⟨hk.1.2, ⟨hk.2, hk.1.1.1.2⟩⟩⟩⟩)), (by (with_reducible repeat (first | apply Kd.V_alloc | apply Kd.V_drewN | apply Kd.V_drew)); exact Kd.V_mono Q0d.out (fun _ hk => ⟨hk.1.1.1.1, ⟨hk.1.1.1.2.2.2.1, ⟨hk.1.1.1.2.2.2.2.1, ⟨hk.1.1.2, ⟨hk.1.2, ⟨hk.1.1.1.2.1, ⟨hk.1.1.1.2.2.1, ⟨hk.1.1.1.2.2.2.2.2.1, ⟨hk.1.1.1.2.2.2.2.2.2.1, ⟨hk.1.1.1.2.2.2.2.2.2.2.1, ⟨hk.1.1.1.2.2.2.2.2.2.2.2.1, ⟨hk.1.1.1.2.2.2.2.2.2.2.2.2.1, ⟨hk.1.1.1.2.2.2.2.2.2.2.2.2.2.1, ⟨hk.1.1.1.2.2.2.2.2.2.2.2.2.2.2, hk.2⟩⟩⟩⟩⟩⟩⟩⟩⟩⟩⟩⟩⟩⟩)), (by (with_reducible repeat (first | apply Kd.V_alloc | apply Kd.V_drewN | apply Kd.V_drew)); exact Kd.V_mono Q0c.out (fun _ hk => ⟨hk.1.1.1.1, ⟨hk.1.1.1.2.2.2.1, ⟨hk.1.1.1.2.2.2.2.1, ⟨hk.1.1.2, ⟨hk.1.2, ⟨hk.1.1.1.2.1, ⟨hk.1.1.1.2.2.1, ⟨hk.1.1.1.2.2.2.2.2.1, ⟨hk.1.1.1.2.2.2.2.2.2.1, ⟨hk.1.1.1.2.2.2.2.2.2.2.1, ⟨hk.1.1.1.2.2.2.2.2.2.2.2.1, ⟨hk.1.1.1.2.2.2.2.2.2.2.2.2.1, ⟨hk.1.1.1.2.2.2.2.2.2.2.2.2.2.1, ⟨hk.1.1.1.2.2.2.2.2.2.2.2.2.2.2, hk.2⟩⟩⟩⟩⟩⟩⟩⟩⟩⟩⟩⟩⟩⟩)), (by (with_reducible repeat (first | apply Kd.V_alloc | apply Kd.V_drewN | apply Kd.V_drew)); exact Kd.V_mono Q0e.out (fun _ hk => ⟨hk.1.1.1.1, ⟨hk.1.1.1.2.2.2.1, ⟨hk.1.1.1.2.2.2.2.1, ⟨hk.1.1.2, ⟨hk.1.2, ⟨hk.1.1.1.2.1, ⟨hk.1.1.1.2.2.1, ⟨hk.1.1.1.2.2.2.2.2.1, ⟨hk.1.1.1.2.2.2.2.2.2.1, ⟨hk.1.1.1.2.2.2.2.2.2.2.1, ⟨hk.1.1.1.2.2.2.2.2.2.2.2.1, ⟨hk.1.1.1.2.2.2.2.2.2.2.2.2.1, ⟨hk.1.1.1.2.2.2.2.2.2.2.2.2.2.1, ⟨hk.1.1.1.2.2.2.2.2.2.2.2.2.2.2, hk.2⟩⟩⟩⟩⟩⟩⟩⟩⟩⟩⟩⟩⟩⟩)), (by (with_reducible repeat (first | apply Kd.V_alloc | apply Kd.V_drewN | apply Kd.V_drew)); exact Kd.V_mono Q0f.out (fun _ hk => ⟨hk.1.1.1.1, ⟨hk.1.1.1.2.2.2.1, ⟨hk.1.1.1.2.2.2.2.1, ⟨hk.1.1.2, ⟨hk.1.2, ⟨hk.1.1.1.2.1, ⟨hk.1.1.1.2.2.1, ⟨hk.1.1.1.2.2.2.2.2.1, ⟨hk.1.1.1.2.2.2.2.2.2.1, ⟨hk.1.1.1.2.2.2.2.2.2.2.1, ⟨hk.1.1.1.2.2.2.2.2.2.2.2.1, ⟨hk.1.1.1.2.2.2.2.2.2.2.2.2.1, ⟨hk.1.1.1.2.2.2.2.2.2.2.2.2.2.1, ⟨hk.1.1.1.2.2.2.2.2.2.2.2.2.2.2, hk.2⟩⟩⟩⟩⟩⟩⟩⟩⟩⟩⟩⟩⟩⟩)), (by (with_reducible repeat (first | apply rA | apply rN | apply rD)); exact Kd.R_mono Q0s.out (fun _ hk => ⟨hk.1.1.1, ⟨hk.1.1.2.1, ⟨hk.1.1.2.2, ⟨hk.1.2, hk.2⟩⟩⟩⟩)), (pR Q0p), (by (with_reducible repeat (first | apply Kd.V_alloc | apply Kd.V_drewN | apply Kd.V_drew)); exact Kd.V_mono Q0x.out (fun _ hk => ⟨hk.1.1.1.1, ⟨hk.1.1.1.2.2.2.1, ⟨hk.1.1.1.2.2.2.2.1, ⟨hk.1.1.2, ⟨hk.1.2, ⟨hk.1.1.1.2.1, ⟨hk.1.1.1.2.2.1, ⟨hk.1.1.1.2.2.2.2.2.1, ⟨hk.1.1.1.2.2.2.2.2.2.1, ⟨hk.1.1.1.2.2.2.2.2.2.2.1, ⟨hk.1.1.1.2.2.2.2.2.2.2.2.1, ⟨hk.1.1.1.2.2.2.2.2.2.2.2.2.1, ⟨hk.1.1.1.2.2.2.2.2.2.2.2.2.2.1, ⟨hk.1.1.1.2.2.2.2.2.2.2.2.2.2.2, hk.2⟩⟩⟩⟩⟩⟩⟩⟩⟩⟩⟩⟩⟩⟩)), (pB Q01), (pB Q00), (pB Q02), (pB Q03), (pB Q04), (pB Q0g), (pB Q0v), (pB Q11), Q2z.out, Q2y.out, Q21.out, Q2i.out, Q1j.out, Q2j.out, Q1v.out, Q1k.out, Q1w.out, Q1l.out, Q1x.out, Q1m.out, Q22.out, Q2k.out, Q23.out, Q2l.out, (pH HB)⟩)
            ·skip
             refine box_step ?hg (N := 17) ?hd (cs := #[.slice none 0 0, .slice none 0 0]) (t := 29) ?hr ?_; (case hd => rfl); (case hg => rfl); (case hr => first | (go_simp; done) | (go_simp; rfl))
             intro Q09 hg w141 hbox hb
             replace Q0x := gV Q0x Q09 hg hb
             replace Q0d := gV Q0d Q09 hg hb
             replace Q0c := gV Q0c Q09 hg hb
             replace Q0e := gV Q0e Q09 hg hb
             replace Q0f := gV Q0f Q09 hg hb
             replace Q0s := uR Q0s hb
             replace Q0p := uR Q0p hb
             replace Q0y := uR Q0y hb
             replace Q0z := uR Q0z hb
             replace Q12 := uR Q12 hb
             have Q11 := Aside0.mk (hbox)
             have Q2z := uS HB hg
             have Q2y := uS HB hg
             replace HB := uH HB hb
             have Q21 := uL Q01 hg
             have Q2i := uG Q01 hg
             replace Q01 := uB Q01 hb
             have Q1j := uL Q00 hg
             have Q2j := uG Q00 hg
             replace Q00 := uB Q00 hb
             have Q1v := uL Q02 hg
             have Q1k := uG Q02 hg
             replace Q02 := uB Q02 hb
             have Q1w := uL Q03 hg
             have Q1l := uG Q03 hg
             replace Q03 := uB Q03 hb
             have Q1x := uL Q04 hg
             have Q1m := uG Q04 hg
             replace Q04 := uB Q04 hb
             have Q22 := uL Q0g hg
             have Q2k := uG Q0g hg
             replace Q0g := uB Q0g hb
             have Q23 := uL Q0v hg
             have Q2l := uG Q0v hg
             replace Q0v := uB Q0v hb
             clear hb hbox hg
             refine hK.out _ _ ⟨(blk_cell Q00.out 0).trans rfl, (blk_cell Q00.out 1).trans rfl⟩ (fun hHeld => ?_)
             clear hK K
             refine norm_ (a' := ?_) ?_ ?_
             rotate_left
             ·show Act.put _ (some 17) _ = _
              simp only [Act.put, List.setIfInBounds_toArray, List.set_cons_zero, List.set_cons_succ, i64_w, i32_w]
              rfl
             refine one_ (i := 9) (N := some 106) #[true, true, true, true, true, true, true, true, true, true, false, true, false] rfl rfl (one_of HT_.out (by kernel_rfl)) (by decide) (fun K hK => ?_)
             refine goes_ Try.func45 (by kernel_rfl) rfl #[.int .i64 (l0_1.length : Int), .int .i64 (l1_1.length : Int)] (by rfl) rfl rfl aM ?_
             with_reducible refine (graph_numbers.calls k3 (l0_1.length : Int) (l1_1.length : Int) t137 _ A125.out).mono ?_
             rintro e w142 ⟨v138, rfl, ho0, hb⟩
             refine ⟨_, rfl, ?_⟩
             replace Q0x := eV Q0x (Kd.R_base ho0) hb
             replace Q0d := eV Q0d (Kd.R_base ho0) hb
             replace Q0c := eV Q0c (Kd.R_base ho0) hb
             replace Q0e := eV Q0e (Kd.R_base ho0) hb
             replace Q0f := eV Q0f (Kd.R_base ho0) hb
             replace Q0p := uR Q0p hb
             have Q15 := Aside0.mk (Kd.R_lower (Kd.R_new' (Kd.R_new' (Kd.R_new' (Kd.R_new' (Kd.R_newM (M := fun k_ => (w.heap.size ≤ k_)) ho0 (below_size (pH HB)) (fun k_ h_ => h_)) (Kd.R_lt (pR Q0s))) (Kd.R_lt (pR Q0y))) (Kd.R_lt (pR Q0z))) (Kd.R_lt (pR Q12))) (below_size (pH HB)))
             replace Q0s := eR Q0s (Kd.R_base ho0) hb
             replace Q0y := eR Q0y (Kd.R_base ho0) hb
             replace Q0z := eR Q0z (Kd.R_base ho0) hb
             replace Q12 := eR Q12 (Kd.R_base ho0) hb
             replace Q01 := uB Q01 hb
             replace Q00 := uB Q00 hb
             replace Q02 := uB Q02 hb
             replace Q03 := uB Q03 hb
             replace Q04 := uB Q04 hb
             replace Q0g := uB Q0g hb
             replace Q0v := uB Q0v hb
             replace Q11 := uB Q11 hb
             replace HB := uH HB hb
             (try clear hb)
             (try clear hb2)
             (try clear hk)
             (try clear hi)
             (try clear ho0)
             obtain ⟨Q3g, Q3h, Q2h⟩ := Kd.R_slice Q15.out
             (first | subst Q2h | (injection Q2h with f1_ f2_ f3_; have f4_ := f1_.symm; have f5_ := f3_.symm; clear f1_ f2_ f3_; subst f4_; subst f5_))
             obtain ⟨Q46, Q47, Q3i⟩ := Kd.R_slice Q12.out
             (first | subst Q3i | (injection Q3i with f1_ f2_ f3_; have f4_ := f1_.symm; have f5_ := f3_.symm; clear f1_ f2_ f3_; subst f4_; subst f5_))
             refine hK.out _ _ ⟨(blk_cell Q00.out 0).trans rfl, (blk_cell Q00.out 1).trans rfl⟩ (fun hHeld => ?_)
             clear hK K
             refine norm_ (a' := ?_) ?_ ?_
             rotate_left
             ·show Act.put _ (some 106) _ = _
              simp only [Act.put, List.setIfInBounds_toArray, List.set_cons_zero, List.set_cons_succ, i64_w, i32_w]
              rfl
             refine pure_ (i := 10) (N := some 107) (v := ?_) (a' := ?_) #[true, true, true, true, true, true, true, true, true, true, true, true, false] rfl rfl (any_of HT_.out (by kernel_rfl)) (fun _ _ _ h => h) (Or.inl ⟨by rfl, ?_⟩) ?_ ?_
             rotate_left
             ·intro w'
              go_simp
              with_reducible rfl
             rotate_left
             ·simp only [Act.put, List.setIfInBounds_toArray, List.set_cons_zero, List.set_cons_succ, i64_w, i32_w]
              rfl
             exact norm_ (by simp only [putAll, Act.put, List.setIfInBounds_toArray, List.set_cons_zero, List.set_cons_succ]) (hCont (.slice Q46 t134.length Q47, .slice Q3g t137.length Q3h, Q09) _ ⟨hHeld, (by (with_reducible repeat (first | apply rA | apply rN | apply rD)); exact Kd.R_mono Q0y.out (fun _ hk => ⟨hk.1.1.1, ⟨hk.1.1.2.2, ⟨hk.1.2, ⟨hk.2, hk.1.1.2.1⟩⟩⟩⟩)), (by (with_reducible repeat (first | apply rA | apply rN | apply rD)); exact Kd.R_mono Q0z.out (fun _ hk => ⟨hk.1.1.1, ⟨hk.1.1.2.2, ⟨hk.1.2, ⟨hk.2, hk.1.1.2.1⟩⟩⟩⟩)), (by (with_reducible repeat (first | apply rA | apply rN | apply rD)); exact Kd.R_mono Q12.out (fun _ hk => ⟨hk.1.1.1.1.1, ⟨hk.1.1.2, ⟨hk.1.2, ⟨hk.2, hk.1.1.1.2⟩⟩⟩⟩)), (by (with_reducible repeat (first | apply rA | apply rN | apply rD)); exact Kd.R_mono Q15.out (fun _ hk => ⟨hk.1.1.1.1.1, ⟨hk.1.1.2, ⟨hk.1.2, ⟨hk.2, hk.1.1.1.2⟩⟩⟩⟩)), (by (with_reducible repeat (first | apply Kd.V_alloc | apply Kd.V_drewN | apply Kd.V_drew)); exact Kd.V_mono Q0d.out (fun _ hk => ⟨hk.1.1.1.1, ⟨hk.1.1.1.2.2.2.1, ⟨hk.1.1.1.2.2.2.2.1, ⟨hk.1.1.2, ⟨hk.2, ⟨hk.1.1.1.2.1, ⟨hk.1.1.1.2.2.1, ⟨hk.1.1.1.2.2.2.2.2.1, ⟨hk.1.1.1.2.2.2.2.2.2.1, ⟨hk.1.1.1.2.2.2.2.2.2.2.1, ⟨hk.1.1.1.2.2.2.2.2.2.2.2.1, ⟨hk.1.1.1.2.2.2.2.2.2.2.2.2.1, ⟨hk.1.1.1.2.2.2.2.2.2.2.2.2.2.1, ⟨hk.1.1.1.2.2.2.2.2.2.2.2.2.2.2, hk.1.2⟩⟩⟩⟩⟩⟩⟩⟩⟩⟩⟩⟩⟩⟩)), (by (with_reducible repeat (first | apply Kd.V_alloc | apply Kd.V_drewN | apply Kd.V_drew)); exact Kd.V_mono Q0c.out (fun _ hk => ⟨hk.1.1.1.1, ⟨hk.1.1.1.2.2.2.1, ⟨hk.1.1.1.2.2.2.2.1, ⟨hk.1.1.2, ⟨hk.2, ⟨hk.1.1.1.2.1, ⟨hk.1.1.1.2.2.1, ⟨hk.1.1.1.2.2.2.2.2.1, ⟨hk.1.1.1.2.2.2.2.2.2.1, ⟨hk.1.1.1.2.2.2.2.2.2.2.1, ⟨hk.1.1.1.2.2.2.2.2.2.2.2.1, ⟨hk.1.1.1.2.2.2.2.2.2.2.2.2.1, ⟨hk.1.1.1.2.2.2.2.2.2.2.2.2.2.1, ⟨hk.1.1.1.2.2.2.2.2.2.2.2.2.2.2, hk.1.2⟩⟩⟩⟩⟩⟩⟩⟩⟩⟩⟩⟩⟩⟩)), (by (with_reducible repeat (first | apply Kd.V_alloc | apply Kd.V_drewN | apply Kd.V_drew)); exact Kd.V_mono Q0e.out (fun _ hk => ⟨hk.1.1.1.1, ⟨hk.1.1.1.2.2.2.1, ⟨hk.1.1.1.2.2.2.2.1, ⟨hk.1.1.2, ⟨hk.2, ⟨hk.1.1.1.2.1, ⟨hk.1.1.1.2.2.1, ⟨hk.1.1.1.2.2.2.2.2.1, ⟨hk.1.1.1.2.2.2.2.2.2.1, ⟨hk.1.1.1.2.2.2.2.2.2.2.1, ⟨hk.1.1.1.2.2.2.2.2.2.2.2.1, ⟨hk.1.1.1.2.2.2.2.2.2.2.2.2.1, ⟨hk.1.1.1.2.2.2.2.2.2.2.2.2.2.1, ⟨hk.1.1.1.2.2.2.2.2.2.2.2.2.2.2, hk.1.2⟩⟩⟩⟩⟩⟩⟩⟩⟩⟩⟩⟩⟩⟩)), (by (with_reducible repeat (first | apply Kd.V_alloc | apply Kd.V_drewN | apply Kd.V_drew)); exact Kd.V_mono Q0f.out (fun _ hk => ⟨hk.1.1.1.1, ⟨hk.1.1.1.2.2.2.1, ⟨hk.1.1.1.2.2.2.2.1, ⟨hk.1.1.2, ⟨hk.2, ⟨hk.1.1.1.2.1, ⟨hk.1.1.1.2.2.1, ⟨hk.1.1.1.2.2.2.2.2.1, ⟨hk.1.1.1.2.2.2.2.2.2.1, ⟨hk.1.1.1.2.2.2.2.2.2.2.1, ⟨hk.1.1.1.2.2.2.2.2.2.2.2.1, ⟨hk.1.1.1.2.2.2.2.2.2.2.2.2.1, ⟨hk.1.1.1.2.2.2.2.2.2.2.2.2.2.1, ⟨hk.1.1.1.2.2.2.2.2.2.2.2.2.2.2, hk.1.2⟩⟩⟩⟩⟩⟩⟩⟩⟩⟩⟩⟩⟩⟩)), (by (with_reducible repeat (first | apply rA | apply rN | apply rD)); exact Kd.R_mono Q0s.out (fun _ hk => ⟨hk.1.1.1, ⟨hk.1.1.2.1, ⟨hk.1.1.2.2, ⟨hk.1.2, hk.2⟩⟩⟩⟩)), (pR Q0p), (by (with_reducible repeat (first | apply Kd.V_alloc | apply Kd.V_drewN | apply Kd.V_drew)); exact Kd.V_mono Q0x.out (fun _ hk => ⟨hk.1.1.1.1, ⟨hk.1.1.1.2.2.2.1, ⟨hk.1.1.1.2.2.2.2.1, ⟨hk.1.1.2, ⟨hk.2, ⟨hk.1.1.1.2.1, ⟨hk.1.1.1.2.2.1, ⟨hk.1.1.1.2.2.2.2.2.1, ⟨hk.1.1.1.2.2.2.2.2.2.1, ⟨hk.1.1.1.2.2.2.2.2.2.2.1, ⟨hk.1.1.1.2.2.2.2.2.2.2.2.1, ⟨hk.1.1.1.2.2.2.2.2.2.2.2.2.1, ⟨hk.1.1.1.2.2.2.2.2.2.2.2.2.2.1, ⟨hk.1.1.1.2.2.2.2.2.2.2.2.2.2.2, hk.1.2⟩⟩⟩⟩⟩⟩⟩⟩⟩⟩⟩⟩⟩⟩)), (pB Q01), (pB Q00), (pB Q02), (pB Q03), (pB Q04), (pB Q0g), (pB Q0v), (pB Q11), Q2z.out, Q2y.out, Q21.out, Q2i.out, Q1j.out, Q2j.out, Q1v.out, Q1k.out, Q1w.out, Q1l.out, Q1x.out, Q1m.out, Q22.out, Q2k.out, Q23.out, Q2l.out, (pH HB)⟩)
           ·skip
            refine box_step ?hg (N := 17) ?hd (cs := #[.slice none 0 0, .slice none 0 0]) (t := 29) ?hr ?_; (case hd => rfl); (case hg => rfl); (case hr => first | (go_simp; done) | (go_simp; rfl))
            intro Q09 hg w140 hbox hb
            replace Q0x := gV Q0x Q09 hg hb
            replace Q0d := gV Q0d Q09 hg hb
            replace Q0c := gV Q0c Q09 hg hb
            replace Q0e := gV Q0e Q09 hg hb
            replace Q0f := gV Q0f Q09 hg hb
            replace Q0s := uR Q0s hb
            replace Q0p := uR Q0p hb
            replace Q0y := uR Q0y hb
            replace Q0z := uR Q0z hb
            have Q11 := Aside0.mk (hbox)
            have Q2z := uS HB hg
            have Q2y := uS HB hg
            replace HB := uH HB hb
            have Q21 := uL Q01 hg
            have Q2i := uG Q01 hg
            replace Q01 := uB Q01 hb
            have Q1j := uL Q00 hg
            have Q2j := uG Q00 hg
            replace Q00 := uB Q00 hb
            have Q1v := uL Q02 hg
            have Q1k := uG Q02 hg
            replace Q02 := uB Q02 hb
            have Q1w := uL Q03 hg
            have Q1l := uG Q03 hg
            replace Q03 := uB Q03 hb
            have Q1x := uL Q04 hg
            have Q1m := uG Q04 hg
            replace Q04 := uB Q04 hb
            have Q22 := uL Q0g hg
            have Q2k := uG Q0g hg
            replace Q0g := uB Q0g hb
            have Q23 := uL Q0v hg
            have Q2l := uG Q0v hg
            replace Q0v := uB Q0v hb
            clear hb hbox hg
            refine hK.out _ _ ⟨(blk_cell Q00.out 0).trans rfl, (blk_cell Q00.out 1).trans rfl⟩ (fun hHeld => ?_)
            clear hK K
            refine norm_ (a' := ?_) ?_ ?_
            rotate_left
            ·show Act.put _ (some 17) _ = _
             simp only [Act.put, List.setIfInBounds_toArray, List.set_cons_zero, List.set_cons_succ, i64_w, i32_w]
             rfl
            refine one_ (i := 4) (N := some 101) #[true, true, true, true, true, true, true, true, true, false, false, true, false] rfl rfl (one_of HT_.out (by kernel_rfl)) (by decide) (fun K hK => ?_)
            refine goes_ Try.func45 (by kernel_rfl) rfl #[.int .i64 (l0_0.length : Int), .int .i64 (l1_0.length : Int)] (by rfl) rfl rfl aM ?_
            with_reducible refine (graph_numbers.calls k3 (l0_0.length : Int) (l1_0.length : Int) t134 _ A124.out).mono ?_
            rintro e w141 ⟨v135, rfl, ho0, hb⟩
            refine ⟨_, rfl, ?_⟩
            replace Q0x := eV Q0x (Kd.R_base ho0) hb
            replace Q0d := eV Q0d (Kd.R_base ho0) hb
            replace Q0c := eV Q0c (Kd.R_base ho0) hb
            replace Q0e := eV Q0e (Kd.R_base ho0) hb
            replace Q0f := eV Q0f (Kd.R_base ho0) hb
            replace Q0p := uR Q0p hb
            have Q12 := Aside0.mk (Kd.R_lower (Kd.R_new' (Kd.R_new' (Kd.R_new' (Kd.R_newM (M := fun k_ => (w.heap.size ≤ k_)) ho0 (below_size (pH HB)) (fun k_ h_ => h_)) (Kd.R_lt (pR Q0s))) (Kd.R_lt (pR Q0y))) (Kd.R_lt (pR Q0z))) (below_size (pH HB)))
            replace Q0s := eR Q0s (Kd.R_base ho0) hb
            replace Q0y := eR Q0y (Kd.R_base ho0) hb
            replace Q0z := eR Q0z (Kd.R_base ho0) hb
            replace Q01 := uB Q01 hb
            replace Q00 := uB Q00 hb
            replace Q02 := uB Q02 hb
            replace Q03 := uB Q03 hb
            replace Q04 := uB Q04 hb
            replace Q0g := uB Q0g hb
            replace Q0v := uB Q0v hb
            replace Q11 := uB Q11 hb
            replace HB := uH HB hb
            (try clear hb)
            (try clear hb2)
            (try clear hk)
            (try clear hi)
            (try clear ho0)
            refine hK.out _ _ ⟨(blk_cell Q00.out 0).trans rfl, (blk_cell Q00.out 1).trans rfl⟩ (fun hHeld => ?_)
            clear hK K
            refine norm_ (a' := ?_) ?_ ?_
            rotate_left
            ·show Act.put _ (some 101) _ = _
             simp only [Act.put, List.setIfInBounds_toArray, List.set_cons_zero, List.set_cons_succ, i64_w, i32_w]
             rfl
            refine one_ (i := 9) (N := some 106) #[true, true, true, true, true, true, true, true, true, true, false, true, false] rfl rfl (one_of HT_.out (by kernel_rfl)) (by decide) (fun K hK => ?_)
            refine goes_ Try.func45 (by kernel_rfl) rfl #[.int .i64 (l0_1.length : Int), .int .i64 (l1_1.length : Int)] (by rfl) rfl rfl aM ?_
            with_reducible refine (graph_numbers.calls k3 (l0_1.length : Int) (l1_1.length : Int) t137 _ A125.out).mono ?_
            rintro e w142 ⟨v138, rfl, ho0, hb⟩
            refine ⟨_, rfl, ?_⟩
            replace Q0x := eV Q0x (Kd.R_base ho0) hb
            replace Q0d := eV Q0d (Kd.R_base ho0) hb
            replace Q0c := eV Q0c (Kd.R_base ho0) hb
            replace Q0e := eV Q0e (Kd.R_base ho0) hb
            replace Q0f := eV Q0f (Kd.R_base ho0) hb
            replace Q0p := uR Q0p hb
            have Q15 := Aside0.mk (Kd.R_lower (Kd.R_new' (Kd.R_new' (Kd.R_new' (Kd.R_new' (Kd.R_newM (M := fun k_ => (w.heap.size ≤ k_)) ho0 (below_size (pH HB)) (fun k_ h_ => h_)) (Kd.R_lt (pR Q0s))) (Kd.R_lt (pR Q0y))) (Kd.R_lt (pR Q0z))) (Kd.R_lt (pR Q12))) (below_size (pH HB)))
            replace Q0s := eR Q0s (Kd.R_base ho0) hb
            replace Q0y := eR Q0y (Kd.R_base ho0) hb
            replace Q0z := eR Q0z (Kd.R_base ho0) hb
            replace Q12 := eR Q12 (Kd.R_base ho0) hb
            replace Q01 := uB Q01 hb
            replace Q00 := uB Q00 hb
            replace Q02 := uB Q02 hb
            replace Q03 := uB Q03 hb
            replace Q04 := uB Q04 hb
            replace Q0g := uB Q0g hb
            replace Q0v := uB Q0v hb
            replace Q11 := uB Q11 hb
            replace HB := uH HB hb
            (try clear hb)
            (try clear hb2)
            (try clear hk)
            (try clear hi)
            (try clear ho0)
            obtain ⟨Q3g, Q3h, Q2h⟩ := Kd.R_slice Q15.out
            (first | subst Q2h | (injection Q2h with f1_ f2_ f3_; have f4_ := f1_.symm; have f5_ := f3_.symm; clear f1_ f2_ f3_; subst f4_; subst f5_))
            obtain ⟨Q46, Q47, Q3i⟩ := Kd.R_slice Q12.out
            (first | subst Q3i | (injection Q3i with f1_ f2_ f3_; have f4_ := f1_.symm; have f5_ := f3_.symm; clear f1_ f2_ f3_; subst f4_; subst f5_))
            refine hK.out _ _ ⟨(blk_cell Q00.out 0).trans rfl, (blk_cell Q00.out 1).trans rfl⟩ (fun hHeld => ?_)
            clear hK K
            refine norm_ (a' := ?_) ?_ ?_
            rotate_left
            ·show Act.put _ (some 106) _ = _
             simp only [Act.put, List.setIfInBounds_toArray, List.set_cons_zero, List.set_cons_succ, i64_w, i32_w]
             rfl
            refine pure_ (i := 10) (N := some 107) (v := ?_) (a' := ?_) #[true, true, true, true, true, true, true, true, true, true, true, true, false] rfl rfl (any_of HT_.out (by kernel_rfl)) (fun _ _ _ h => h) (Or.inl ⟨by rfl, ?_⟩) ?_ ?_
            rotate_left
            ·intro w'
             go_simp
             with_reducible rfl
            rotate_left
            ·simp only [Act.put, List.setIfInBounds_toArray, List.set_cons_zero, List.set_cons_succ, i64_w, i32_w]
             rfl
            exact norm_ (by simp only [putAll, Act.put, List.setIfInBounds_toArray, List.set_cons_zero, List.set_cons_succ]) (hCont (.slice Q46 t134.length Q47, .slice Q3g t137.length Q3h, Q09) _ ⟨hHeld, (by (with_reducible repeat (first | apply rA | apply rN | apply rD)); exact Kd.R_mono Q0y.out (fun _ hk => ⟨hk.1.1.1, ⟨hk.1.1.2.2, ⟨hk.1.2, ⟨hk.2, hk.1.1.2.1⟩⟩⟩⟩)), (by (with_reducible repeat (first | apply rA | apply rN | apply rD)); exact Kd.R_mono Q0z.out (fun _ hk => ⟨hk.1.1.1, ⟨hk.1.1.2.2, ⟨hk.1.2, ⟨hk.2, hk.1.1.2.1⟩⟩⟩⟩)), (by (with_reducible repeat (first | apply rA | apply rN | apply rD)); exact Kd.R_mono Q12.out (fun _ hk => ⟨hk.1.1.1.1.1, ⟨hk.1.1.2, ⟨hk.1.2, ⟨hk.2, hk.1.1.1.2⟩⟩⟩⟩)), (by (with_reducible repeat (first | apply rA | apply rN | apply rD)); exact Kd.R_mono Q15.out (fun _ hk => ⟨hk.1.1.1.1.1, ⟨hk.1.1.2, ⟨hk.1.2, ⟨hk.2, hk.1.1.1.2⟩⟩⟩⟩)), (by (with_reducible repeat (first | apply Kd.V_alloc | apply Kd.V_drewN | apply Kd.V_drew)); exact Kd.V_mono Q0d.out (fun _ hk => ⟨hk.1.1.1.1, ⟨hk.1.1.1.2.2.2.1, ⟨hk.1.1.1.2.2.2.2.1, ⟨hk.1.2, ⟨hk.2, ⟨hk.1.1.1.2.1, ⟨hk.1.1.1.2.2.1, ⟨hk.1.1.1.2.2.2.2.2.1, ⟨hk.1.1.1.2.2.2.2.2.2.1, ⟨hk.1.1.1.2.2.2.2.2.2.2.1, ⟨hk.1.1.1.2.2.2.2.2.2.2.2.1, ⟨hk.1.1.1.2.2.2.2.2.2.2.2.2.1, ⟨hk.1.1.1.2.2.2.2.2.2.2.2.2.2.1, ⟨hk.1.1.1.2.2.2.2.2.2.2.2.2.2.2, hk.1.1.2⟩⟩⟩⟩⟩⟩⟩⟩⟩⟩⟩⟩⟩⟩)), (by (with_reducible repeat (first | apply Kd.V_alloc | apply Kd.V_drewN | apply Kd.V_drew)); exact Kd.V_mono Q0c.out (fun _ hk => ⟨hk.1.1.1.1, ⟨hk.1.1.1.2.2.2.1, ⟨hk.1.1.1.2.2.2.2.1, ⟨hk.1.2, ⟨hk.2, ⟨hk.1.1.1.2.1, ⟨hk.1.1.1.2.2.1, ⟨hk.1.1.1.2.2.2.2.2.1, ⟨hk.1.1.1.2.2.2.2.2.2.1, ⟨hk.1.1.1.2.2.2.2.2.2.2.1, ⟨hk.1.1.1.2.2.2.2.2.2.2.2.1, ⟨hk.1.1.1.2.2.2.2.2.2.2.2.2.1, ⟨hk.1.1.1.2.2.2.2.2.2.2.2.2.2.1, ⟨hk.1.1.1.2.2.2.2.2.2.2.2.2.2.2, hk.1.1.2⟩⟩⟩⟩⟩⟩⟩⟩⟩⟩⟩⟩⟩⟩)), (by (with_reducible repeat (first | apply Kd.V_alloc | apply Kd.V_drewN | apply Kd.V_drew)); exact Kd.V_mono Q0e.out (fun _ hk => ⟨hk.1.1.1.1, ⟨hk.1.1.1.2.2.2.1, ⟨hk.1.1.1.2.2.2.2.1, ⟨hk.1.2, ⟨hk.2, ⟨hk.1.1.1.2.1, ⟨hk.1.1.1.2.2.1, ⟨hk.1.1.1.2.2.2.2.2.1, ⟨hk.1.1.1.2.2.2.2.2.2.1, ⟨hk.1.1.1.2.2.2.2.2.2.2.1, ⟨hk.1.1.1.2.2.2.2.2.2.2.2.1, ⟨hk.1.1.1.2.2.2.2.2.2.2.2.2.1, ⟨hk.1.1.1.2.2.2.2.2.2.2.2.2.2.1, ⟨hk.1.1.1.2.2.2.2.2.2.2.2.2.2.2, hk.1.1.2⟩⟩⟩⟩⟩⟩⟩⟩⟩⟩⟩⟩⟩⟩)), (by (with_reducible repeat (first | apply Kd.V_alloc | apply Kd.V_drewN | apply Kd.V_drew)); exact Kd.V_mono Q0f.out (fun _ hk => ⟨hk.1.1.1.1, ⟨hk.1.1.1.2.2.2.1, ⟨hk.1.1.1.2.2.2.2.1, ⟨hk.1.2, ⟨hk.2, ⟨hk.1.1.1.2.1, ⟨hk.1.1.1.2.2.1, ⟨hk.1.1.1.2.2.2.2.2.1, ⟨hk.1.1.1.2.2.2.2.2.2.1, ⟨hk.1.1.1.2.2.2.2.2.2.2.1, ⟨hk.1.1.1.2.2.2.2.2.2.2.2.1, ⟨hk.1.1.1.2.2.2.2.2.2.2.2.2.1, ⟨hk.1.1.1.2.2.2.2.2.2.2.2.2.2.1, ⟨hk.1.1.1.2.2.2.2.2.2.2.2.2.2.2, hk.1.1.2⟩⟩⟩⟩⟩⟩⟩⟩⟩⟩⟩⟩⟩⟩)), (by (with_reducible repeat (first | apply rA | apply rN | apply rD)); exact Kd.R_mono Q0s.out (fun _ hk => ⟨hk.1.1.1, ⟨hk.1.1.2.1, ⟨hk.1.1.2.2, ⟨hk.1.2, hk.2⟩⟩⟩⟩)), (pR Q0p), (by (with_reducible repeat (first | apply Kd.V_alloc | apply Kd.V_drewN | apply Kd.V_drew)); exact Kd.V_mono Q0x.out (fun _ hk => ⟨hk.1.1.1.1, ⟨hk.1.1.1.2.2.2.1, ⟨hk.1.1.1.2.2.2.2.1, ⟨hk.1.2, ⟨hk.2, ⟨hk.1.1.1.2.1, ⟨hk.1.1.1.2.2.1, ⟨hk.1.1.1.2.2.2.2.2.1, ⟨hk.1.1.1.2.2.2.2.2.2.1, ⟨hk.1.1.1.2.2.2.2.2.2.2.1, ⟨hk.1.1.1.2.2.2.2.2.2.2.2.1, ⟨hk.1.1.1.2.2.2.2.2.2.2.2.2.1, ⟨hk.1.1.1.2.2.2.2.2.2.2.2.2.2.1, ⟨hk.1.1.1.2.2.2.2.2.2.2.2.2.2.2, hk.1.1.2⟩⟩⟩⟩⟩⟩⟩⟩⟩⟩⟩⟩⟩⟩)), (pB Q01), (pB Q00), (pB Q02), (pB Q03), (pB Q04), (pB Q0g), (pB Q0v), (pB Q11), Q2z.out, Q2y.out, Q21.out, Q2i.out, Q1j.out, Q2j.out, Q1v.out, Q1k.out, Q1w.out, Q1l.out, Q1x.out, Q1m.out, Q22.out, Q2k.out, Q23.out, Q2l.out, (pH HB)⟩)
          rintro ⟨v135, v138, Q09⟩ w145 ⟨hS_, h0_, h1_, h2_, h3_, h4_, h5_, h6_, h7_, h8_, h9_, h10_, h11_, h12_, h13_, h14_, h15_, h16_, h17_, h18_, h19_, h20_, h21_, h22_, h23_, h24_, h25_, h26_, h27_, h28_, h29_, h30_, h31_, h32_, h33_, h34_, h35_⟩
          have n0_ : Aside0 (Kd.R (Kd.int .i64) 3 w145 w.heap.size (fun k_ => (w.heap.size ≤ k_) ∧ some k_ ≠ (.slice Q0l t130.length Q0m : Value).ownBlock ∧ some k_ ≠ (v135 : Value).ownBlock ∧ some k_ ≠ (v138 : Value).ownBlock ∧ some k_ ≠ (.slice Q0n t115.length Q0o : Value).ownBlock) (.slice Q0j t127.length Q0k) t127) := ⟨h0_⟩
          have n1_ : Aside0 (Kd.R (Kd.int .i64) 3 w145 w.heap.size (fun k_ => (w.heap.size ≤ k_) ∧ some k_ ≠ (.slice Q0j t127.length Q0k : Value).ownBlock ∧ some k_ ≠ (v135 : Value).ownBlock ∧ some k_ ≠ (v138 : Value).ownBlock ∧ some k_ ≠ (.slice Q0n t115.length Q0o : Value).ownBlock) (.slice Q0l t130.length Q0m) t130) := ⟨h1_⟩
          have n2_ : Aside0 (Kd.R (Kd.int .i64) 3 w145 w.heap.size (fun k_ => (w.heap.size ≤ k_) ∧ some k_ ≠ (.slice Q0j t127.length Q0k : Value).ownBlock ∧ some k_ ≠ (.slice Q0l t130.length Q0m : Value).ownBlock ∧ some k_ ≠ (v138 : Value).ownBlock ∧ some k_ ≠ (.slice Q0n t115.length Q0o : Value).ownBlock) v135 t134) := ⟨h2_⟩
          have n3_ : Aside0 (Kd.R (Kd.int .i64) 3 w145 w.heap.size (fun k_ => (w.heap.size ≤ k_) ∧ some k_ ≠ (.slice Q0j t127.length Q0k : Value).ownBlock ∧ some k_ ≠ (.slice Q0l t130.length Q0m : Value).ownBlock ∧ some k_ ≠ (v135 : Value).ownBlock ∧ some k_ ≠ (.slice Q0n t115.length Q0o : Value).ownBlock) v138 t137) := ⟨h3_⟩
          have n4_ : Aside0 (Kd.V (Kd.int .i64) 3 w145 w.heap.size (fun k_ => ((P0_0_ k_ ∨ P0_1_ k_ ∨ P1_0_ k_ ∨ P1_1_ k_) ∨ w.heap.size ≤ k_) ∧ some k_ ≠ (.slice Q0j t127.length Q0k : Value).ownBlock ∧ some k_ ≠ (.slice Q0l t130.length Q0m : Value).ownBlock ∧ some k_ ≠ (v135 : Value).ownBlock ∧ some k_ ≠ (v138 : Value).ownBlock ∧ some k_ ≠ (.slice Q0n t115.length Q0o : Value).ownBlock ∧ some k_ ≠ (u122001 : Value).ownBlock ∧ k_ ≠ Q0b ∧ k_ ≠ Q0a ∧ k_ ≠ Q06 ∧ k_ ≠ Q07 ∧ k_ ≠ Q08 ∧ k_ ≠ Q05 ∧ k_ ≠ Q0h ∧ k_ ≠ Q09) (.slice A0_0 l0_0.length c0_0) l0_0) := ⟨h4_⟩
          have n5_ : Aside0 (Kd.V k38 38 w145 w.heap.size (fun k_ => ((P0_0_ k_ ∨ P0_1_ k_ ∨ P1_0_ k_ ∨ P1_1_ k_) ∨ w.heap.size ≤ k_) ∧ some k_ ≠ (.slice Q0j t127.length Q0k : Value).ownBlock ∧ some k_ ≠ (.slice Q0l t130.length Q0m : Value).ownBlock ∧ some k_ ≠ (v135 : Value).ownBlock ∧ some k_ ≠ (v138 : Value).ownBlock ∧ some k_ ≠ (.slice Q0n t115.length Q0o : Value).ownBlock ∧ some k_ ≠ (u122001 : Value).ownBlock ∧ k_ ≠ Q0b ∧ k_ ≠ Q0a ∧ k_ ≠ Q06 ∧ k_ ≠ Q07 ∧ k_ ≠ Q08 ∧ k_ ≠ Q05 ∧ k_ ≠ Q0h ∧ k_ ≠ Q09) (.slice A0_1 l0_1.length c0_1) l0_1) := ⟨h5_⟩
          have n6_ : Aside0 (Kd.V (Kd.int .i64) 3 w145 w.heap.size (fun k_ => ((P0_0_ k_ ∨ P0_1_ k_ ∨ P1_0_ k_ ∨ P1_1_ k_) ∨ w.heap.size ≤ k_) ∧ some k_ ≠ (.slice Q0j t127.length Q0k : Value).ownBlock ∧ some k_ ≠ (.slice Q0l t130.length Q0m : Value).ownBlock ∧ some k_ ≠ (v135 : Value).ownBlock ∧ some k_ ≠ (v138 : Value).ownBlock ∧ some k_ ≠ (.slice Q0n t115.length Q0o : Value).ownBlock ∧ some k_ ≠ (u122001 : Value).ownBlock ∧ k_ ≠ Q0b ∧ k_ ≠ Q0a ∧ k_ ≠ Q06 ∧ k_ ≠ Q07 ∧ k_ ≠ Q08 ∧ k_ ≠ Q05 ∧ k_ ≠ Q0h ∧ k_ ≠ Q09) (.slice A1_0 l1_0.length c1_0) l1_0) := ⟨h6_⟩
          have n7_ : Aside0 (Kd.V k38 38 w145 w.heap.size (fun k_ => ((P0_0_ k_ ∨ P0_1_ k_ ∨ P1_0_ k_ ∨ P1_1_ k_) ∨ w.heap.size ≤ k_) ∧ some k_ ≠ (.slice Q0j t127.length Q0k : Value).ownBlock ∧ some k_ ≠ (.slice Q0l t130.length Q0m : Value).ownBlock ∧ some k_ ≠ (v135 : Value).ownBlock ∧ some k_ ≠ (v138 : Value).ownBlock ∧ some k_ ≠ (.slice Q0n t115.length Q0o : Value).ownBlock ∧ some k_ ≠ (u122001 : Value).ownBlock ∧ k_ ≠ Q0b ∧ k_ ≠ Q0a ∧ k_ ≠ Q06 ∧ k_ ≠ Q07 ∧ k_ ≠ Q08 ∧ k_ ≠ Q05 ∧ k_ ≠ Q0h ∧ k_ ≠ Q09) (.slice A1_1 l1_1.length c1_1) l1_1) := ⟨h7_⟩
          have n8_ : Aside0 (Kd.R (Kd.int .i64) 3 w145 w.heap.size (fun k_ => (w.heap.size ≤ k_) ∧ some k_ ≠ (.slice Q0j t127.length Q0k : Value).ownBlock ∧ some k_ ≠ (.slice Q0l t130.length Q0m : Value).ownBlock ∧ some k_ ≠ (v135 : Value).ownBlock ∧ some k_ ≠ (v138 : Value).ownBlock) (.slice Q0n t115.length Q0o) t115) := ⟨h8_⟩
          have n9_ : Aside0 (Kd.R k38 38 w145 w.heap.size (fun k_ => (w.heap.size ≤ k_)) u122001 x122001_3) := ⟨h9_⟩
          have n10_ : Aside0 (Kd.V k38 38 w145 w.heap.size (fun k_ => ((P0_0_ k_ ∨ P0_1_ k_ ∨ P1_0_ k_ ∨ P1_1_ k_) ∨ w.heap.size ≤ k_) ∧ some k_ ≠ (.slice Q0j t127.length Q0k : Value).ownBlock ∧ some k_ ≠ (.slice Q0l t130.length Q0m : Value).ownBlock ∧ some k_ ≠ (v135 : Value).ownBlock ∧ some k_ ≠ (v138 : Value).ownBlock ∧ some k_ ≠ (.slice Q0n t115.length Q0o : Value).ownBlock ∧ some k_ ≠ (u122001 : Value).ownBlock ∧ k_ ≠ Q0b ∧ k_ ≠ Q0a ∧ k_ ≠ Q06 ∧ k_ ≠ Q07 ∧ k_ ≠ Q08 ∧ k_ ≠ Q05 ∧ k_ ≠ Q0h ∧ k_ ≠ Q09) (.slice A1_1 l1_1.length c1_1) l1_1) := ⟨h10_⟩
          have n11_ : Aside0 (w145.heap[Q0b]? = some (.cells #[.slice A0_0 l0_0.length c0_0, .slice A0_1 l0_1.length c0_1] 25 (0, 0))) := ⟨h11_⟩
          have n12_ : Aside0 (w145.heap[Q0a]? = some (.cells #[.slice A1_0 l1_0.length c1_0, .slice A1_1 l1_1.length c1_1] 25 (0, 0))) := ⟨h12_⟩
          have n13_ : Aside0 (w145.heap[Q06]? = some (.cells #[.slice none 0 0, .slice none 0 0] 25 (0, 0))) := ⟨h13_⟩
          have n14_ : Aside0 (w145.heap[Q07]? = some (.cells #[.slice none 0 0, .slice none 0 0] 29 (0, 0))) := ⟨h14_⟩
          have n15_ : Aside0 (w145.heap[Q08]? = some (.cells #[.slice none 0 0, .slice none 0 0] 29 (0, 0))) := ⟨h15_⟩
          have n16_ : Aside0 (w145.heap[Q05]? = some (.cells #[.slice Q0n t115.length Q0o, u122001] 25 (0, 0))) := ⟨h16_⟩
          have n17_ : Aside0 (w145.heap[Q0h]? = some (.cells #[.slice Q0j t127.length Q0k, .slice Q0l t130.length Q0m] 29 (0, 0))) := ⟨h17_⟩
          have n18_ : Aside0 (w145.heap[Q09]? = some (.cells #[.slice none 0 0, .slice none 0 0] 29 (0, 0))) := ⟨h18_⟩
          have n19_ : Aside0 (w.heap.size ≤ Q09) := ⟨h19_⟩
          have n20_ : Aside0 (w.heap.size ≤ Q09) := ⟨h20_⟩
          have n21_ : Aside0 (Q0b ≠ Q09) := ⟨h21_⟩
          have n22_ : Aside0 (Q09 ≠ Q0b) := ⟨h22_⟩
          have n23_ : Aside0 (Q0a ≠ Q09) := ⟨h23_⟩
          have n24_ : Aside0 (Q09 ≠ Q0a) := ⟨h24_⟩
          have n25_ : Aside0 (Q06 ≠ Q09) := ⟨h25_⟩
          have n26_ : Aside0 (Q09 ≠ Q06) := ⟨h26_⟩
          have n27_ : Aside0 (Q07 ≠ Q09) := ⟨h27_⟩
          have n28_ : Aside0 (Q09 ≠ Q07) := ⟨h28_⟩
          have n29_ : Aside0 (Q08 ≠ Q09) := ⟨h29_⟩
          have n30_ : Aside0 (Q09 ≠ Q08) := ⟨h30_⟩
          have n31_ : Aside0 (Q05 ≠ Q09) := ⟨h31_⟩
          have n32_ : Aside0 (Q09 ≠ Q05) := ⟨h32_⟩
          have n33_ : Aside0 (Q0h ≠ Q09) := ⟨h33_⟩
          have n34_ : Aside0 (Q09 ≠ Q0h) := ⟨h34_⟩
          have n35_ : Aside0 (Below w.heap.size w w145) := ⟨h35_⟩
          clear Q0x
          clear Q0d
          clear Q0c
          clear Q0e
          clear Q0f
          clear Q0s
          clear Q0p
          clear Q0y
          clear Q0z
          clear Q01
          clear Q00
          clear Q02
          clear Q03
          clear Q04
          clear Q0g
          clear Q0v
          clear HB
          clear h0_ h1_ h2_ h3_ h4_ h5_ h6_ h7_ h8_ h9_ h10_ h11_ h12_ h13_ h14_ h15_ h16_ h17_ h18_ h19_ h20_ h21_ h22_ h23_ h24_ h25_ h26_ h27_ h28_ h29_ h30_ h31_ h32_ h33_ h34_ h35_
          have Q0y := n0_
          have Q0z := n1_
          have Q12 := n2_
          have Q15 := n3_
          have Q0d := n4_
          have Q0c := n5_
          have Q0e := n6_
          have Q0f := n7_
          have Q0s := n8_
          have Q0p := n9_
          have Q0x := n10_
          have Q01 := n11_
          have Q00 := n12_
          have Q02 := n13_
          have Q03 := n14_
          have Q04 := n15_
          have Q0g := n16_
          have Q0v := n17_
          have Q11 := n18_
          have Q2z := n19_
          have Q2y := n20_
          have Q21 := n21_
          have Q2i := n22_
          have Q1j := n23_
          have Q2j := n24_
          have Q1v := n25_
          have Q1k := n26_
          have Q1w := n27_
          have Q1l := n28_
          have Q1x := n29_
          have Q1m := n30_
          have Q22 := n31_
          have Q2k := n32_
          have Q23 := n33_
          have Q2l := n34_
          have HB := n35_
          clear n0_ n1_ n2_ n3_ n4_ n5_ n6_ n7_ n8_ n9_ n10_ n11_ n12_ n13_ n14_ n15_ n16_ n17_ n18_ n19_ n20_ n21_ n22_ n23_ n24_ n25_ n26_ n27_ n28_ n29_ n30_ n31_ n32_ n33_ n34_ n35_
          have hHeld : w145.cell? ⟨Q0a, 0, none⟩ = some (.slice A1_0 l1_0.length c1_0) ∧ w145.cell? ⟨Q0a, 1, none⟩ = some (.slice A1_1 l1_1.length c1_1) := hS_
          obtain ⟨Q0t, Q0u, Q4o⟩ := Kd.R_slice Q15.out
          (first | subst Q4o | (injection Q4o with f1_ f2_ f3_; have f4_ := f1_.symm; have f5_ := f3_.symm; clear f1_ f2_ f3_; subst f4_; subst f5_))
          obtain ⟨Q0q, Q0r, Q4p⟩ := Kd.R_slice Q12.out
          (first | subst Q4p | (injection Q4p with f1_ f2_ f3_; have f4_ := f1_.symm; have f5_ := f3_.symm; clear f1_ f2_ f3_; subst f4_; subst f5_))
          refine norm_ (a' := ?_) ?_ ?_
          rotate_left
          ·simp only [putAll, Act.put, List.setIfInBounds_toArray, List.set_cons_zero, List.set_cons_succ]
           rfl
          refine one_ (i := 12) (N := none) #[true, true, true, true, true, true, true, true, true, true, true, true, true] rfl rfl (one_of HT_.out (by kernel_rfl)) (by decide) (fun K hK => ?_)
          have Qbm : w145.cell? ⟨Q09, 0, none⟩ = some (.slice none 0 0) := (blk_cell Q11.out 0).trans rfl
          have Qbn := blk_frozen Q11.out 0
          have Qbo := Q21.out
          have Qbp := Q1j.out
          have Qbq := Q1v.out
          have Qbr := Q1w.out
          have Qbs := Q1x.out
          have Qbt := Q22.out
          have Qbu := Q23.out
          have Qbv := Q2i.out
          have Qbw := Q2j.out
          have Qbx := Q1k.out
          have Qby := Q1l.out
          have Qbz := Q1m.out
          have Qc0 := Q2k.out
          have Qc1 := Q2l.out
          have Qc2 : w145.cell? ⟨Q09, 1, none⟩ = some (.slice none 0 0) := (blk_cell Q11.out 1).trans rfl
          have Qc3 := blk_frozen Q11.out 1
          have Qc4 := Q21.out
          have Qc5 := Q1j.out
          have Qc6 := Q1v.out
          have Qc7 := Q1w.out
          have Qc8 := Q1x.out
          have Qc9 := Q22.out
          have Qca := Q23.out
          have Qcb := Q2i.out
          have Qcc := Q2j.out
          have Qcd := Q1k.out
          have Qce := Q1l.out
          have Qcf := Q1m.out
          have Qcg := Q2k.out
          have Qch := Q2l.out
          refine skip_ (w1 := ?_) (by rfl) rfl ?_ ?_
          rotate_left
          ·go_simp
           rfl
          refine hK.out _ _ ⟨((cell_far (p := ⟨Q09, _, none⟩) Q1j.out _).trans (((cell_far (p := ⟨Q09, _, none⟩) Q1j.out _).trans (hHeld.1)))), ((cell_far (p := ⟨Q09, _, none⟩) Q1j.out _).trans (((cell_far (p := ⟨Q09, _, none⟩) Q1j.out _).trans (hHeld.2))))⟩ (fun hHeld => ?_)
          clear hK K
          refine done_ (done_of HT_.out (by kernel_rfl)) ?_
          try go_wp2
          have n0_ : Aside0 (Kd.V k38 38 ((w145.setCell ⟨Q09, 0, none⟩ (.slice Q0q t134.length Q0r)).setCell ⟨Q09, 1, none⟩ (.slice Q0t t137.length Q0u)) w.heap.size (fun k_ => ((P0_0_ k_ ∨ P0_1_ k_ ∨ P1_0_ k_ ∨ P1_1_ k_) ∨ w.heap.size ≤ k_) ∧ some k_ ≠ (.slice Q0n t115.length Q0o : Value).ownBlock ∧ some k_ ≠ (u122001 : Value).ownBlock ∧ some k_ ≠ (.slice Q0j t127.length Q0k : Value).ownBlock ∧ some k_ ≠ (.slice Q0l t130.length Q0m : Value).ownBlock ∧ some k_ ≠ (.slice Q0q t134.length Q0r : Value).ownBlock ∧ some k_ ≠ (.slice Q0t t137.length Q0u : Value).ownBlock ∧ k_ ≠ Q0b ∧ k_ ≠ Q0a ∧ k_ ≠ Q06 ∧ k_ ≠ Q07 ∧ k_ ≠ Q08 ∧ k_ ≠ Q05 ∧ k_ ≠ Q0h ∧ k_ ≠ Q09) (.slice A1_1 l1_1.length c1_1) l1_1) := ⟨by (with_reducible repeat (first | apply Kd.V_alloc | apply Kd.V_drewN | apply Kd.V_drew)); exact Kd.V_mono (Kd.V_far (p := ⟨Q09, 1, none⟩) (Kd.V_far (p := ⟨Q09, 0, none⟩) (Kd.V_mono Q0x.out (fun k_ hk => (⟨hk, hk.2.2.2.2.2.2.2.2.2.2.2.2.2.2⟩ : _ ∧ k_ ≠ Q09))) (fun _ hk => hk.2) (.slice Q0q t134.length Q0r)) (fun _ hk => hk.2) (.slice Q0t t137.length Q0u)) (fun _ hk => ⟨hk.1.1, ⟨hk.1.2.2.2.2.2.1, ⟨hk.1.2.2.2.2.2.2.1, ⟨hk.1.2.1, ⟨hk.1.2.2.1, ⟨hk.1.2.2.2.1, ⟨hk.1.2.2.2.2.1, ⟨hk.1.2.2.2.2.2.2.2.1, ⟨hk.1.2.2.2.2.2.2.2.2.1, ⟨hk.1.2.2.2.2.2.2.2.2.2.1, ⟨hk.1.2.2.2.2.2.2.2.2.2.2.1, ⟨hk.1.2.2.2.2.2.2.2.2.2.2.2.1, ⟨hk.1.2.2.2.2.2.2.2.2.2.2.2.2.1, ⟨hk.1.2.2.2.2.2.2.2.2.2.2.2.2.2.1, hk.1.2.2.2.2.2.2.2.2.2.2.2.2.2.2⟩⟩⟩⟩⟩⟩⟩⟩⟩⟩⟩⟩⟩⟩)⟩
          have n1_ : Aside0 (Kd.V (Kd.int .i64) 3 ((w145.setCell ⟨Q09, 0, none⟩ (.slice Q0q t134.length Q0r)).setCell ⟨Q09, 1, none⟩ (.slice Q0t t137.length Q0u)) w.heap.size (fun k_ => ((P0_0_ k_ ∨ P0_1_ k_ ∨ P1_0_ k_ ∨ P1_1_ k_) ∨ w.heap.size ≤ k_) ∧ some k_ ≠ (.slice Q0n t115.length Q0o : Value).ownBlock ∧ some k_ ≠ (u122001 : Value).ownBlock ∧ some k_ ≠ (.slice Q0j t127.length Q0k : Value).ownBlock ∧ some k_ ≠ (.slice Q0l t130.length Q0m : Value).ownBlock ∧ some k_ ≠ (.slice Q0q t134.length Q0r : Value).ownBlock ∧ some k_ ≠ (.slice Q0t t137.length Q0u : Value).ownBlock ∧ k_ ≠ Q0b ∧ k_ ≠ Q0a ∧ k_ ≠ Q06 ∧ k_ ≠ Q07 ∧ k_ ≠ Q08 ∧ k_ ≠ Q05 ∧ k_ ≠ Q0h ∧ k_ ≠ Q09) (.slice A0_0 l0_0.length c0_0) l0_0) := ⟨by (with_reducible repeat (first | apply Kd.V_alloc | apply Kd.V_drewN | apply Kd.V_drew)); exact Kd.V_mono (Kd.V_far (p := ⟨Q09, 1, none⟩) (Kd.V_far (p := ⟨Q09, 0, none⟩) (Kd.V_mono Q0d.out (fun k_ hk => (⟨hk, hk.2.2.2.2.2.2.2.2.2.2.2.2.2.2⟩ : _ ∧ k_ ≠ Q09))) (fun _ hk => hk.2) (.slice Q0q t134.length Q0r)) (fun _ hk => hk.2) (.slice Q0t t137.length Q0u)) (fun _ hk => ⟨hk.1.1, ⟨hk.1.2.2.2.2.2.1, ⟨hk.1.2.2.2.2.2.2.1, ⟨hk.1.2.1, ⟨hk.1.2.2.1, ⟨hk.1.2.2.2.1, ⟨hk.1.2.2.2.2.1, ⟨hk.1.2.2.2.2.2.2.2.1, ⟨hk.1.2.2.2.2.2.2.2.2.1, ⟨hk.1.2.2.2.2.2.2.2.2.2.1, ⟨hk.1.2.2.2.2.2.2.2.2.2.2.1, ⟨hk.1.2.2.2.2.2.2.2.2.2.2.2.1, ⟨hk.1.2.2.2.2.2.2.2.2.2.2.2.2.1, ⟨hk.1.2.2.2.2.2.2.2.2.2.2.2.2.2.1, hk.1.2.2.2.2.2.2.2.2.2.2.2.2.2.2⟩⟩⟩⟩⟩⟩⟩⟩⟩⟩⟩⟩⟩⟩)⟩
          have n2_ : Aside0 (Kd.V k38 38 ((w145.setCell ⟨Q09, 0, none⟩ (.slice Q0q t134.length Q0r)).setCell ⟨Q09, 1, none⟩ (.slice Q0t t137.length Q0u)) w.heap.size (fun k_ => ((P0_0_ k_ ∨ P0_1_ k_ ∨ P1_0_ k_ ∨ P1_1_ k_) ∨ w.heap.size ≤ k_) ∧ some k_ ≠ (.slice Q0n t115.length Q0o : Value).ownBlock ∧ some k_ ≠ (u122001 : Value).ownBlock ∧ some k_ ≠ (.slice Q0j t127.length Q0k : Value).ownBlock ∧ some k_ ≠ (.slice Q0l t130.length Q0m : Value).ownBlock ∧ some k_ ≠ (.slice Q0q t134.length Q0r : Value).ownBlock ∧ some k_ ≠ (.slice Q0t t137.length Q0u : Value).ownBlock ∧ k_ ≠ Q0b ∧ k_ ≠ Q0a ∧ k_ ≠ Q06 ∧ k_ ≠ Q07 ∧ k_ ≠ Q08 ∧ k_ ≠ Q05 ∧ k_ ≠ Q0h ∧ k_ ≠ Q09) (.slice A0_1 l0_1.length c0_1) l0_1) := ⟨by (with_reducible repeat (first | apply Kd.V_alloc | apply Kd.V_drewN | apply Kd.V_drew)); exact Kd.V_mono (Kd.V_far (p := ⟨Q09, 1, none⟩) (Kd.V_far (p := ⟨Q09, 0, none⟩) (Kd.V_mono Q0c.out (fun k_ hk => (⟨hk, hk.2.2.2.2.2.2.2.2.2.2.2.2.2.2⟩ : _ ∧ k_ ≠ Q09))) (fun _ hk => hk.2) (.slice Q0q t134.length Q0r)) (fun _ hk => hk.2) (.slice Q0t t137.length Q0u)) (fun _ hk => ⟨hk.1.1, ⟨hk.1.2.2.2.2.2.1, ⟨hk.1.2.2.2.2.2.2.1, ⟨hk.1.2.1, ⟨hk.1.2.2.1, ⟨hk.1.2.2.2.1, ⟨hk.1.2.2.2.2.1, ⟨hk.1.2.2.2.2.2.2.2.1, ⟨hk.1.2.2.2.2.2.2.2.2.1, ⟨hk.1.2.2.2.2.2.2.2.2.2.1, ⟨hk.1.2.2.2.2.2.2.2.2.2.2.1, ⟨hk.1.2.2.2.2.2.2.2.2.2.2.2.1, ⟨hk.1.2.2.2.2.2.2.2.2.2.2.2.2.1, ⟨hk.1.2.2.2.2.2.2.2.2.2.2.2.2.2.1, hk.1.2.2.2.2.2.2.2.2.2.2.2.2.2.2⟩⟩⟩⟩⟩⟩⟩⟩⟩⟩⟩⟩⟩⟩)⟩
          have n3_ : Aside0 (Kd.V (Kd.int .i64) 3 ((w145.setCell ⟨Q09, 0, none⟩ (.slice Q0q t134.length Q0r)).setCell ⟨Q09, 1, none⟩ (.slice Q0t t137.length Q0u)) w.heap.size (fun k_ => ((P0_0_ k_ ∨ P0_1_ k_ ∨ P1_0_ k_ ∨ P1_1_ k_) ∨ w.heap.size ≤ k_) ∧ some k_ ≠ (.slice Q0n t115.length Q0o : Value).ownBlock ∧ some k_ ≠ (u122001 : Value).ownBlock ∧ some k_ ≠ (.slice Q0j t127.length Q0k : Value).ownBlock ∧ some k_ ≠ (.slice Q0l t130.length Q0m : Value).ownBlock ∧ some k_ ≠ (.slice Q0q t134.length Q0r : Value).ownBlock ∧ some k_ ≠ (.slice Q0t t137.length Q0u : Value).ownBlock ∧ k_ ≠ Q0b ∧ k_ ≠ Q0a ∧ k_ ≠ Q06 ∧ k_ ≠ Q07 ∧ k_ ≠ Q08 ∧ k_ ≠ Q05 ∧ k_ ≠ Q0h ∧ k_ ≠ Q09) (.slice A1_0 l1_0.length c1_0) l1_0) := ⟨by (with_reducible repeat (first | apply Kd.V_alloc | apply Kd.V_drewN | apply Kd.V_drew)); exact Kd.V_mono (Kd.V_far (p := ⟨Q09, 1, none⟩) (Kd.V_far (p := ⟨Q09, 0, none⟩) (Kd.V_mono Q0e.out (fun k_ hk => (⟨hk, hk.2.2.2.2.2.2.2.2.2.2.2.2.2.2⟩ : _ ∧ k_ ≠ Q09))) (fun _ hk => hk.2) (.slice Q0q t134.length Q0r)) (fun _ hk => hk.2) (.slice Q0t t137.length Q0u)) (fun _ hk => ⟨hk.1.1, ⟨hk.1.2.2.2.2.2.1, ⟨hk.1.2.2.2.2.2.2.1, ⟨hk.1.2.1, ⟨hk.1.2.2.1, ⟨hk.1.2.2.2.1, ⟨hk.1.2.2.2.2.1, ⟨hk.1.2.2.2.2.2.2.2.1, ⟨hk.1.2.2.2.2.2.2.2.2.1, ⟨hk.1.2.2.2.2.2.2.2.2.2.1, ⟨hk.1.2.2.2.2.2.2.2.2.2.2.1, ⟨hk.1.2.2.2.2.2.2.2.2.2.2.2.1, ⟨hk.1.2.2.2.2.2.2.2.2.2.2.2.2.1, ⟨hk.1.2.2.2.2.2.2.2.2.2.2.2.2.2.1, hk.1.2.2.2.2.2.2.2.2.2.2.2.2.2.2⟩⟩⟩⟩⟩⟩⟩⟩⟩⟩⟩⟩⟩⟩)⟩
          have n4_ : Aside0 (Kd.V k38 38 ((w145.setCell ⟨Q09, 0, none⟩ (.slice Q0q t134.length Q0r)).setCell ⟨Q09, 1, none⟩ (.slice Q0t t137.length Q0u)) w.heap.size (fun k_ => ((P0_0_ k_ ∨ P0_1_ k_ ∨ P1_0_ k_ ∨ P1_1_ k_) ∨ w.heap.size ≤ k_) ∧ some k_ ≠ (.slice Q0n t115.length Q0o : Value).ownBlock ∧ some k_ ≠ (u122001 : Value).ownBlock ∧ some k_ ≠ (.slice Q0j t127.length Q0k : Value).ownBlock ∧ some k_ ≠ (.slice Q0l t130.length Q0m : Value).ownBlock ∧ some k_ ≠ (.slice Q0q t134.length Q0r : Value).ownBlock ∧ some k_ ≠ (.slice Q0t t137.length Q0u : Value).ownBlock ∧ k_ ≠ Q0b ∧ k_ ≠ Q0a ∧ k_ ≠ Q06 ∧ k_ ≠ Q07 ∧ k_ ≠ Q08 ∧ k_ ≠ Q05 ∧ k_ ≠ Q0h ∧ k_ ≠ Q09) (.slice A1_1 l1_1.length c1_1) l1_1) := ⟨by (with_reducible repeat (first | apply Kd.V_alloc | apply Kd.V_drewN | apply Kd.V_drew)); exact Kd.V_mono (Kd.V_far (p := ⟨Q09, 1, none⟩) (Kd.V_far (p := ⟨Q09, 0, none⟩) (Kd.V_mono Q0f.out (fun k_ hk => (⟨hk, hk.2.2.2.2.2.2.2.2.2.2.2.2.2.2⟩ : _ ∧ k_ ≠ Q09))) (fun _ hk => hk.2) (.slice Q0q t134.length Q0r)) (fun _ hk => hk.2) (.slice Q0t t137.length Q0u)) (fun _ hk => ⟨hk.1.1, ⟨hk.1.2.2.2.2.2.1, ⟨hk.1.2.2.2.2.2.2.1, ⟨hk.1.2.1, ⟨hk.1.2.2.1, ⟨hk.1.2.2.2.1, ⟨hk.1.2.2.2.2.1, ⟨hk.1.2.2.2.2.2.2.2.1, ⟨hk.1.2.2.2.2.2.2.2.2.1, ⟨hk.1.2.2.2.2.2.2.2.2.2.1, ⟨hk.1.2.2.2.2.2.2.2.2.2.2.1, ⟨hk.1.2.2.2.2.2.2.2.2.2.2.2.1, ⟨hk.1.2.2.2.2.2.2.2.2.2.2.2.2.1, ⟨hk.1.2.2.2.2.2.2.2.2.2.2.2.2.2.1, hk.1.2.2.2.2.2.2.2.2.2.2.2.2.2.2⟩⟩⟩⟩⟩⟩⟩⟩⟩⟩⟩⟩⟩⟩)⟩
          have n5_ : Aside0 (Kd.R (Kd.int .i64) 3 ((w145.setCell ⟨Q09, 0, none⟩ (.slice Q0q t134.length Q0r)).setCell ⟨Q09, 1, none⟩ (.slice Q0t t137.length Q0u)) w.heap.size (fun k_ => (w.heap.size ≤ k_) ∧ some k_ ≠ (.slice Q0j t127.length Q0k : Value).ownBlock ∧ some k_ ≠ (.slice Q0l t130.length Q0m : Value).ownBlock ∧ some k_ ≠ (.slice Q0q t134.length Q0r : Value).ownBlock ∧ some k_ ≠ (.slice Q0t t137.length Q0u : Value).ownBlock) (.slice Q0n t115.length Q0o) t115) := ⟨by (with_reducible repeat (first | apply rA | apply rN | apply rD)); exact Kd.R_mono (Kd.R_far (p := ⟨Q09, 1, none⟩) (Kd.R_far (p := ⟨Q09, 0, none⟩) (Kd.R_types Q0s.out Q11.out (by decide)) (fun _ hk => hk.2) (.slice Q0q t134.length Q0r)) (fun _ hk => hk.2) (.slice Q0t t137.length Q0u)) (fun _ hk => ⟨hk.1.1, ⟨hk.1.2.1, ⟨hk.1.2.2.1, ⟨hk.1.2.2.2.1, hk.1.2.2.2.2⟩⟩⟩⟩)⟩
          have n6_ : Aside0 (Kd.R k38 38 ((w145.setCell ⟨Q09, 0, none⟩ (.slice Q0q t134.length Q0r)).setCell ⟨Q09, 1, none⟩ (.slice Q0t t137.length Q0u)) w.heap.size (fun k_ => (w.heap.size ≤ k_)) u122001 x122001_3) := ⟨by (with_reducible repeat (first | apply rA | apply rN | apply rD)); exact Kd.R_mono (Kd.R_far (p := ⟨Q09, 1, none⟩) (Kd.R_far (p := ⟨Q09, 0, none⟩) (Kd.R_types Q0p.out Q11.out (by decide)) (fun _ hk => hk.2) (.slice Q0q t134.length Q0r)) (fun _ hk => hk.2) (.slice Q0t t137.length Q0u)) (fun _ hk => hk.1)⟩
          have n7_ : Aside0 (Kd.R (Kd.int .i64) 3 ((w145.setCell ⟨Q09, 0, none⟩ (.slice Q0q t134.length Q0r)).setCell ⟨Q09, 1, none⟩ (.slice Q0t t137.length Q0u)) w.heap.size (fun k_ => (w.heap.size ≤ k_) ∧ some k_ ≠ (.slice Q0n t115.length Q0o : Value).ownBlock ∧ some k_ ≠ (.slice Q0l t130.length Q0m : Value).ownBlock ∧ some k_ ≠ (.slice Q0q t134.length Q0r : Value).ownBlock ∧ some k_ ≠ (.slice Q0t t137.length Q0u : Value).ownBlock) (.slice Q0j t127.length Q0k) t127) := ⟨by (with_reducible repeat (first | apply rA | apply rN | apply rD)); exact Kd.R_mono (Kd.R_far (p := ⟨Q09, 1, none⟩) (Kd.R_far (p := ⟨Q09, 0, none⟩) (Kd.R_types Q0y.out Q11.out (by decide)) (fun _ hk => hk.2) (.slice Q0q t134.length Q0r)) (fun _ hk => hk.2) (.slice Q0t t137.length Q0u)) (fun _ hk => ⟨hk.1.1, ⟨hk.1.2.2.2.2, ⟨hk.1.2.1, ⟨hk.1.2.2.1, hk.1.2.2.2.1⟩⟩⟩⟩)⟩
          have n8_ : Aside0 (Kd.R (Kd.int .i64) 3 ((w145.setCell ⟨Q09, 0, none⟩ (.slice Q0q t134.length Q0r)).setCell ⟨Q09, 1, none⟩ (.slice Q0t t137.length Q0u)) w.heap.size (fun k_ => (w.heap.size ≤ k_) ∧ some k_ ≠ (.slice Q0n t115.length Q0o : Value).ownBlock ∧ some k_ ≠ (.slice Q0j t127.length Q0k : Value).ownBlock ∧ some k_ ≠ (.slice Q0q t134.length Q0r : Value).ownBlock ∧ some k_ ≠ (.slice Q0t t137.length Q0u : Value).ownBlock) (.slice Q0l t130.length Q0m) t130) := ⟨by (with_reducible repeat (first | apply rA | apply rN | apply rD)); exact Kd.R_mono (Kd.R_far (p := ⟨Q09, 1, none⟩) (Kd.R_far (p := ⟨Q09, 0, none⟩) (Kd.R_types Q0z.out Q11.out (by decide)) (fun _ hk => hk.2) (.slice Q0q t134.length Q0r)) (fun _ hk => hk.2) (.slice Q0t t137.length Q0u)) (fun _ hk => ⟨hk.1.1, ⟨hk.1.2.2.2.2, ⟨hk.1.2.1, ⟨hk.1.2.2.1, hk.1.2.2.2.1⟩⟩⟩⟩)⟩
          have n9_ : Aside0 (Kd.R (Kd.int .i64) 3 ((w145.setCell ⟨Q09, 0, none⟩ (.slice Q0q t134.length Q0r)).setCell ⟨Q09, 1, none⟩ (.slice Q0t t137.length Q0u)) w.heap.size (fun k_ => (w.heap.size ≤ k_) ∧ some k_ ≠ (.slice Q0n t115.length Q0o : Value).ownBlock ∧ some k_ ≠ (.slice Q0j t127.length Q0k : Value).ownBlock ∧ some k_ ≠ (.slice Q0l t130.length Q0m : Value).ownBlock ∧ some k_ ≠ (.slice Q0t t137.length Q0u : Value).ownBlock) (.slice Q0q t134.length Q0r) t134) := ⟨by (with_reducible repeat (first | apply rA | apply rN | apply rD)); exact Kd.R_mono (Kd.R_far (p := ⟨Q09, 1, none⟩) (Kd.R_far (p := ⟨Q09, 0, none⟩) (Kd.R_types Q12.out Q11.out (by decide)) (fun _ hk => hk.2) (.slice Q0q t134.length Q0r)) (fun _ hk => hk.2) (.slice Q0t t137.length Q0u)) (fun _ hk => ⟨hk.1.1, ⟨hk.1.2.2.2.2, ⟨hk.1.2.1, ⟨hk.1.2.2.1, hk.1.2.2.2.1⟩⟩⟩⟩)⟩
          have n10_ : Aside0 (Kd.R (Kd.int .i64) 3 ((w145.setCell ⟨Q09, 0, none⟩ (.slice Q0q t134.length Q0r)).setCell ⟨Q09, 1, none⟩ (.slice Q0t t137.length Q0u)) w.heap.size (fun k_ => (w.heap.size ≤ k_) ∧ some k_ ≠ (.slice Q0n t115.length Q0o : Value).ownBlock ∧ some k_ ≠ (.slice Q0j t127.length Q0k : Value).ownBlock ∧ some k_ ≠ (.slice Q0l t130.length Q0m : Value).ownBlock ∧ some k_ ≠ (.slice Q0q t134.length Q0r : Value).ownBlock) (.slice Q0t t137.length Q0u) t137) := ⟨by (with_reducible repeat (first | apply rA | apply rN | apply rD)); exact Kd.R_mono (Kd.R_far (p := ⟨Q09, 1, none⟩) (Kd.R_far (p := ⟨Q09, 0, none⟩) (Kd.R_types Q15.out Q11.out (by decide)) (fun _ hk => hk.2) (.slice Q0q t134.length Q0r)) (fun _ hk => hk.2) (.slice Q0t t137.length Q0u)) (fun _ hk => ⟨hk.1.1, ⟨hk.1.2.2.2.2, ⟨hk.1.2.1, ⟨hk.1.2.2.1, hk.1.2.2.2.1⟩⟩⟩⟩)⟩
          have n11_ : Aside0 (((w145.setCell ⟨Q09, 0, none⟩ (.slice Q0q t134.length Q0r)).setCell ⟨Q09, 1, none⟩ (.slice Q0t t137.length Q0u)).heap[Q0b]? = some (.cells #[.slice A0_0 l0_0.length c0_0, .slice A0_1 l0_1.length c0_1] 25 (0, 0))) := ⟨by (with_reducible repeat (first | refine bN ?_ _ | refine bD ?_ | refine bA ?_ _)); refine blk_far ?_ Q21.out _; (with_reducible repeat (first | refine bN ?_ _ | refine bD ?_ | refine bA ?_ _)); refine blk_far ?_ Q21.out _; (with_reducible repeat (first | refine bN ?_ _ | refine bD ?_ | refine bA ?_ _)); exact Q01.out⟩
          have n12_ : Aside0 (((w145.setCell ⟨Q09, 0, none⟩ (.slice Q0q t134.length Q0r)).setCell ⟨Q09, 1, none⟩ (.slice Q0t t137.length Q0u)).heap[Q0a]? = some (.cells #[.slice A1_0 l1_0.length c1_0, .slice A1_1 l1_1.length c1_1] 25 (0, 0))) := ⟨by (with_reducible repeat (first | refine bN ?_ _ | refine bD ?_ | refine bA ?_ _)); refine blk_far ?_ Q1j.out _; (with_reducible repeat (first | refine bN ?_ _ | refine bD ?_ | refine bA ?_ _)); refine blk_far ?_ Q1j.out _; (with_reducible repeat (first | refine bN ?_ _ | refine bD ?_ | refine bA ?_ _)); exact Q00.out⟩
          have n13_ : Aside0 (((w145.setCell ⟨Q09, 0, none⟩ (.slice Q0q t134.length Q0r)).setCell ⟨Q09, 1, none⟩ (.slice Q0t t137.length Q0u)).heap[Q06]? = some (.cells #[.slice none 0 0, .slice none 0 0] 25 (0, 0))) := ⟨by (with_reducible repeat (first | refine bN ?_ _ | refine bD ?_ | refine bA ?_ _)); refine blk_far ?_ Q1v.out _; (with_reducible repeat (first | refine bN ?_ _ | refine bD ?_ | refine bA ?_ _)); refine blk_far ?_ Q1v.out _; (with_reducible repeat (first | refine bN ?_ _ | refine bD ?_ | refine bA ?_ _)); exact Q02.out⟩
          have n14_ : Aside0 (((w145.setCell ⟨Q09, 0, none⟩ (.slice Q0q t134.length Q0r)).setCell ⟨Q09, 1, none⟩ (.slice Q0t t137.length Q0u)).heap[Q07]? = some (.cells #[.slice none 0 0, .slice none 0 0] 29 (0, 0))) := ⟨by (with_reducible repeat (first | refine bN ?_ _ | refine bD ?_ | refine bA ?_ _)); refine blk_far ?_ Q1w.out _; (with_reducible repeat (first | refine bN ?_ _ | refine bD ?_ | refine bA ?_ _)); refine blk_far ?_ Q1w.out _; (with_reducible repeat (first | refine bN ?_ _ | refine bD ?_ | refine bA ?_ _)); exact Q03.out⟩
          have n15_ : Aside0 (((w145.setCell ⟨Q09, 0, none⟩ (.slice Q0q t134.length Q0r)).setCell ⟨Q09, 1, none⟩ (.slice Q0t t137.length Q0u)).heap[Q08]? = some (.cells #[.slice none 0 0, .slice none 0 0] 29 (0, 0))) := ⟨by (with_reducible repeat (first | refine bN ?_ _ | refine bD ?_ | refine bA ?_ _)); refine blk_far ?_ Q1x.out _; (with_reducible repeat (first | refine bN ?_ _ | refine bD ?_ | refine bA ?_ _)); refine blk_far ?_ Q1x.out _; (with_reducible repeat (first | refine bN ?_ _ | refine bD ?_ | refine bA ?_ _)); exact Q04.out⟩
          have n16_ : Aside0 (((w145.setCell ⟨Q09, 0, none⟩ (.slice Q0q t134.length Q0r)).setCell ⟨Q09, 1, none⟩ (.slice Q0t t137.length Q0u)).heap[Q05]? = some (.cells #[.slice Q0n t115.length Q0o, u122001] 25 (0, 0))) := ⟨by (with_reducible repeat (first | refine bN ?_ _ | refine bD ?_ | refine bA ?_ _)); refine blk_far ?_ Q22.out _; (with_reducible repeat (first | refine bN ?_ _ | refine bD ?_ | refine bA ?_ _)); refine blk_far ?_ Q22.out _; (with_reducible repeat (first | refine bN ?_ _ | refine bD ?_ | refine bA ?_ _)); exact Q0g.out⟩
          have n17_ : Aside0 (((w145.setCell ⟨Q09, 0, none⟩ (.slice Q0q t134.length Q0r)).setCell ⟨Q09, 1, none⟩ (.slice Q0t t137.length Q0u)).heap[Q0h]? = some (.cells #[.slice Q0j t127.length Q0k, .slice Q0l t130.length Q0m] 29 (0, 0))) := ⟨by (with_reducible repeat (first | refine bN ?_ _ | refine bD ?_ | refine bA ?_ _)); refine blk_far ?_ Q23.out _; (with_reducible repeat (first | refine bN ?_ _ | refine bD ?_ | refine bA ?_ _)); refine blk_far ?_ Q23.out _; (with_reducible repeat (first | refine bN ?_ _ | refine bD ?_ | refine bA ?_ _)); exact Q0v.out⟩
          have n18_ : Aside0 (((w145.setCell ⟨Q09, 0, none⟩ (.slice Q0q t134.length Q0r)).setCell ⟨Q09, 1, none⟩ (.slice Q0t t137.length Q0u)).heap[Q09]? = some (.cells #[.slice Q0q t134.length Q0r, .slice Q0t t137.length Q0u] 29 (0, 0))) := ⟨by (with_reducible repeat (first | refine bN ?_ _ | refine bD ?_ | refine bA ?_ _)); refine blk_put (cs := #[.slice Q0q t134.length Q0r, .slice none 0 0]) ?_ 1 _ rfl; (with_reducible repeat (first | refine bN ?_ _ | refine bD ?_ | refine bA ?_ _)); refine blk_put (cs := #[.slice none 0 0, .slice none 0 0]) ?_ 0 _ rfl; (with_reducible repeat (first | refine bN ?_ _ | refine bD ?_ | refine bA ?_ _)); exact Q11.out⟩
          have n19_ : Aside0 (Below w.heap.size w ((w145.setCell ⟨Q09, 0, none⟩ (.slice Q0q t134.length Q0r)).setCell ⟨Q09, 1, none⟩ (.slice Q0t t137.length Q0u))) := ⟨pH HB⟩
          (try clear Q0x)
          (try clear Q0d)
          (try clear Q0c)
          (try clear Q0e)
          (try clear Q0f)
          (try clear Q0s)
          (try clear Q0p)
          (try clear Q0y)
          (try clear Q0z)
          (try clear Q12)
          (try clear Q15)
          (try clear Q01)
          (try clear Q00)
          (try clear Q02)
          (try clear Q03)
          (try clear Q04)
          (try clear Q0g)
          (try clear Q0v)
          (try clear Q11)
          (try clear HB)
          generalize ((w145.setCell ⟨Q09, 0, none⟩ (.slice Q0q t134.length Q0r)).setCell ⟨Q09, 1, none⟩ (.slice Q0t t137.length Q0u)) = w150 at n0_ n1_ n2_ n3_ n4_ n5_ n6_ n7_ n8_ n9_ n10_ n11_ n12_ n13_ n14_ n15_ n16_ n17_ n18_ n19_ ⊢
          have Q0x := n0_
          have Q0d := n1_
          have Q0c := n2_
          have Q0e := n3_
          have Q0f := n4_
          have Q0s := n5_
          have Q0p := n6_
          have Q0y := n7_
          have Q0z := n8_
          have Q12 := n9_
          have Q15 := n10_
          have Q01 := n11_
          have Q00 := n12_
          have Q02 := n13_
          have Q03 := n14_
          have Q04 := n15_
          have Q0g := n16_
          have Q0v := n17_
          have Q11 := n18_
          have HB := n19_
          clear n0_ n1_ n2_ n3_ n4_ n5_ n6_ n7_ n8_ n9_ n10_ n11_ n12_ n13_ n14_ n15_ n16_ n17_ n18_ n19_
          replace Q0x := Aside0.mk (Kd.V_drew Q0x.out)
          replace Q0d := Aside0.mk (Kd.V_drew Q0d.out)
          replace Q0c := Aside0.mk (Kd.V_drew Q0c.out)
          replace Q0e := Aside0.mk (Kd.V_drew Q0e.out)
          replace Q0f := Aside0.mk (Kd.V_drew Q0f.out)
          replace Q0s := Aside0.mk (rD Q0s.out)
          replace Q0p := Aside0.mk (rD Q0p.out)
          replace Q0y := Aside0.mk (rD Q0y.out)
          replace Q0z := Aside0.mk (rD Q0z.out)
          replace Q12 := Aside0.mk (rD Q12.out)
          replace Q15 := Aside0.mk (rD Q15.out)
          replace Q01 := Aside0.mk (bD Q01.out)
          replace Q00 := Aside0.mk (bD Q00.out)
          replace Q02 := Aside0.mk (bD Q02.out)
          replace Q03 := Aside0.mk (bD Q03.out)
          replace Q04 := Aside0.mk (bD Q04.out)
          replace Q0g := Aside0.mk (bD Q0g.out)
          replace Q0v := Aside0.mk (bD Q0v.out)
          replace Q11 := Aside0.mk (bD Q11.out)
          replace HB := Aside0.mk (wD HB.out)
          obtain ⟨Q2m, Q2n, Q4q⟩ := Kd.R_slice Q0p.out
          (first | subst Q4q | (injection Q4q with f1_ f2_ f3_; have f4_ := f1_.symm; have f5_ := f3_.symm; clear f1_ f2_ f3_; subst f4_; subst f5_))
          refine start_ (n := 7) (S := fun w' => w'.cell? ⟨Q05, 0, none⟩ = some (.slice Q0n t115.length Q0o) ∧ w'.cell? ⟨Q05, 1, none⟩ = some (.slice Q2m x122001_3.length Q2n) ∧ w'.cell? ⟨Q0h, 0, none⟩ = some (.slice Q0j t127.length Q0k) ∧ w'.cell? ⟨Q0h, 1, none⟩ = some (.slice Q0l t130.length Q0m) ∧ w'.cell? ⟨Q09, 0, none⟩ = some (.slice Q0q t134.length Q0r) ∧ w'.cell? ⟨Q09, 1, none⟩ = some (.slice Q0t t137.length Q0u)) (ds := []) #[false, false, false, false, false, false, false] (by kernel_rfl) rfl rfl ⟨(blk_cell Q0g.out 0).trans rfl, (blk_cell Q0g.out 1).trans rfl, (blk_cell Q0v.out 0).trans rfl, (blk_cell Q0v.out 1).trans rfl, (blk_cell Q11.out 0).trans rfl, (blk_cell Q11.out 1).trans rfl⟩ (fun hHeld => ?_)
          generalize w150.drew = w151 at Q0x Q0d Q0c Q0e Q0f Q0s Q0p Q0y Q0z Q12 Q15 Q01 Q00 Q02 Q03 Q04 Q0g Q0v Q11 HB hHeld ⊢
          refine take_ (i := 0) (N := some 108) (v := ?_) (a' := ?_) #[true, false, false, false, false, false, false] rfl rfl (by kernel_rfl) (fun _ _ _ h => h) (Or.inl ⟨by rfl, ?_⟩) hHeld ?_ ?_
          rotate_left
          ·rintro w' ⟨s0, s1, s2, s3, s4, s5⟩
           go_simp
           with_reducible rfl
          rotate_left
          ·simp only [Act.put, List.setIfInBounds_toArray, List.set_cons_zero, List.set_cons_succ, i64_w, i32_w]
           rfl
          refine take_ (i := 1) (N := some 109) (v := ?_) (a' := ?_) #[true, true, false, false, false, false, false] rfl rfl (by kernel_rfl) (fun _ _ _ h => h) (Or.inl ⟨by rfl, ?_⟩) hHeld ?_ ?_
          rotate_left
          ·rintro w' ⟨s0, s1, s2, s3, s4, s5⟩
           go_simp
           with_reducible rfl
          rotate_left
          ·simp only [Act.put, List.setIfInBounds_toArray, List.set_cons_zero, List.set_cons_succ, i64_w, i32_w]
           rfl
          refine take_ (i := 2) (N := some 110) (v := ?_) (a' := ?_) #[true, true, true, false, false, false, false] rfl rfl (by kernel_rfl) (fun _ _ _ h => h) (Or.inl ⟨by rfl, ?_⟩) hHeld ?_ ?_
          rotate_left
          ·rintro w' ⟨s0, s1, s2, s3, s4, s5⟩
           go_simp
           with_reducible rfl
          rotate_left
          ·simp only [Act.put, List.setIfInBounds_toArray, List.set_cons_zero, List.set_cons_succ, i64_w, i32_w]
           rfl
          refine one_ (i := 3) (N := none) #[true, true, true, true, false, false, false] rfl rfl (by kernel_rfl) (by decide) (fun K hK => ?_)
          have Qci : w151.cell? ⟨Q06, 0, none⟩ = some (.slice none 0 0) := (blk_cell Q02.out 0).trans rfl
          have Qcj := blk_frozen Q02.out 0
          have Qck := Q30.out
          have Qcl := Q25.out
          have Qcm := Q1p.out
          have Qcn := Q1r.out
          have Qco := Q18.out
          have Qcp := Q2v.out
          have Qcq := Q1k.out
          have Qcr := Q31.out
          have Qcs := Q26.out
          have Qct := Q1o.out
          have Qcu := Q1q.out
          have Qcv := Q1c.out
          have Qcw := Q3d.out
          have Qcx := Q1v.out
          have Qcy : w151.cell? ⟨Q06, 1, none⟩ = some (.slice none 0 0) := (blk_cell Q02.out 1).trans rfl
          have Qcz := blk_frozen Q02.out 1
          have Qd0 := Q30.out
          have Qd1 := Q25.out
          have Qd2 := Q1p.out
          have Qd3 := Q1r.out
          have Qd4 := Q18.out
          have Qd5 := Q2v.out
          have Qd6 := Q1k.out
          have Qd7 := Q31.out
          have Qd8 := Q26.out
          have Qd9 := Q1o.out
          have Qda := Q1q.out
          have Qdb := Q1c.out
          have Qdc := Q3d.out
          have Qdd := Q1v.out
          refine skip_ (w1 := ?_) (by rfl) rfl ?_ ?_
          rotate_left
          ·go_simp
           rfl
          refine hK.out _ _ ⟨((cell_far (p := ⟨Q06, _, none⟩) Q18.out _).trans (((cell_far (p := ⟨Q06, _, none⟩) Q18.out _).trans (hHeld.1)))), ((cell_far (p := ⟨Q06, _, none⟩) Q18.out _).trans (((cell_far (p := ⟨Q06, _, none⟩) Q18.out _).trans (hHeld.2.1)))), ((cell_far (p := ⟨Q06, _, none⟩) Q2v.out _).trans (((cell_far (p := ⟨Q06, _, none⟩) Q2v.out _).trans (hHeld.2.2.1)))), ((cell_far (p := ⟨Q06, _, none⟩) Q2v.out _).trans (((cell_far (p := ⟨Q06, _, none⟩) Q2v.out _).trans (hHeld.2.2.2.1)))), ((cell_far (p := ⟨Q06, _, none⟩) Q1k.out _).trans (((cell_far (p := ⟨Q06, _, none⟩) Q1k.out _).trans (hHeld.2.2.2.2.1)))), ((cell_far (p := ⟨Q06, _, none⟩) Q1k.out _).trans (((cell_far (p := ⟨Q06, _, none⟩) Q1k.out _).trans (hHeld.2.2.2.2.2))))⟩ (fun hHeld => ?_)
          clear hK K
          refine one_ (i := 4) (N := none) #[true, true, true, true, true, false, false] rfl rfl (by kernel_rfl) (by decide) (fun K hK => ?_)
          have Qde : w151.cell? ⟨Q07, 0, none⟩ = some (.slice none 0 0) := (blk_cell Q03.out 0).trans rfl
          have Qdf := blk_frozen Q03.out 0
          have Qdg := Q32.out
          have Qdh := Q27.out
          have Qdi := Q1o.out
          have Qdj := Q1t.out
          have Qdk := Q19.out
          have Qdl := Q2w.out
          have Qdm := Q1l.out
          have Qdn := Q33.out
          have Qdo := Q28.out
          have Qdp := Q1p.out
          have Qdq := Q1s.out
          have Qdr := Q1d.out
          have Qds := Q3e.out
          have Qdt := Q1w.out
          have Qdu : w151.cell? ⟨Q07, 1, none⟩ = some (.slice none 0 0) := (blk_cell Q03.out 1).trans rfl
          have Qdv := blk_frozen Q03.out 1
          have Qdw := Q32.out
          have Qdx := Q27.out
          have Qdy := Q1o.out
          have Qdz := Q1t.out
          have Qe0 := Q19.out
          have Qe1 := Q2w.out
          have Qe2 := Q1l.out
          have Qe3 := Q33.out
          have Qe4 := Q28.out
          have Qe5 := Q1p.out
          have Qe6 := Q1s.out
          have Qe7 := Q1d.out
          have Qe8 := Q3e.out
          have Qe9 := Q1w.out
          refine skip_ (w1 := ?_) (by rfl) rfl ?_ ?_
          rotate_left
          ·go_simp
           rfl
          refine hK.out _ _ ⟨((cell_far (p := ⟨Q07, _, none⟩) Q19.out _).trans (((cell_far (p := ⟨Q07, _, none⟩) Q19.out _).trans (hHeld.1)))), ((cell_far (p := ⟨Q07, _, none⟩) Q19.out _).trans (((cell_far (p := ⟨Q07, _, none⟩) Q19.out _).trans (hHeld.2.1)))), ((cell_far (p := ⟨Q07, _, none⟩) Q2w.out _).trans (((cell_far (p := ⟨Q07, _, none⟩) Q2w.out _).trans (hHeld.2.2.1)))), ((cell_far (p := ⟨Q07, _, none⟩) Q2w.out _).trans (((cell_far (p := ⟨Q07, _, none⟩) Q2w.out _).trans (hHeld.2.2.2.1)))), ((cell_far (p := ⟨Q07, _, none⟩) Q1l.out _).trans (((cell_far (p := ⟨Q07, _, none⟩) Q1l.out _).trans (hHeld.2.2.2.2.1)))), ((cell_far (p := ⟨Q07, _, none⟩) Q1l.out _).trans (((cell_far (p := ⟨Q07, _, none⟩) Q1l.out _).trans (hHeld.2.2.2.2.2))))⟩ (fun hHeld => ?_)
          clear hK K
          refine one_ (i := 5) (N := none) #[true, true, true, true, true, true, false] rfl rfl (by kernel_rfl) (by decide) (fun K hK => ?_)
          have Qea : w151.cell? ⟨Q08, 0, none⟩ = some (.slice none 0 0) := (blk_cell Q04.out 0).trans rfl
          have Qeb := blk_frozen Q04.out 0
          have Qec := Q34.out
          have Qed := Q29.out
          have Qee := Q1q.out
          have Qef := Q1s.out
          have Qeg := Q1a.out
          have Qeh := Q2x.out
          have Qei := Q1m.out
          have Qej := Q35.out
          have Qek := Q2a.out
          have Qel := Q1r.out
          have Qem := Q1t.out
          have Qen := Q1e.out
          have Qeo := Q3f.out
          have Qep := Q1x.out
          have Qeq : w151.cell? ⟨Q08, 1, none⟩ = some (.slice none 0 0) := (blk_cell Q04.out 1).trans rfl
          have Qer := blk_frozen Q04.out 1
          have Qes := Q34.out
          have Qet := Q29.out
          have Qeu := Q1q.out
          have Qev := Q1s.out
          have Qew := Q1a.out
          have Qex := Q2x.out
          have Qey := Q1m.out
          have Qez := Q35.out
          have Qf0 := Q2a.out
          have Qf1 := Q1r.out
          have Qf2 := Q1t.out
          have Qf3 := Q1e.out
          have Qf4 := Q3f.out
          have Qf5 := Q1x.out
          refine skip_ (w1 := ?_) (by rfl) rfl ?_ ?_
          rotate_left
          ·go_simp
           rfl
          refine hK.out _ _ ⟨((cell_far (p := ⟨Q08, _, none⟩) Q1a.out _).trans (((cell_far (p := ⟨Q08, _, none⟩) Q1a.out _).trans (hHeld.1)))), ((cell_far (p := ⟨Q08, _, none⟩) Q1a.out _).trans (((cell_far (p := ⟨Q08, _, none⟩) Q1a.out _).trans (hHeld.2.1)))), ((cell_far (p := ⟨Q08, _, none⟩) Q2x.out _).trans (((cell_far (p := ⟨Q08, _, none⟩) Q2x.out _).trans (hHeld.2.2.1)))), ((cell_far (p := ⟨Q08, _, none⟩) Q2x.out _).trans (((cell_far (p := ⟨Q08, _, none⟩) Q2x.out _).trans (hHeld.2.2.2.1)))), ((cell_far (p := ⟨Q08, _, none⟩) Q1m.out _).trans (((cell_far (p := ⟨Q08, _, none⟩) Q1m.out _).trans (hHeld.2.2.2.2.1)))), ((cell_far (p := ⟨Q08, _, none⟩) Q1m.out _).trans (((cell_far (p := ⟨Q08, _, none⟩) Q1m.out _).trans (hHeld.2.2.2.2.2))))⟩ (fun hHeld => ?_)
          clear hK K
          refine pure_ (i := 6) (N := some 7) (v := ?_) (a' := ?_) #[true, true, true, true, true, true, true] rfl rfl (by kernel_rfl) (fun _ _ _ h => h) (Or.inl ⟨by rfl, ?_⟩) ?_ ?_
          rotate_left
          ·intro w'
           go_simp
           with_reducible rfl
          rotate_left
          ·simp only [Act.put, List.setIfInBounds_toArray, List.set_cons_zero, List.set_cons_succ, i64_w, i32_w]
           rfl
          refine done_ (by kernel_rfl) ?_
          try go_wp2
          refine bodyPost_ret (results_list (rs := [.cell 4 25, .cell 5 29, .cell 6 29, .tmp 7]) rfl (by simp) (.cell Q06 25 #[.slice Q0n t115.length Q0o, .slice Q2m x122001_3.length Q2n] (0, 0) _ rfl (by (with_reducible repeat (first | refine bN ?_ _ | refine bD ?_ | refine bA ?_ _)); refine blk_far ?_ Q1q.out _; (with_reducible repeat (first | refine bN ?_ _ | refine bD ?_ | refine bA ?_ _)); refine blk_far ?_ Q1q.out _; (with_reducible repeat (first | refine bN ?_ _ | refine bD ?_ | refine bA ?_ _)); refine blk_far ?_ Q1o.out _; (with_reducible repeat (first | refine bN ?_ _ | refine bD ?_ | refine bA ?_ _)); refine blk_far ?_ Q1o.out _; (with_reducible repeat (first | refine bN ?_ _ | refine bD ?_ | refine bA ?_ _)); refine blk_put (cs := #[.slice Q0n t115.length Q0o, .slice none 0 0]) ?_ 1 _ rfl; (with_reducible repeat (first | refine bN ?_ _ | refine bD ?_ | refine bA ?_ _)); refine blk_put (cs := #[.slice none 0 0, .slice none 0 0]) ?_ 0 _ rfl; (with_reducible repeat (first | refine bN ?_ _ | refine bD ?_ | refine bA ?_ _)); exact Q02.out) Try.underlying25 rfl (by kernel_rfl) (.cell Q07 29 #[.slice Q0j t127.length Q0k, .slice Q0l t130.length Q0m] (0, 0) _ rfl (by (with_reducible repeat (first | refine bN ?_ _ | refine bD ?_ | refine bA ?_ _)); refine blk_far ?_ Q1s.out _; (with_reducible repeat (first | refine bN ?_ _ | refine bD ?_ | refine bA ?_ _)); refine blk_far ?_ Q1s.out _; (with_reducible repeat (first | refine bN ?_ _ | refine bD ?_ | refine bA ?_ _)); refine blk_put (cs := #[.slice Q0j t127.length Q0k, .slice none 0 0]) ?_ 1 _ rfl; (with_reducible repeat (first | refine bN ?_ _ | refine bD ?_ | refine bA ?_ _)); refine blk_put (cs := #[.slice none 0 0, .slice none 0 0]) ?_ 0 _ rfl; (with_reducible repeat (first | refine bN ?_ _ | refine bD ?_ | refine bA ?_ _)); refine blk_far ?_ Q1p.out _; (with_reducible repeat (first | refine bN ?_ _ | refine bD ?_ | refine bA ?_ _)); refine blk_far ?_ Q1p.out _; (with_reducible repeat (first | refine bN ?_ _ | refine bD ?_ | refine bA ?_ _)); exact Q03.out) Try.underlying29 rfl (by kernel_rfl) (.cell Q08 29 #[.slice Q0q t134.length Q0r, .slice Q0t t137.length Q0u] (0, 0) _ rfl (by (with_reducible repeat (first | refine bN ?_ _ | refine bD ?_ | refine bA ?_ _)); refine blk_put (cs := #[.slice Q0q t134.length Q0r, .slice none 0 0]) ?_ 1 _ rfl; (with_reducible repeat (first | refine bN ?_ _ | refine bD ?_ | refine bA ?_ _)); refine blk_put (cs := #[.slice none 0 0, .slice none 0 0]) ?_ 0 _ rfl; (with_reducible repeat (first | refine bN ?_ _ | refine bD ?_ | refine bA ?_ _)); refine blk_far ?_ Q1t.out _; (with_reducible repeat (first | refine bN ?_ _ | refine bD ?_ | refine bA ?_ _)); refine blk_far ?_ Q1t.out _; (with_reducible repeat (first | refine bN ?_ _ | refine bD ?_ | refine bA ?_ _)); refine blk_far ?_ Q1r.out _; (with_reducible repeat (first | refine bN ?_ _ | refine bD ?_ | refine bA ?_ _)); refine blk_far ?_ Q1r.out _; (with_reducible repeat (first | refine bN ?_ _ | refine bD ?_ | refine bA ?_ _)); exact Q04.out) Try.underlying29 rfl (by kernel_rfl) (.tmp .nil))))) rfl ?_
          exact ⟨_, _, _, _, _, _, by first | rfl | (simp [errW_none, errW_some] <;> rfl) | (simp [*, errW_none, errW_some] <;> rfl), by (with_reducible repeat (first | apply rA | apply rN | apply rD)); exact Kd.R_mono (Kd.R_far (p := ⟨Q08, 1, none⟩) (Kd.R_far (p := ⟨Q08, 0, none⟩) (Kd.R_far (p := ⟨Q07, 1, none⟩) (Kd.R_far (p := ⟨Q07, 0, none⟩) (Kd.R_far (p := ⟨Q06, 1, none⟩) (Kd.R_far (p := ⟨Q06, 0, none⟩) (Kd.R_types (Kd.R_types (Kd.R_types Q0s.out Q02.out (by decide)) Q03.out (by decide)) Q04.out (by decide)) (fun _ hk => hk.1.1.2) (.slice Q0n t115.length Q0o)) (fun _ hk => hk.1.1.2) (.slice Q2m x122001_3.length Q2n)) (fun _ hk => hk.1.2) (.slice Q0j t127.length Q0k)) (fun _ hk => hk.1.2) (.slice Q0l t130.length Q0m)) (fun _ hk => hk.2) (.slice Q0q t134.length Q0r)) (fun _ hk => hk.2) (.slice Q0t t137.length Q0u)) (fun _ hk => ⟨hk.1.1.1.1, ⟨hk.1.1.1.2.1, ⟨hk.1.1.1.2.2.1, ⟨hk.1.1.1.2.2.2.1, hk.1.1.1.2.2.2.2⟩⟩⟩⟩), by (with_reducible repeat (first | apply rA | apply rN | apply rD)); exact Kd.R_mono (Kd.R_far (p := ⟨Q08, 1, none⟩) (Kd.R_far (p := ⟨Q08, 0, none⟩) (Kd.R_far (p := ⟨Q07, 1, none⟩) (Kd.R_far (p := ⟨Q07, 0, none⟩) (Kd.R_far (p := ⟨Q06, 1, none⟩) (Kd.R_far (p := ⟨Q06, 0, none⟩) (Kd.R_types (Kd.R_types (Kd.R_types Q0p.out Q02.out (by decide)) Q03.out (by decide)) Q04.out (by decide)) (fun _ hk => hk.1.1.2) (.slice Q0n t115.length Q0o)) (fun _ hk => hk.1.1.2) (.slice Q2m x122001_3.length Q2n)) (fun _ hk => hk.1.2) (.slice Q0j t127.length Q0k)) (fun _ hk => hk.1.2) (.slice Q0l t130.length Q0m)) (fun _ hk => hk.2) (.slice Q0q t134.length Q0r)) (fun _ hk => hk.2) (.slice Q0t t137.length Q0u)) (fun _ hk => hk.1.1.1), by (with_reducible repeat (first | apply rA | apply rN | apply rD)); exact Kd.R_mono (Kd.R_far (p := ⟨Q08, 1, none⟩) (Kd.R_far (p := ⟨Q08, 0, none⟩) (Kd.R_far (p := ⟨Q07, 1, none⟩) (Kd.R_far (p := ⟨Q07, 0, none⟩) (Kd.R_far (p := ⟨Q06, 1, none⟩) (Kd.R_far (p := ⟨Q06, 0, none⟩) (Kd.R_types (Kd.R_types (Kd.R_types Q0y.out Q02.out (by decide)) Q03.out (by decide)) Q04.out (by decide)) (fun _ hk => hk.1.1.2) (.slice Q0n t115.length Q0o)) (fun _ hk => hk.1.1.2) (.slice Q2m x122001_3.length Q2n)) (fun _ hk => hk.1.2) (.slice Q0j t127.length Q0k)) (fun _ hk => hk.1.2) (.slice Q0l t130.length Q0m)) (fun _ hk => hk.2) (.slice Q0q t134.length Q0r)) (fun _ hk => hk.2) (.slice Q0t t137.length Q0u)) (fun _ hk => ⟨hk.1.1.1.1, ⟨hk.1.1.1.2.1, ⟨hk.1.1.1.2.2.1, ⟨hk.1.1.1.2.2.2.1, hk.1.1.1.2.2.2.2⟩⟩⟩⟩), by (with_reducible repeat (first | apply rA | apply rN | apply rD)); exact Kd.R_mono (Kd.R_far (p := ⟨Q08, 1, none⟩) (Kd.R_far (p := ⟨Q08, 0, none⟩) (Kd.R_far (p := ⟨Q07, 1, none⟩) (Kd.R_far (p := ⟨Q07, 0, none⟩) (Kd.R_far (p := ⟨Q06, 1, none⟩) (Kd.R_far (p := ⟨Q06, 0, none⟩) (Kd.R_types (Kd.R_types (Kd.R_types Q0z.out Q02.out (by decide)) Q03.out (by decide)) Q04.out (by decide)) (fun _ hk => hk.1.1.2) (.slice Q0n t115.length Q0o)) (fun _ hk => hk.1.1.2) (.slice Q2m x122001_3.length Q2n)) (fun _ hk => hk.1.2) (.slice Q0j t127.length Q0k)) (fun _ hk => hk.1.2) (.slice Q0l t130.length Q0m)) (fun _ hk => hk.2) (.slice Q0q t134.length Q0r)) (fun _ hk => hk.2) (.slice Q0t t137.length Q0u)) (fun _ hk => ⟨hk.1.1.1.1, ⟨hk.1.1.1.2.1, ⟨hk.1.1.1.2.2.1, ⟨hk.1.1.1.2.2.2.1, hk.1.1.1.2.2.2.2⟩⟩⟩⟩), by (with_reducible repeat (first | apply rA | apply rN | apply rD)); exact Kd.R_mono (Kd.R_far (p := ⟨Q08, 1, none⟩) (Kd.R_far (p := ⟨Q08, 0, none⟩) (Kd.R_far (p := ⟨Q07, 1, none⟩) (Kd.R_far (p := ⟨Q07, 0, none⟩) (Kd.R_far (p := ⟨Q06, 1, none⟩) (Kd.R_far (p := ⟨Q06, 0, none⟩) (Kd.R_types (Kd.R_types (Kd.R_types Q12.out Q02.out (by decide)) Q03.out (by decide)) Q04.out (by decide)) (fun _ hk => hk.1.1.2) (.slice Q0n t115.length Q0o)) (fun _ hk => hk.1.1.2) (.slice Q2m x122001_3.length Q2n)) (fun _ hk => hk.1.2) (.slice Q0j t127.length Q0k)) (fun _ hk => hk.1.2) (.slice Q0l t130.length Q0m)) (fun _ hk => hk.2) (.slice Q0q t134.length Q0r)) (fun _ hk => hk.2) (.slice Q0t t137.length Q0u)) (fun _ hk => ⟨hk.1.1.1.1, ⟨hk.1.1.1.2.1, ⟨hk.1.1.1.2.2.1, ⟨hk.1.1.1.2.2.2.1, hk.1.1.1.2.2.2.2⟩⟩⟩⟩), by (with_reducible repeat (first | apply rA | apply rN | apply rD)); exact Kd.R_mono (Kd.R_far (p := ⟨Q08, 1, none⟩) (Kd.R_far (p := ⟨Q08, 0, none⟩) (Kd.R_far (p := ⟨Q07, 1, none⟩) (Kd.R_far (p := ⟨Q07, 0, none⟩) (Kd.R_far (p := ⟨Q06, 1, none⟩) (Kd.R_far (p := ⟨Q06, 0, none⟩) (Kd.R_types (Kd.R_types (Kd.R_types Q15.out Q02.out (by decide)) Q03.out (by decide)) Q04.out (by decide)) (fun _ hk => hk.1.1.2) (.slice Q0n t115.length Q0o)) (fun _ hk => hk.1.1.2) (.slice Q2m x122001_3.length Q2n)) (fun _ hk => hk.1.2) (.slice Q0j t127.length Q0k)) (fun _ hk => hk.1.2) (.slice Q0l t130.length Q0m)) (fun _ hk => hk.2) (.slice Q0q t134.length Q0r)) (fun _ hk => hk.2) (.slice Q0t t137.length Q0u)) (fun _ hk => ⟨hk.1.1.1.1, ⟨hk.1.1.1.2.1, ⟨hk.1.1.1.2.2.1, ⟨hk.1.1.1.2.2.2.1, hk.1.1.1.2.2.2.2⟩⟩⟩⟩), by repeat (first | (with_reducible first | exact HB.out | apply wA | apply wN | apply wD | refine below_set ?_ Q3r.out | refine below_set ?_ Q3s.out | refine below_set ?_ Q3t.out | refine below_set ?_ Q3u.out | refine below_set ?_ Q3v.out | refine below_set ?_ Q24.out | refine below_set ?_ Q64.out | refine below_set ?_ Q2y.out) | exact HB.out)⟩
end Go.Proofs.Ytmbnibonggbjgaa.X
