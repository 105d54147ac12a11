/- A part of the proof that the law PullbackExchanged returns true at every input: contracts of the functions that it calls, and lemmas. -/
import Derived.Test.YtillofiphkmjjaaZPullbackExchanged1
namespace Go.Proofs.Ytillofiphkmjjaa.X
open Go.RowKit Go.Proofs.YtillofiphkmjjaaW.PrintWords Go.Proofs.YtillofiphkmjjaaW.PrintLast Go.Proofs.YtillofiphkmjjaaW.PrintMore
open Go.Proofs.YtillofiphkmjjaaW.PrintWords renaming blk_drewN → bN, blk_drew → bD, blk_alloc → bA, below_alloc → wA, pw_below_drewN → wN, below_drew1 → wD, blk_below → bB, below_step → wS, blk_at → bT, blk_grown → bG
open Go.Proofs.YtillofiphkmjjaaW.PrintWords.Kd renaming R_alloc → rA, R_drewN → rN, R_drew → rD, R_below → rB, R_grown → rG, C_below → cB, C_alloc → cA, C_drewN → cN, C_drew → cD
attribute [local go_sem] max2_int min2_int max_two min_two max_three min_three max_four min_four
set_option linter.unusedVariables false
set_option linter.unusedSimpArgs false
/-! ### pullback_of: function 41 -/
mutual
def pullback_of.j0 : Nat → Bool → List Int → List (S94) → List Int → List (S94) → List Int → List (S94) → List Int → List Int → List Int → List Int → List (S79) → List (S79) → Option ((List (S79)) × (List (S79)) × List Int × (List (S94)) × Int)
 | 0, _, _, _, _, _, _, _, _, _, _, _, _, _ => none
 | k + 1, x42, x102000, x102001, x102002, x102003, x102004, x102005, x102006, x102007, x102008, x102009, x111000, x111001 => if x42 = true then (some (([] : List (S79)), ([] : List (S79)), ([] : List Int), ([] : List (S94)), 3)) else (pullback_of.l0 k x111000 (x111000.length : Int) 0 x102000 x102001 x102002 x102003 x102004 x102005 x102006 x102007 x102008 x102009 x111000 x111001 ([] : List Int))
def pullback_of.l0 : Nat → List (S79) → Int → Int → List Int → List (S94) → List Int → List (S94) → List Int → List (S94) → List Int → List Int → List Int → List Int → List (S79) → List (S79) → List Int → Option ((List (S79)) × (List (S79)) × List Int × (List (S94)) × Int)
 | 0, _, _, _, _, _, _, _, _, _, _, _, _, _, _, _, _ => none
 | k + 1, x45, x46, x47, x102000, x102001, x102002, x102003, x102004, x102005, x102006, x102007, x102008, x102009, x111000, x111001, x111002 => if x47 < x46 then (if 0 ≤ x47 then (if x47 < (x45.length : Int) then (if 0 ≤ ((rd_T79 x45 x47).f0) then (if ((rd_T79 x45 x47).f0) < (x102000.length : Int) then (if x111002.length < 17592186044416 then (pullback_of.l0 k x45 x46 (wrap64 (x47 + 1)) x102000 x102001 x102002 x102003 x102004 x102005 x102006 x102007 x102008 x102009 x111000 x111001 (x111002 ++ [rd x102000 ((rd_T79 x45 x47).f0)])) else (none)) else (none)) else (none)) else (none)) else (none)) else (pullback_of.l1 k x111001 (x111001.length : Int) 0 x102000 x102001 x102002 x102003 x102004 x102005 x102006 x102007 x102008 x102009 x111000 x111001 x111002 ([] : List (S94)))
def pullback_of.l1 : Nat → List (S79) → Int → Int → List Int → List (S94) → List Int → List (S94) → List Int → List (S94) → List Int → List Int → List Int → List Int → List (S79) → List (S79) → List Int → List (S94) → Option ((List (S79)) × (List (S79)) × List Int × (List (S94)) × Int)
 | 0, _, _, _, _, _, _, _, _, _, _, _, _, _, _, _, _, _ => none
 | k + 1, x67, x68, x69, x102000, x102001, x102002, x102003, x102004, x102005, x102006, x102007, x102008, x102009, x111000, x111001, x111002, x111003 => if x69 < x68 then (if 0 ≤ x69 then (if x69 < (x67.length : Int) then (if 0 ≤ ((rd_T79 x67 x69).f0) then (if ((rd_T79 x67 x69).f0) < (x102001.length : Int) then (if 0 ≤ ((rd_T79 x67 x69).f1) then (if ((rd_T79 x67 x69).f1) < (x102003.length : Int) then ((api_Pair_73.f k x111000 ((rd_T94 x102001 ((rd_T79 x67 x69).f0)).f1) ((rd_T94 x102003 ((rd_T79 x67 x69).f1)).f1)).bind fun t123 => ((api_Pair_73.f k x111000 ((rd_T94 x102001 ((rd_T79 x67 x69).f0)).f2) ((rd_T94 x102003 ((rd_T79 x67 x69).f1)).f2)).bind fun t124 => (if x111003.length < 5864062014805 then (pullback_of.l1 k x67 x68 (wrap64 (x69 + 1)) x102000 x102001 x102002 x102003 x102004 x102005 x102006 x102007 x102008 x102009 x111000 x111001 x111002 (x111003 ++ [(⟨(rd_T94 x102001 ((rd_T79 x67 x69).f0)).f0, t123, t124⟩ : S94)])) else (none)))) else (none)) else (none)) else (none)) else (none)) else (none)) else (none)) else (some (x111000, x111001, x111002, x111003, 0))
end
def pullback_of.f (k : Nat) (l0_0 : List Int) (l0_1 : List (S94)) (l0_2 : List Int) (l0_3 : List (S94)) (l0_4 : List Int) (l0_5 : List (S94)) (l0_6 : List Int) (l0_7 : List Int) (l0_8 : List Int) (l0_9 : List Int) : Option ((List (S79)) × (List (S79)) × List Int × (List (S94)) × Int) := (pullback_given.f l0_0 l0_1 l0_2 l0_3 l0_4 l0_5 l0_6 l0_7 l0_8 l0_9).bind fun t103 => (if t103 = 0 then ((pullback_pairs.f k l0_6 l0_8).bind fun t104 => ((pullback_pairs.f k l0_7 l0_9).bind fun t107 => (if (t104.length : Int) > 40 then (pullback_of.j0 k true l0_0 l0_1 l0_2 l0_3 l0_4 l0_5 l0_6 l0_7 l0_8 l0_9 t104 t107) else (pullback_of.j0 k (decide ((t107.length : Int) > 80)) l0_0 l0_1 l0_2 l0_3 l0_4 l0_5 l0_6 l0_7 l0_8 l0_9 t104 t107)))) else (some (([] : List (S79)), ([] : List (S79)), ([] : List Int), ([] : List (S94)), t103)))
theorem pullback_of.mono_l : ∀ k, (∀ y0 y1 y2 y3 y4 y5 y6 y7 y8 y9 y10 y11 y12, LeO (pullback_of.j0 k y0 y1 y2 y3 y4 y5 y6 y7 y8 y9 y10 y11 y12) (pullback_of.j0 (k + 1) y0 y1 y2 y3 y4 y5 y6 y7 y8 y9 y10 y11 y12)) ∧ (∀ y0 y1 y2 y3 y4 y5 y6 y7 y8 y9 y10 y11 y12 y13 y14 y15, LeO (pullback_of.l0 k y0 y1 y2 y3 y4 y5 y6 y7 y8 y9 y10 y11 y12 y13 y14 y15) (pullback_of.l0 (k + 1) y0 y1 y2 y3 y4 y5 y6 y7 y8 y9 y10 y11 y12 y13 y14 y15)) ∧ (∀ y0 y1 y2 y3 y4 y5 y6 y7 y8 y9 y10 y11 y12 y13 y14 y15 y16, LeO (pullback_of.l1 k y0 y1 y2 y3 y4 y5 y6 y7 y8 y9 y10 y11 y12 y13 y14 y15 y16) (pullback_of.l1 (k + 1) y0 y1 y2 y3 y4 y5 y6 y7 y8 y9 y10 y11 y12 y13 y14 y15 y16))
 | 0 => ⟨fun _ _ _ _ _ _ _ _ _ _ _ _ _ r h => by simp [pullback_of.j0] at h, fun _ _ _ _ _ _ _ _ _ _ _ _ _ _ _ _ r h => by simp [pullback_of.l0] at h, fun _ _ _ _ _ _ _ _ _ _ _ _ _ _ _ _ _ r h => by simp [pullback_of.l1] at h⟩
 | k + 1 => by
  obtain ⟨ih0, ih1, ih2⟩ := pullback_of.mono_l k
  refine ⟨?_, ?_, ?_⟩
  ·intro y0 y1 y2 y3 y4 y5 y6 y7 y8 y9 y10 y11 y12
   unfold pullback_of.j0
   repeat' first
   | (with_reducible exact ih0 _ _ _ _ _ _ _ _ _ _ _ _ _)
   | (with_reducible exact ih1 _ _ _ _ _ _ _ _ _ _ _ _ _ _ _ _)
   | (with_reducible exact ih2 _ _ _ _ _ _ _ _ _ _ _ _ _ _ _ _ _)
   | (with_reducible exact api_Pair_73.mono _ _ _ _)
   | (with_reducible exact pullback_pairs.mono _ _ _)
   | (with_reducible exact LeO.refl _)
   | (with_reducible exact LeO.none _)
   | (with_reducible refine LeO.ite ?_ ?_)
   | (with_reducible refine LeO.bind ?_ (fun _ => ?_))
   | exact ih0 _ _ _ _ _ _ _ _ _ _ _ _ _
   | exact ih1 _ _ _ _ _ _ _ _ _ _ _ _ _ _ _ _
   | exact ih2 _ _ _ _ _ _ _ _ _ _ _ _ _ _ _ _ _
   | exact api_Pair_73.mono _ _ _ _
   | exact pullback_pairs.mono _ _ _
   | exact LeO.none _
   | refine LeO.ite ?_ ?_
   | refine LeO.bind ?_ (fun _ => ?_)
  ·intro y0 y1 y2 y3 y4 y5 y6 y7 y8 y9 y10 y11 y12 y13 y14 y15
   unfold pullback_of.l0
   repeat' first
   | (with_reducible exact ih0 _ _ _ _ _ _ _ _ _ _ _ _ _)
   | (with_reducible exact ih1 _ _ _ _ _ _ _ _ _ _ _ _ _ _ _ _)
   | (with_reducible exact ih2 _ _ _ _ _ _ _ _ _ _ _ _ _ _ _ _ _)
   | (with_reducible exact api_Pair_73.mono _ _ _ _)
   | (with_reducible exact pullback_pairs.mono _ _ _)
   | (with_reducible exact LeO.refl _)
   | (with_reducible exact LeO.none _)
   | (with_reducible refine LeO.ite ?_ ?_)
   | (with_reducible refine LeO.bind ?_ (fun _ => ?_))
   | exact ih0 _ _ _ _ _ _ _ _ _ _ _ _ _
   | exact ih1 _ _ _ _ _ _ _ _ _ _ _ _ _ _ _ _
   | exact ih2 _ _ _ _ _ _ _ _ _ _ _ _ _ _ _ _ _
   | exact api_Pair_73.mono _ _ _ _
   | exact pullback_pairs.mono _ _ _
   | exact LeO.none _
   | refine LeO.ite ?_ ?_
   | refine LeO.bind ?_ (fun _ => ?_)
  ·intro y0 y1 y2 y3 y4 y5 y6 y7 y8 y9 y10 y11 y12 y13 y14 y15 y16
   unfold pullback_of.l1
   repeat' first
   | (with_reducible exact ih0 _ _ _ _ _ _ _ _ _ _ _ _ _)
   | (with_reducible exact ih1 _ _ _ _ _ _ _ _ _ _ _ _ _ _ _ _)
   | (with_reducible exact ih2 _ _ _ _ _ _ _ _ _ _ _ _ _ _ _ _ _)
   | (with_reducible exact api_Pair_73.mono _ _ _ _)
   | (with_reducible exact pullback_pairs.mono _ _ _)
   | (with_reducible exact LeO.refl _)
   | (with_reducible exact LeO.none _)
   | (with_reducible refine LeO.ite ?_ ?_)
   | (with_reducible refine LeO.bind ?_ (fun _ => ?_))
   | exact ih0 _ _ _ _ _ _ _ _ _ _ _ _ _
   | exact ih1 _ _ _ _ _ _ _ _ _ _ _ _ _ _ _ _
   | exact ih2 _ _ _ _ _ _ _ _ _ _ _ _ _ _ _ _ _
   | exact api_Pair_73.mono _ _ _ _
   | exact pullback_pairs.mono _ _ _
   | exact LeO.none _
   | refine LeO.ite ?_ ?_
   | refine LeO.bind ?_ (fun _ => ?_)
theorem pullback_of.mono : ∀ a0 a1 a2 a3 a4 a5 a6 a7 a8 a9 k, LeO (pullback_of.f k a0 a1 a2 a3 a4 a5 a6 a7 a8 a9) (pullback_of.f (k + 1) a0 a1 a2 a3 a4 a5 a6 a7 a8 a9) := by
 intro a0 a1 a2 a3 a4 a5 a6 a7 a8 a9 k
 obtain ⟨ih0, ih1, ih2⟩ := pullback_of.mono_l k
 unfold pullback_of.f
 repeat' first
   | (with_reducible exact ih0 _ _ _ _ _ _ _ _ _ _ _ _ _)
   | (with_reducible exact ih1 _ _ _ _ _ _ _ _ _ _ _ _ _ _ _ _)
   | (with_reducible exact ih2 _ _ _ _ _ _ _ _ _ _ _ _ _ _ _ _ _)
   | (with_reducible exact api_Pair_73.mono _ _ _ _)
   | (with_reducible exact pullback_pairs.mono _ _ _)
   | (with_reducible exact LeO.refl _)
   | (with_reducible exact LeO.none _)
   | (with_reducible refine LeO.ite ?_ ?_)
   | (with_reducible refine LeO.bind ?_ (fun _ => ?_))
   | exact ih0 _ _ _ _ _ _ _ _ _ _ _ _ _
   | exact ih1 _ _ _ _ _ _ _ _ _ _ _ _ _ _ _ _
   | exact ih2 _ _ _ _ _ _ _ _ _ _ _ _ _ _ _ _ _
   | exact api_Pair_73.mono _ _ _ _
   | exact pullback_pairs.mono _ _ _
   | exact LeO.none _
   | refine LeO.ite ?_ ?_
   | refine LeO.bind ?_ (fun _ => ?_)
def pullback_of.T4 : Bool × List (List Nat × List Nat) := (true, [([], []), ([0], [0]), ([1], [1]), ([], []), ([3], [3]), ([4], [4]), ([2, 5], [2, 5]), ([], []), ([7], [7]), ([8], [8]), ([], []), ([10], [10]), ([11], [11]), ([9, 12, 6], [9, 12]), ([6, 13], [6, 13]), ([], []), ([15, 14, 13, 0, 1, 2, 3, 4, 5, 6, 7, 8, 9, 10, 11, 12, 13, 14, 15], [14, 15])])
def pullback_of.B4 : List Nat := [0, 1, 3, 0, 8, 24, 63, 0, 128, 384, 0, 1024, 3072, 8191, 16383, 0, 65535]
theorem pullback_of.tab4 : rtab .any (opsOf Try.f41 4) = pullback_of.T4 := by kernel_rfl
theorem pullback_of.bits4 : waitsOk pullback_of.T4.2 pullback_of.B4 = true := by kernel_rfl
def pullback_of.T10 : Bool × List (List Nat × List Nat) := (true, [([], []), ([0], [0]), ([1], [1]), ([], []), ([3], [3]), ([4], [4]), ([], []), ([6], [6]), ([5, 7], [5, 7]), ([8], [8]), ([9], [9]), ([2, 10], [2, 10]), ([0, 1, 2, 3, 4, 5, 6, 7, 8, 9, 10, 11], []), ([12, 0, 1, 2, 3, 4, 5, 6, 7, 8, 9, 10, 11], [12]), ([13, 11, 11, 0, 1, 2, 3, 4, 5, 6, 7, 8, 9, 10, 11], [11, 13])])
def pullback_of.B10 : List Nat := [0, 1, 3, 0, 8, 24, 0, 64, 248, 504, 1016, 2047, 4095, 8191, 16383]
theorem pullback_of.tab10 : rtab .any (opsOf Try.f41 10) = pullback_of.T10 := by kernel_rfl
theorem pullback_of.bits10 : waitsOk pullback_of.T10.2 pullback_of.B10 = true := by kernel_rfl
def pullback_of.T15 : Bool × List (List Nat × List Nat) := (true, [([], []), ([0], [0]), ([1], [1]), ([], []), ([3], [3]), ([2, 4], [2, 4]), ([5], [5]), ([], []), ([7], [7]), ([8], [8]), ([], []), ([10], [10]), ([9, 11], [9, 11]), ([12], [12]), ([], []), ([], []), ([14, 6, 0, 1, 2, 3, 4, 5, 6, 14, 15], [6, 14]), ([15, 13, 16, 0, 1, 2, 3, 4, 5, 6, 7, 8, 9, 10, 11, 12, 13, 14, 15, 16], [13, 15])])
def pullback_of.B15 : List Nat := [0, 1, 3, 0, 8, 31, 63, 0, 128, 384, 0, 1024, 3968, 8064, 0, 0, 49279, 131071]
theorem pullback_of.tab15 : rtab .any (opsOf Try.f41 15) = pullback_of.T15 := by kernel_rfl
theorem pullback_of.bits15 : waitsOk pullback_of.T15.2 pullback_of.B15 = true := by kernel_rfl
def pullback_of.T16 : Bool × List (List Nat × List Nat) := (true, [([], []), ([0], [0]), ([1], [1]), ([], []), ([3], [3]), ([], []), ([5], [5]), ([], []), ([7], [7]), ([], []), ([9], [9]), ([8, 10], [8, 10]), ([6, 11], [6, 11]), ([], []), ([13], [13]), ([], []), ([15], [15]), ([], []), ([17], [17]), ([16, 18], [16, 18]), ([14, 19, 12], [14, 19]), ([4, 12, 20], [4, 12, 20]), ([21], [21]), ([2, 22, 20], [2, 22]), ([0, 1, 2, 3, 4, 5, 6, 7, 8, 9, 10, 11, 12, 13, 14, 15, 16, 17, 18, 19, 20, 21, 22, 23], []), ([24, 0, 1, 2, 3, 4, 5, 6, 7, 8, 9, 10, 11, 12, 13, 14, 15, 16, 17, 18, 19, 20, 21, 22, 23], [24]), ([25, 23, 23, 0, 1, 2, 3, 4, 5, 6, 7, 8, 9, 10, 11, 12, 13, 14, 15, 16, 17, 18, 19, 20, 21, 22, 23], [23, 25])])
def pullback_of.B16 : List Nat := [0, 1, 3, 0, 8, 0, 32, 0, 128, 0, 512, 1920, 4064, 0, 8192, 0, 32768, 0, 131072, 491520, 1048544, 2097144, 4194296, 8388607, 16777215, 33554431, 67108863]
theorem pullback_of.tab16 : rtab .any (opsOf Try.f41 16) = pullback_of.T16 := by kernel_rfl
theorem pullback_of.bits16 : waitsOk pullback_of.T16.2 pullback_of.B16 = true := by kernel_rfl
set_option maxHeartbeats 8000000 in
set_option maxRecDepth 100000 in
theorem pullback_of.calls (k : Nat) (A0_0 : Option Addr) (c0_0 : Nat) (l0_0 : List Int) (A0_1 : Option Addr) (c0_1 : Nat) (l0_1 : List (S94)) (A0_2 : Option Addr) (c0_2 : Nat) (l0_2 : List Int) (A0_3 : Option Addr) (c0_3 : Nat) (l0_3 : List (S94)) (A0_4 : Option Addr) (c0_4 : Nat) (l0_4 : List Int) (A0_5 : Option Addr) (c0_5 : Nat) (l0_5 : List (S94)) (A0_6 : Option Addr) (c0_6 : Nat) (l0_6 : List Int) (A0_7 : Option Addr) (c0_7 : Nat) (l0_7 : List Int) (A0_8 : Option Addr) (c0_8 : Nat) (l0_8 : List Int) (A0_9 : Option Addr) (c0_9 : Nat) (l0_9 : List Int) (r1 : List (S79)) (r2 : List (S79)) (r3 : List Int) (r4 : List (S94)) (r5 : Int) (w : World) (hr0_0 : Kd.C (Kd.int .i64) w A0_0 l0_0.length l0_0) (hc0_0 : l0_0.length ≤ c0_0) (hr0_1 : Kd.C k94 w A0_1 l0_1.length l0_1) (hc0_1 : l0_1.length ≤ c0_1) (hr0_2 : Kd.C (Kd.int .i64) w A0_2 l0_2.length l0_2) (hc0_2 : l0_2.length ≤ c0_2) (hr0_3 : Kd.C k94 w A0_3 l0_3.length l0_3) (hc0_3 : l0_3.length ≤ c0_3) (hr0_4 : Kd.C (Kd.int .i64) w A0_4 l0_4.length l0_4) (hc0_4 : l0_4.length ≤ c0_4) (hr0_5 : Kd.C k94 w A0_5 l0_5.length l0_5) (hc0_5 : l0_5.length ≤ c0_5) (hr0_6 : Kd.C (Kd.int .i64) w A0_6 l0_6.length l0_6) (hc0_6 : l0_6.length ≤ c0_6) (hr0_7 : Kd.C (Kd.int .i64) w A0_7 l0_7.length l0_7) (hc0_7 : l0_7.length ≤ c0_7) (hr0_8 : Kd.C (Kd.int .i64) w A0_8 l0_8.length l0_8) (hc0_8 : l0_8.length ≤ c0_8) (hr0_9 : Kd.C (Kd.int .i64) w A0_9 l0_9.length l0_9) (hc0_9 : l0_9.length ≤ c0_9) (h : pullback_of.f k l0_0 l0_1 l0_2 l0_3 l0_4 l0_5 l0_6 l0_7 l0_8 l0_9 = some (r1, r2, r3, r4, r5)) :
  Calls Try.prog 41 #[.agg #[.slice A0_0 l0_0.length c0_0, .slice A0_1 l0_1.length c0_1, .slice A0_2 l0_2.length c0_2, .slice A0_3 l0_3.length c0_3, .slice A0_4 l0_4.length c0_4, .slice A0_5 l0_5.length c0_5, .slice A0_6 l0_6.length c0_6, .slice A0_7 l0_7.length c0_7, .slice A0_8 l0_8.length c0_8, .slice A0_9 l0_9.length c0_9]] w fun e w' => ∃ v0_ v1_ v2_ v3_ : Value, e = .returned (.tuple #[.agg #[v0_, v1_, v2_, v3_], .int .i64 r5]) ∧ Kd.R k79 79 w' w.heap.size (fun k_ => some k_ ≠ (v1_ : Value).ownBlock) v0_ r1 ∧ Kd.R k79 79 w' w.heap.size (fun k_ => some k_ ≠ (v0_ : Value).ownBlock) v1_ r2 ∧ Kd.R (Kd.int .i64) 3 w' w.heap.size (fun _ => True) v2_ r3 ∧ Kd.R k94 94 w' w.heap.size (fun _ => True) v3_ r4 ∧ Below w.heap.size w w' := by
 have hu29 := Try.underlying29
 have hu81 := Try.underlying81
 have hu79 := Try.underlying79
 have hu94 := Try.underlying94
 have HR0_0 := Aside0.mk hr0_0
 have HC0_0 := Aside0.mk hc0_0
 clear hr0_0 hc0_0
 have HR0_1 := Aside0.mk hr0_1
 have HC0_1 := Aside0.mk hc0_1
 clear hr0_1 hc0_1
 have HR0_2 := Aside0.mk hr0_2
 have HC0_2 := Aside0.mk hc0_2
 clear hr0_2 hc0_2
 have HR0_3 := Aside0.mk hr0_3
 have HC0_3 := Aside0.mk hc0_3
 clear hr0_3 hc0_3
 have HR0_4 := Aside0.mk hr0_4
 have HC0_4 := Aside0.mk hc0_4
 clear hr0_4 hc0_4
 have HR0_5 := Aside0.mk hr0_5
 have HC0_5 := Aside0.mk hc0_5
 clear hr0_5 hc0_5
 have HR0_6 := Aside0.mk hr0_6
 have HC0_6 := Aside0.mk hc0_6
 clear hr0_6 hc0_6
 have HR0_7 := Aside0.mk hr0_7
 have HC0_7 := Aside0.mk hc0_7
 clear hr0_7 hc0_7
 have HR0_8 := Aside0.mk hr0_8
 have HC0_8 := Aside0.mk hc0_8
 clear hr0_8 hc0_8
 have HR0_9 := Aside0.mk hr0_9
 have HC0_9 := Aside0.mk hc0_9
 clear hr0_9 hc0_9
 have HB := Aside0.mk (Below.refl w.heap.size w)
 have H : ((pullback_given.f l0_0 l0_1 l0_2 l0_3 l0_4 l0_5 l0_6 l0_7 l0_8 l0_9).bind fun t103 => (if t103 = 0 then ((pullback_pairs.f k l0_6 l0_8).bind fun t104 => ((pullback_pairs.f k l0_7 l0_9).bind fun t107 => (if (t104.length : Int) > 40 then (pullback_of.j0 k true l0_0 l0_1 l0_2 l0_3 l0_4 l0_5 l0_6 l0_7 l0_8 l0_9 t104 t107) else (pullback_of.j0 k (decide ((t107.length : Int) > 80)) l0_0 l0_1 l0_2 l0_3 l0_4 l0_5 l0_6 l0_7 l0_8 l0_9 t104 t107)))) else (some (([] : List (S79)), ([] : List (S79)), ([] : List Int), ([] : List (S94)), t103)))) = some (r1, r2, r3, r4, r5) := h
 clear h
 replace H := Option.bind_eq_some_iff.mp H
 obtain ⟨t103, A20, H⟩ := H
 replace H : (if t103 = 0 then ((pullback_pairs.f k l0_6 l0_8).bind fun t104 => ((pullback_pairs.f k l0_7 l0_9).bind fun t107 => (if (t104.length : Int) > 40 then (pullback_of.j0 k true l0_0 l0_1 l0_2 l0_3 l0_4 l0_5 l0_6 l0_7 l0_8 l0_9 t104 t107) else (pullback_of.j0 k (decide ((t107.length : Int) > 80)) l0_0 l0_1 l0_2 l0_3 l0_4 l0_5 l0_6 l0_7 l0_8 l0_9 t104 t107)))) else (some (([] : List (S79)), ([] : List (S79)), ([] : List Int), ([] : List (S94)), t103))) = some (r1, r2, r3, r4, r5) := H
 have A2 := Aside0.mk A20
 clear A20
 by_cases c3 : t103 = 0
 ·rw [if_pos c3] at H
  have c3b0 : (t103 == 0) = true := beq_iff_eq.mpr c3
  have c3b1 : (t103 != 0) = false := bne_eq_false_iff_eq.mpr c3
  clear c3
  replace H := Option.bind_eq_some_iff.mp H
  obtain ⟨t104, A40, H⟩ := H
  replace H : ((pullback_pairs.f k l0_7 l0_9).bind fun t107 => (if (t104.length : Int) > 40 then (pullback_of.j0 k true l0_0 l0_1 l0_2 l0_3 l0_4 l0_5 l0_6 l0_7 l0_8 l0_9 t104 t107) else (pullback_of.j0 k (decide ((t107.length : Int) > 80)) l0_0 l0_1 l0_2 l0_3 l0_4 l0_5 l0_6 l0_7 l0_8 l0_9 t104 t107))) = some (r1, r2, r3, r4, r5) := H
  have A4 := Aside0.mk A40
  clear A40
  replace H := Option.bind_eq_some_iff.mp H
  obtain ⟨t107, A50, H⟩ := H
  replace H : (if (t104.length : Int) > 40 then (pullback_of.j0 k true l0_0 l0_1 l0_2 l0_3 l0_4 l0_5 l0_6 l0_7 l0_8 l0_9 t104 t107) else (pullback_of.j0 k (decide ((t107.length : Int) > 80)) l0_0 l0_1 l0_2 l0_3 l0_4 l0_5 l0_6 l0_7 l0_8 l0_9 t104 t107)) = some (r1, r2, r3, r4, r5) := H
  have A5 := Aside0.mk A50
  clear A50
  have HC6 := Aside0.mk H
  clear H
  go_enter Try.func41, Try.ntmps41
  try go_wp2_with (first | ((with_reducible refine gate_dst (N := 1) rfl ?_); (try (refine gate_guard (by rfl) ?_; dsimp only)); refine box_event ?hg (N := 1) ?hd (cs := #[.slice A0_0 l0_0.length c0_0, .slice A0_1 l0_1.length c0_1, .slice A0_2 l0_2.length c0_2, .slice A0_3 l0_3.length c0_3, .slice A0_4 l0_4.length c0_4, .slice A0_5 l0_5.length c0_5, .slice A0_6 l0_6.length c0_6, .slice A0_7 l0_7.length c0_7, .slice A0_8 l0_8.length c0_8, .slice A0_9 l0_9.length c0_9]) (t := 29) ?hr ?_; (case hd => rfl); (case hg => rfl); (case hr => first | (go_simp; done) | (go_simp; rfl)); intro Q03 hg w7 hbox hb; have Q00 := Aside0.mk (hbox); have Q3v := Aside0.mk ((by rw [hg]; exact (below_size hB) : w.heap.size ≤ Q03)); have Q1u := Aside0.mk ((by rw [hg]; exact (below_size hB) : w.heap.size ≤ Q03)); replace HB := uH HB hb; clear hb hbox hg) | ((with_reducible refine gate_dst (N := 2) rfl ?_); (try (refine gate_guard (by rfl) ?_; dsimp only)); refine box_event ?hg (N := 2) ?hd (cs := #[.slice none 0 0, .slice none 0 0, .slice none 0 0, .slice none 0 0]) (t := 81) ?hr ?_; (case hd => rfl); (case hg => rfl); (case hr => first | (go_simp; done) | (go_simp; rfl)); intro Q0b hg w8 hbox hb; have Q02 := Aside0.mk (hbox); have Q3w := uS HB hg; have Q1v := uS HB hg; replace HB := uH HB hb; have Q1l := uL Q00 hg; have Q1m := uG Q00 hg; replace Q00 := uB Q00 hb; clear hb hbox hg; have Q4h := Q1l.out; have Q4i := Q1m.out; have Q20 : w8.cell? ⟨Q03, 0, none⟩ = some (.slice A0_0 l0_0.length c0_0) := bC Q00 0; have Q21 : w8.cell? ⟨Q03, 1, none⟩ = some (.slice A0_1 l0_1.length c0_1) := bC Q00 1; have Q22 : w8.cell? ⟨Q03, 2, none⟩ = some (.slice A0_2 l0_2.length c0_2) := bC Q00 2; have Q23 : w8.cell? ⟨Q03, 3, none⟩ = some (.slice A0_3 l0_3.length c0_3) := bC Q00 3; have Q24 : w8.cell? ⟨Q03, 4, none⟩ = some (.slice A0_4 l0_4.length c0_4) := bC Q00 4; have Q25 : w8.cell? ⟨Q03, 5, none⟩ = some (.slice A0_5 l0_5.length c0_5) := bC Q00 5; have Q26 : w8.cell? ⟨Q03, 6, none⟩ = some (.slice A0_6 l0_6.length c0_6) := bC Q00 6; have Q27 : w8.cell? ⟨Q03, 7, none⟩ = some (.slice A0_7 l0_7.length c0_7) := bC Q00 7; have Q28 : w8.cell? ⟨Q03, 8, none⟩ = some (.slice A0_8 l0_8.length c0_8) := bC Q00 8; have Q29 : w8.cell? ⟨Q03, 9, none⟩ = some (.slice A0_9 l0_9.length c0_9) := bC Q00 9; have Q2a := blk_frozen Q00.out 0; have Q2b := blk_frozen Q00.out 1; have Q2c := blk_frozen Q00.out 2; have Q2d := blk_frozen Q00.out 3; have Q2e := blk_frozen Q00.out 4; have Q2f := blk_frozen Q00.out 5; have Q2g := blk_frozen Q00.out 6; have Q2h := blk_frozen Q00.out 7; have Q2i := blk_frozen Q00.out 8; have Q2j := blk_frozen Q00.out 9) | ((with_reducible refine gate_callee (f := 72) rfl ?_); refine goesL_ (some 13) rfl rfl Try.func72 (by kernel_rfl) rfl #[.agg #[.slice A0_0 l0_0.length c0_0, .slice A0_1 l0_1.length c0_1, .slice A0_2 l0_2.length c0_2, .slice A0_3 l0_3.length c0_3, .slice A0_4 l0_4.length c0_4, .slice A0_5 l0_5.length c0_5, .slice A0_6 l0_6.length c0_6, .slice A0_7 l0_7.length c0_7, .slice A0_8 l0_8.length c0_8, .slice A0_9 l0_9.length c0_9]] rfl aM ?_; (with_reducible refine (pullback_given.calls _ _ l0_0 _ _ l0_1 _ _ l0_2 _ _ l0_3 _ _ l0_4 _ _ l0_5 _ _ l0_6 _ _ l0_7 _ _ l0_8 _ _ l0_9 t103 _ ?side1 ?side2 ?side3 ?side4 ?side5 ?side6 ?side7 ?side8 ?side9 ?side10 ?side11 ?side12 ?side13 ?side14 ?side15 ?side16 ?side17 ?side18 ?side19 ?side20 A2.out).mono ?_); (case side1 => exact cX (cB HR0_0.out HB.out)); (case side2 => exact HC0_0.out); (case side3 => exact cX (cB HR0_1.out HB.out)); (case side4 => exact HC0_1.out); (case side5 => exact cX (cB HR0_2.out HB.out)); (case side6 => exact HC0_2.out); (case side7 => exact cX (cB HR0_3.out HB.out)); (case side8 => exact HC0_3.out); (case side9 => exact cX (cB HR0_4.out HB.out)); (case side10 => exact HC0_4.out); (case side11 => exact cX (cB HR0_5.out HB.out)); (case side12 => exact HC0_5.out); (case side13 => exact cX (cB HR0_6.out HB.out)); (case side14 => exact HC0_6.out); (case side15 => exact cX (cB HR0_7.out HB.out)); (case side16 => exact HC0_7.out); (case side17 => exact cX (cB HR0_8.out HB.out)); (case side18 => exact HC0_8.out); (case side19 => exact cX (cB HR0_9.out HB.out)); (case side20 => exact HC0_9.out); rintro e w11 ⟨rfl, hb⟩; refine ⟨_, rfl, ?_⟩; replace Q00 := uB Q00 hb; replace Q02 := uB Q02 hb; replace HB := uH HB hb; (try clear hb); (try clear hb2); (try clear hk); (try clear hi)))
  replace Q00 := Aside0.mk (bD Q00.out)
  replace Q02 := Aside0.mk (bD Q02.out)
  replace HB := Aside0.mk (wD HB.out)
  refine start_ (n := 17) (S := fun w' => w'.cell? ⟨Q03, 0, none⟩ = some (.slice A0_0 l0_0.length c0_0) ∧ w'.cell? ⟨Q03, 1, none⟩ = some (.slice A0_1 l0_1.length c0_1) ∧ w'.cell? ⟨Q03, 2, none⟩ = some (.slice A0_2 l0_2.length c0_2) ∧ w'.cell? ⟨Q03, 3, none⟩ = some (.slice A0_3 l0_3.length c0_3) ∧ w'.cell? ⟨Q03, 4, none⟩ = some (.slice A0_4 l0_4.length c0_4) ∧ w'.cell? ⟨Q03, 5, none⟩ = some (.slice A0_5 l0_5.length c0_5) ∧ w'.cell? ⟨Q03, 6, none⟩ = some (.slice A0_6 l0_6.length c0_6) ∧ w'.cell? ⟨Q03, 7, none⟩ = some (.slice A0_7 l0_7.length c0_7) ∧ w'.cell? ⟨Q03, 8, none⟩ = some (.slice A0_8 l0_8.length c0_8) ∧ w'.cell? ⟨Q03, 9, none⟩ = some (.slice A0_9 l0_9.length c0_9)) (ds := []) #[false, false, false, false, false, false, false, false, false, false, false, false, false, false, false, false, false] (by kernel_rfl) rfl rfl ⟨bC Q00 0, bC Q00 1, bC Q00 2, bC Q00 3, bC Q00 4, bC Q00 5, bC Q00 6, bC Q00 7, bC Q00 8, bC Q00 9⟩ (fun hHeld => ?_); refine with_tabW pullback_of.tab4 pullback_of.bits4 (fun HT_ HW_ => ?_)
  generalize w11.drew = w12 at Q00 Q02 HB hHeld ⊢
  refine pure_ (i := 0) (N := some 18) (v := ?_) (a' := ?_) #[true, false, false, false, false, false, false, false, false, false, false, false, false, false, false, false, false] rfl rfl (any_of HT_.out (by kernel_rfl)) (fun _ _ _ h => h) (Or.inl ⟨by rfl, ?_⟩) ?_ ?_
  rotate_left
  ·intro w'
   go_simp
   with_reducible rfl
  rotate_left
  ·simp only [Act.put, List.setIfInBounds_toArray, List.set_cons_zero, List.set_cons_succ, i64_w, i32_w]
   rfl
  refine pure_ (i := 1) (N := some 19) (v := ?_) (a' := ?_) #[true, true, false, false, false, false, false, false, false, false, false, false, false, false, false, false, false] rfl rfl (any_of HT_.out (by kernel_rfl)) (fun _ _ _ h => h) (Or.inl ⟨by rfl, ?_⟩) ?_ ?_
  rotate_left
  ·intro w'
   go_simp
   with_reducible rfl
  rotate_left
  ·simp only [Act.put, List.setIfInBounds_toArray, List.set_cons_zero, List.set_cons_succ, i64_w, i32_w]
   rfl
  refine pure_ (i := 3) (N := some 21) (v := ?_) (a' := ?_) #[true, true, false, true, false, false, false, false, false, false, false, false, false, false, false, false, false] rfl rfl (any_of HT_.out (by kernel_rfl)) (fun _ _ _ h => h) (Or.inl ⟨by rfl, ?_⟩) ?_ ?_
  rotate_left
  ·intro w'
   go_simp
   with_reducible rfl
  rotate_left
  ·simp only [Act.put, List.setIfInBounds_toArray, List.set_cons_zero, List.set_cons_succ, i64_w, i32_w]
   rfl
  refine pure_ (i := 4) (N := some 22) (v := ?_) (a' := ?_) #[true, true, false, true, true, false, false, false, false, false, false, false, false, false, false, false, false] rfl rfl (any_of HT_.out (by kernel_rfl)) (fun _ _ _ h => h) (Or.inl ⟨by rfl, ?_⟩) ?_ ?_
  rotate_left
  ·intro w'
   go_simp
   with_reducible rfl
  rotate_left
  ·simp only [Act.put, List.setIfInBounds_toArray, List.set_cons_zero, List.set_cons_succ, i64_w, i32_w]
   rfl
  refine pure_ (i := 7) (N := some 25) (v := ?_) (a' := ?_) #[true, true, false, true, true, false, false, true, false, false, false, false, false, false, false, false, false] rfl rfl (any_of HT_.out (by kernel_rfl)) (fun _ _ _ h => h) (Or.inl ⟨by rfl, ?_⟩) ?_ ?_
  rotate_left
  ·intro w'
   go_simp
   with_reducible rfl
  rotate_left
  ·simp only [Act.put, List.setIfInBounds_toArray, List.set_cons_zero, List.set_cons_succ, i64_w, i32_w]
   rfl
  refine pure_ (i := 8) (N := some 26) (v := ?_) (a' := ?_) #[true, true, false, true, true, false, false, true, true, false, false, false, false, false, false, false, false] rfl rfl (any_of HT_.out (by kernel_rfl)) (fun _ _ _ h => h) (Or.inl ⟨by rfl, ?_⟩) ?_ ?_
  rotate_left
  ·intro w'
   go_simp
   with_reducible rfl
  rotate_left
  ·simp only [Act.put, List.setIfInBounds_toArray, List.set_cons_zero, List.set_cons_succ, i64_w, i32_w]
   rfl
  refine pure_ (i := 10) (N := some 28) (v := ?_) (a' := ?_) #[true, true, false, true, true, false, false, true, true, false, true, false, false, false, false, false, false] rfl rfl (any_of HT_.out (by kernel_rfl)) (fun _ _ _ h => h) (Or.inl ⟨by rfl, ?_⟩) ?_ ?_
  rotate_left
  ·intro w'
   go_simp
   with_reducible rfl
  rotate_left
  ·simp only [Act.put, List.setIfInBounds_toArray, List.set_cons_zero, List.set_cons_succ, i64_w, i32_w]
   rfl
  refine pure_ (i := 11) (N := some 29) (v := ?_) (a' := ?_) #[true, true, false, true, true, false, false, true, true, false, true, true, false, false, false, false, false] rfl rfl (any_of HT_.out (by kernel_rfl)) (fun _ _ _ h => h) (Or.inl ⟨by rfl, ?_⟩) ?_ ?_
  rotate_left
  ·intro w'
   go_simp
   with_reducible rfl
  rotate_left
  ·simp only [Act.put, List.setIfInBounds_toArray, List.set_cons_zero, List.set_cons_succ, i64_w, i32_w]
   rfl
  refine take_ (i := 2) (N := some 20) (v := ?_) (a' := ?_) #[true, true, true, true, true, false, false, true, true, false, true, true, false, false, false, false, false] rfl rfl (take_ofW HT_.out HW_.out (by kernel_rfl)) (fun _ _ _ h => h) (Or.inl ⟨by rfl, ?_⟩) hHeld ?_ ?_
  rotate_left
  ·rintro w' ⟨s0, s1, s2, s3, s4, s5, s6, s7, s8, s9⟩
   go_simp
   with_reducible rfl
  rotate_left
  ·simp only [Act.put, List.setIfInBounds_toArray, List.set_cons_zero, List.set_cons_succ, i64_w, i32_w]
   rfl
  refine take_ (i := 5) (N := some 23) (v := ?_) (a' := ?_) #[true, true, true, true, true, true, false, true, true, false, true, true, false, false, false, false, false] rfl rfl (take_ofW HT_.out HW_.out (by kernel_rfl)) (fun _ _ _ h => h) (Or.inl ⟨by rfl, ?_⟩) hHeld ?_ ?_
  rotate_left
  ·rintro w' ⟨s0, s1, s2, s3, s4, s5, s6, s7, s8, s9⟩
   go_simp
   with_reducible rfl
  rotate_left
  ·simp only [Act.put, List.setIfInBounds_toArray, List.set_cons_zero, List.set_cons_succ, i64_w, i32_w]
   rfl
  refine take_ (i := 9) (N := some 27) (v := ?_) (a' := ?_) #[true, true, true, true, true, true, false, true, true, true, true, true, false, false, false, false, false] rfl rfl (take_ofW HT_.out HW_.out (by kernel_rfl)) (fun _ _ _ h => h) (Or.inl ⟨by rfl, ?_⟩) hHeld ?_ ?_
  rotate_left
  ·rintro w' ⟨s0, s1, s2, s3, s4, s5, s6, s7, s8, s9⟩
   go_simp
   with_reducible rfl
  rotate_left
  ·simp only [Act.put, List.setIfInBounds_toArray, List.set_cons_zero, List.set_cons_succ, i64_w, i32_w]
   rfl
  refine take_ (i := 12) (N := some 30) (v := ?_) (a' := ?_) #[true, true, true, true, true, true, false, true, true, true, true, true, true, false, false, false, false] rfl rfl (take_ofW HT_.out HW_.out (by kernel_rfl)) (fun _ _ _ h => h) (Or.inl ⟨by rfl, ?_⟩) hHeld ?_ ?_
  rotate_left
  ·rintro w' ⟨s0, s1, s2, s3, s4, s5, s6, s7, s8, s9⟩
   go_simp
   with_reducible rfl
  rotate_left
  ·simp only [Act.put, List.setIfInBounds_toArray, List.set_cons_zero, List.set_cons_succ, i64_w, i32_w]
   rfl
  refine join_ (σ := Value × Value × Nat) 1 #[true, true, true, true, true, true, true, true, true, true, true, true, true, true, true, true, false] (fun s_ => [(24, s_.1), (31, s_.2.1), (5, .pointer (some ⟨s_.2.2, 0, none⟩)), (32, .agg #[s_.1, s_.2.1, .slice none 0 0, .slice none 0 0])]) (fun s_ w' => (w'.cell? ⟨Q03, 0, none⟩ = some (.slice A0_0 l0_0.length c0_0) ∧ w'.cell? ⟨Q03, 1, none⟩ = some (.slice A0_1 l0_1.length c0_1) ∧ w'.cell? ⟨Q03, 2, none⟩ = some (.slice A0_2 l0_2.length c0_2) ∧ w'.cell? ⟨Q03, 3, none⟩ = some (.slice A0_3 l0_3.length c0_3) ∧ w'.cell? ⟨Q03, 4, none⟩ = some (.slice A0_4 l0_4.length c0_4) ∧ w'.cell? ⟨Q03, 5, none⟩ = some (.slice A0_5 l0_5.length c0_5) ∧ w'.cell? ⟨Q03, 6, none⟩ = some (.slice A0_6 l0_6.length c0_6) ∧ w'.cell? ⟨Q03, 7, none⟩ = some (.slice A0_7 l0_7.length c0_7) ∧ w'.cell? ⟨Q03, 8, none⟩ = some (.slice A0_8 l0_8.length c0_8) ∧ w'.cell? ⟨Q03, 9, none⟩ = some (.slice A0_9 l0_9.length c0_9)) ∧ (Kd.R k79 79 w' w.heap.size (fun k_ => some k_ ≠ (s_.2.1 : Value).ownBlock) s_.1 t104) ∧ (Kd.R k79 79 w' w.heap.size (fun k_ => some k_ ≠ (s_.1 : Value).ownBlock) s_.2.1 t107) ∧ (w'.heap[Q03]? = some (.cells #[.slice A0_0 l0_0.length c0_0, .slice A0_1 l0_1.length c0_1, .slice A0_2 l0_2.length c0_2, .slice A0_3 l0_3.length c0_3, .slice A0_4 l0_4.length c0_4, .slice A0_5 l0_5.length c0_5, .slice A0_6 l0_6.length c0_6, .slice A0_7 l0_7.length c0_7, .slice A0_8 l0_8.length c0_8, .slice A0_9 l0_9.length c0_9] 29 (0, 0))) ∧ (w'.heap[Q0b]? = some (.cells #[.slice none 0 0, .slice none 0 0, .slice none 0 0, .slice none 0 0] 81 (0, 0))) ∧ (w'.heap[s_.2.2]? = some (.cells #[.slice none 0 0, .slice none 0 0, .slice none 0 0, .slice none 0 0] 81 (0, 0))) ∧ (w.heap.size ≤ s_.2.2) ∧ (w.heap.size ≤ s_.2.2) ∧ (Q03 ≠ s_.2.2) ∧ (s_.2.2 ≠ Q03) ∧ (Q0b ≠ s_.2.2) ∧ (s_.2.2 ≠ Q0b) ∧ (Below w.heap.size w w')) ?_ ?_
  rotate_left
  ·intro hCont
   refine two_ (i := 6) (j := 15) (Ni := some 24) (Nj := some 5) #[true, true, true, true, true, true, true, true, true, true, true, true, true, false, false, false, false] #[true, true, true, true, true, true, false, true, true, true, true, true, true, false, false, true, false] rfl rfl rfl rfl (two_of HT_.out (by kernel_rfl)) (by decide) (by decide) (fun K hK => ?_) (fun K hK => ?_)
   ·skip
    refine goes_ Try.func66 (by kernel_rfl) rfl #[.slice A0_6 l0_6.length c0_6, .slice A0_8 l0_8.length c0_8] (by rfl) rfl rfl aM ?_
    with_reducible refine (pullback_pairs.calls k _ _ l0_6 _ _ l0_8 t104 _ ?side1 ?side2 ?side3 ?side4 A4.out).mono ?_
    (case side1 => exact cX (cB HR0_6.out HB.out))
    (case side2 => exact HC0_6.out)
    (case side3 => exact cX (cB HR0_8.out HB.out))
    (case side4 => exact HC0_8.out)
    rintro e w13 ⟨v105, rfl, ho0, hb⟩
    refine ⟨_, rfl, ?_⟩
    have Q0q := Aside0.mk (Kd.R_lower ho0 (below_size (pH HB)))
    replace Q00 := uB Q00 hb
    replace Q02 := uB Q02 hb
    replace HB := uH HB hb
    (try clear hb)
    (try clear hb2)
    (try clear hk)
    (try clear hi)
    (try clear ho0)
    refine hK.out _ _ ⟨bC Q00 0, bC Q00 1, bC Q00 2, bC Q00 3, bC Q00 4, bC Q00 5, bC Q00 6, bC Q00 7, bC Q00 8, bC Q00 9⟩ (fun hHeld => ?_)
    clear hK K
    refine norm_ (a' := ?_) ?_ ?_
    rotate_left
    ·show Act.put _ (some 24) _ = _
     simp only [Act.put, List.setIfInBounds_toArray, List.set_cons_zero, List.set_cons_succ, i64_w, i32_w]
     rfl
    refine two_ (i := 13) (j := 15) (Ni := some 31) (Nj := some 5) #[true, true, true, true, true, true, true, true, true, true, true, true, true, true, false, false, false] #[true, true, true, true, true, true, true, true, true, true, true, true, true, false, false, true, false] rfl rfl rfl rfl (two_of HT_.out (by kernel_rfl)) (by decide) (by decide) (fun K hK => ?_) (fun K hK => ?_)
    ·skip
     refine goes_ Try.func66 (by kernel_rfl) rfl #[.slice A0_7 l0_7.length c0_7, .slice A0_9 l0_9.length c0_9] (by rfl) rfl rfl aM ?_
     with_reducible refine (pullback_pairs.calls k _ _ l0_7 _ _ l0_9 t107 _ ?side1 ?side2 ?side3 ?side4 A5.out).mono ?_
     (case side1 => exact cX (cB HR0_7.out HB.out))
     (case side2 => exact HC0_7.out)
     (case side3 => exact cX (cB HR0_9.out HB.out))
     (case side4 => exact HC0_9.out)
     rintro e w14 ⟨v108, rfl, ho0, hb⟩
     refine ⟨_, rfl, ?_⟩
     have Q0y := Aside0.mk (Kd.R_lower (Kd.R_new' ho0 (Kd.R_lt (pR Q0q))) (below_size (pH HB)))
     replace Q0q := eR Q0q (Kd.R_base ho0) hb
     replace Q00 := uB Q00 hb
     replace Q02 := uB Q02 hb
     replace HB := uH HB hb
     (try clear hb)
     (try clear hb2)
     (try clear hk)
     (try clear hi)
     (try clear ho0)
     obtain ⟨Q3x, Q3y, Q36⟩ := Kd.R_slice Q0y.out
     (first | subst Q36 | (injection Q36 with f1_ f2_ f3_; have f4_ := f1_.symm; have f5_ := f3_.symm; clear f1_ f2_ f3_; subst f4_; subst f5_))
     obtain ⟨Q1n, Q1o, Q16⟩ := Kd.R_slice Q0q.out
     (first | subst Q16 | (injection Q16 with f1_ f2_ f3_; have f4_ := f1_.symm; have f5_ := f3_.symm; clear f1_ f2_ f3_; subst f4_; subst f5_))
     refine hK.out _ _ ⟨bC Q00 0, bC Q00 1, bC Q00 2, bC Q00 3, bC Q00 4, bC Q00 5, bC Q00 6, bC Q00 7, bC Q00 8, bC Q00 9⟩ (fun hHeld => ?_)
     clear hK K
     refine norm_ (a' := ?_) ?_ ?_
     rotate_left
     ·show Act.put _ (some 31) _ = _
      simp only [Act.put, List.setIfInBounds_toArray, List.set_cons_zero, List.set_cons_succ, i64_w, i32_w]
      rfl
     refine pure_ (i := 14) (N := some 32) (v := ?_) (a' := ?_) #[true, true, true, true, true, true, true, true, true, true, true, true, true, true, true, false, false] rfl rfl (any_of HT_.out (by kernel_rfl)) (fun _ _ _ h => h) (Or.inl ⟨by rfl, ?_⟩) ?_ ?_
     rotate_left
     ·intro w'
      go_simp
      with_reducible rfl
     rotate_left
     ·simp only [Act.put, List.setIfInBounds_toArray, List.set_cons_zero, List.set_cons_succ, i64_w, i32_w]
      rfl
     refine one_ (i := 15) (N := some 5) #[true, true, true, true, true, true, true, true, true, true, true, true, true, true, true, true, false] rfl rfl (one_of HT_.out (by kernel_rfl)) (by decide) (fun K hK => ?_)
     refine box_step ?hg (N := 5) ?hd (cs := #[.slice none 0 0, .slice none 0 0, .slice none 0 0, .slice none 0 0]) (t := 81) ?hr ?_; (case hd => rfl); (case hg => rfl); (case hr => first | (go_simp; done) | (go_simp; rfl))
     intro Q04 hg w17 hbox hb
     replace Q0q := uR Q0q hb
     replace Q0y := uR Q0y hb
     have Q01 := Aside0.mk (hbox)
     have Q1g := uS HB hg
     have Q17 := uS HB hg
     replace HB := uH HB hb
     have Q08 := uL Q00 hg
     have Q0v := uG Q00 hg
     replace Q00 := uB Q00 hb
     have Q0p := uL Q02 hg
     have Q0u := uG Q02 hg
     replace Q02 := uB Q02 hb
     clear hb hbox hg
     refine hK.out _ _ ⟨bC Q00 0, bC Q00 1, bC Q00 2, bC Q00 3, bC Q00 4, bC Q00 5, bC Q00 6, bC Q00 7, bC Q00 8, bC Q00 9⟩ (fun hHeld => ?_)
     clear hK K
     refine norm_ (a' := ?_) ?_ ?_
     rotate_left
     ·show Act.put _ (some 5) _ = _
      simp only [Act.put, List.setIfInBounds_toArray, List.set_cons_zero, List.set_cons_succ, i64_w, i32_w]
      rfl
     exact norm_ (by simp only [putAll, Act.put, List.setIfInBounds_toArray, List.set_cons_zero, List.set_cons_succ]) (hCont (.slice Q1n t104.length Q1o, .slice Q3x t107.length Q3y, Q04) _ ⟨hHeld, (by (with_reducible repeat (first | apply rA | apply rN | apply rD)); exact Kd.R_mono Q0q.out (fun _ hk => hk.2)), (by (with_reducible repeat (first | apply rA | apply rN | apply rD)); exact Kd.R_mono Q0y.out (fun _ hk => hk.2)), (pB Q00), (pB Q02), (pB Q01), Q1g.out, Q17.out, Q08.out, Q0v.out, Q0p.out, Q0u.out, (pH HB)⟩)
    ·skip
     refine box_step ?hg (N := 5) ?hd (cs := #[.slice none 0 0, .slice none 0 0, .slice none 0 0, .slice none 0 0]) (t := 81) ?hr ?_; (case hd => rfl); (case hg => rfl); (case hr => first | (go_simp; done) | (go_simp; rfl))
     intro Q04 hg w14 hbox hb
     replace Q0q := uR Q0q hb
     have Q01 := Aside0.mk (hbox)
     have Q1g := uS HB hg
     have Q17 := uS HB hg
     replace HB := uH HB hb
     have Q08 := uL Q00 hg
     have Q0v := uG Q00 hg
     replace Q00 := uB Q00 hb
     have Q0p := uL Q02 hg
     have Q0u := uG Q02 hg
     replace Q02 := uB Q02 hb
     clear hb hbox hg
     refine hK.out _ _ ⟨bC Q00 0, bC Q00 1, bC Q00 2, bC Q00 3, bC Q00 4, bC Q00 5, bC Q00 6, bC Q00 7, bC Q00 8, bC Q00 9⟩ (fun hHeld => ?_)
     clear hK K
     refine norm_ (a' := ?_) ?_ ?_
     rotate_left
     ·show Act.put _ (some 5) _ = _
      simp only [Act.put, List.setIfInBounds_toArray, List.set_cons_zero, List.set_cons_succ, i64_w, i32_w]
      rfl
     refine one_ (i := 13) (N := some 31) #[true, true, true, true, true, true, true, true, true, true, true, true, true, true, false, true, false] rfl rfl (one_of HT_.out (by kernel_rfl)) (by decide) (fun K hK => ?_)
     refine goes_ Try.func66 (by kernel_rfl) rfl #[.slice A0_7 l0_7.length c0_7, .slice A0_9 l0_9.length c0_9] (by rfl) rfl rfl aM ?_
     with_reducible refine (pullback_pairs.calls k _ _ l0_7 _ _ l0_9 t107 _ ?side1 ?side2 ?side3 ?side4 A5.out).mono ?_
     (case side1 => exact cX (cB HR0_7.out HB.out))
     (case side2 => exact HC0_7.out)
     (case side3 => exact cX (cB HR0_9.out HB.out))
     (case side4 => exact HC0_9.out)
     rintro e w15 ⟨v108, rfl, ho0, hb⟩
     refine ⟨_, rfl, ?_⟩
     have Q0y := Aside0.mk (Kd.R_lower (Kd.R_new' ho0 (Kd.R_lt (pR Q0q))) (below_size (pH HB)))
     replace Q0q := eR Q0q (Kd.R_base ho0) hb
     replace Q00 := uB Q00 hb
     replace Q02 := uB Q02 hb
     replace Q01 := uB Q01 hb
     replace HB := uH HB hb
     (try clear hb)
     (try clear hb2)
     (try clear hk)
     (try clear hi)
     (try clear ho0)
     obtain ⟨Q1n, Q1o, Q16⟩ := Kd.R_slice Q0y.out
     (first | subst Q16 | (injection Q16 with f1_ f2_ f3_; have f4_ := f1_.symm; have f5_ := f3_.symm; clear f1_ f2_ f3_; subst f4_; subst f5_))
     obtain ⟨Q2k, Q2l, Q1p⟩ := Kd.R_slice Q0q.out
     (first | subst Q1p | (injection Q1p with f1_ f2_ f3_; have f4_ := f1_.symm; have f5_ := f3_.symm; clear f1_ f2_ f3_; subst f4_; subst f5_))
     refine hK.out _ _ ⟨bC Q00 0, bC Q00 1, bC Q00 2, bC Q00 3, bC Q00 4, bC Q00 5, bC Q00 6, bC Q00 7, bC Q00 8, bC Q00 9⟩ (fun hHeld => ?_)
     clear hK K
     refine norm_ (a' := ?_) ?_ ?_
     rotate_left
     ·show Act.put _ (some 31) _ = _
      simp only [Act.put, List.setIfInBounds_toArray, List.set_cons_zero, List.set_cons_succ, i64_w, i32_w]
      rfl
     refine pure_ (i := 14) (N := some 32) (v := ?_) (a' := ?_) #[true, true, true, true, true, true, true, true, true, true, true, true, true, true, true, true, false] rfl rfl (any_of HT_.out (by kernel_rfl)) (fun _ _ _ h => h) (Or.inl ⟨by rfl, ?_⟩) ?_ ?_
     rotate_left
     ·intro w'
      go_simp
      with_reducible rfl
     rotate_left
     ·simp only [Act.put, List.setIfInBounds_toArray, List.set_cons_zero, List.set_cons_succ, i64_w, i32_w]
      rfl
     exact norm_ (by simp only [putAll, Act.put, List.setIfInBounds_toArray, List.set_cons_zero, List.set_cons_succ]) (hCont (.slice Q2k t104.length Q2l, .slice Q1n t107.length Q1o, Q04) _ ⟨hHeld, (by (with_reducible repeat (first | apply rA | apply rN | apply rD)); exact Kd.R_mono Q0q.out (fun _ hk => hk.2)), (by (with_reducible repeat (first | apply rA | apply rN | apply rD)); exact Kd.R_mono Q0y.out (fun _ hk => hk.2)), (pB Q00), (pB Q02), (pB Q01), Q1g.out, Q17.out, Q08.out, Q0v.out, Q0p.out, Q0u.out, (pH HB)⟩)
   ·skip
    refine box_step ?hg (N := 5) ?hd (cs := #[.slice none 0 0, .slice none 0 0, .slice none 0 0, .slice none 0 0]) (t := 81) ?hr ?_; (case hd => rfl); (case hg => rfl); (case hr => first | (go_simp; done) | (go_simp; rfl))
    intro Q04 hg w13 hbox hb
    have Q01 := Aside0.mk (hbox)
    have Q1g := uS HB hg
    have Q17 := uS HB hg
    replace HB := uH HB hb
    have Q08 := uL Q00 hg
    have Q0v := uG Q00 hg
    replace Q00 := uB Q00 hb
    have Q0p := uL Q02 hg
    have Q0u := uG Q02 hg
    replace Q02 := uB Q02 hb
    clear hb hbox hg
    refine hK.out _ _ ⟨bC Q00 0, bC Q00 1, bC Q00 2, bC Q00 3, bC Q00 4, bC Q00 5, bC Q00 6, bC Q00 7, bC Q00 8, bC Q00 9⟩ (fun hHeld => ?_)
    clear hK K
    refine norm_ (a' := ?_) ?_ ?_
    rotate_left
    ·show Act.put _ (some 5) _ = _
     simp only [Act.put, List.setIfInBounds_toArray, List.set_cons_zero, List.set_cons_succ, i64_w, i32_w]
     rfl
    refine one_ (i := 6) (N := some 24) #[true, true, true, true, true, true, true, true, true, true, true, true, true, false, false, true, false] rfl rfl (one_of HT_.out (by kernel_rfl)) (by decide) (fun K hK => ?_)
    refine goes_ Try.func66 (by kernel_rfl) rfl #[.slice A0_6 l0_6.length c0_6, .slice A0_8 l0_8.length c0_8] (by rfl) rfl rfl aM ?_
    with_reducible refine (pullback_pairs.calls k _ _ l0_6 _ _ l0_8 t104 _ ?side1 ?side2 ?side3 ?side4 A4.out).mono ?_
    (case side1 => exact cX (cB HR0_6.out HB.out))
    (case side2 => exact HC0_6.out)
    (case side3 => exact cX (cB HR0_8.out HB.out))
    (case side4 => exact HC0_8.out)
    rintro e w14 ⟨v105, rfl, ho0, hb⟩
    refine ⟨_, rfl, ?_⟩
    have Q0q := Aside0.mk (Kd.R_lower ho0 (below_size (pH HB)))
    replace Q00 := uB Q00 hb
    replace Q02 := uB Q02 hb
    replace Q01 := uB Q01 hb
    replace HB := uH HB hb
    (try clear hb)
    (try clear hb2)
    (try clear hk)
    (try clear hi)
    (try clear ho0)
    refine hK.out _ _ ⟨bC Q00 0, bC Q00 1, bC Q00 2, bC Q00 3, bC Q00 4, bC Q00 5, bC Q00 6, bC Q00 7, bC Q00 8, bC Q00 9⟩ (fun hHeld => ?_)
    clear hK K
    refine norm_ (a' := ?_) ?_ ?_
    rotate_left
    ·show Act.put _ (some 24) _ = _
     simp only [Act.put, List.setIfInBounds_toArray, List.set_cons_zero, List.set_cons_succ, i64_w, i32_w]
     rfl
    refine one_ (i := 13) (N := some 31) #[true, true, true, true, true, true, true, true, true, true, true, true, true, true, false, true, false] rfl rfl (one_of HT_.out (by kernel_rfl)) (by decide) (fun K hK => ?_)
    refine goes_ Try.func66 (by kernel_rfl) rfl #[.slice A0_7 l0_7.length c0_7, .slice A0_9 l0_9.length c0_9] (by rfl) rfl rfl aM ?_
    with_reducible refine (pullback_pairs.calls k _ _ l0_7 _ _ l0_9 t107 _ ?side1 ?side2 ?side3 ?side4 A5.out).mono ?_
    (case side1 => exact cX (cB HR0_7.out HB.out))
    (case side2 => exact HC0_7.out)
    (case side3 => exact cX (cB HR0_9.out HB.out))
    (case side4 => exact HC0_9.out)
    rintro e w15 ⟨v108, rfl, ho0, hb⟩
    refine ⟨_, rfl, ?_⟩
    have Q0y := Aside0.mk (Kd.R_lower (Kd.R_new' ho0 (Kd.R_lt (pR Q0q))) (below_size (pH HB)))
    replace Q0q := eR Q0q (Kd.R_base ho0) hb
    replace Q00 := uB Q00 hb
    replace Q02 := uB Q02 hb
    replace Q01 := uB Q01 hb
    replace HB := uH HB hb
    (try clear hb)
    (try clear hb2)
    (try clear hk)
    (try clear hi)
    (try clear ho0)
    obtain ⟨Q1n, Q1o, Q16⟩ := Kd.R_slice Q0y.out
    (first | subst Q16 | (injection Q16 with f1_ f2_ f3_; have f4_ := f1_.symm; have f5_ := f3_.symm; clear f1_ f2_ f3_; subst f4_; subst f5_))
    obtain ⟨Q2k, Q2l, Q1p⟩ := Kd.R_slice Q0q.out
    (first | subst Q1p | (injection Q1p with f1_ f2_ f3_; have f4_ := f1_.symm; have f5_ := f3_.symm; clear f1_ f2_ f3_; subst f4_; subst f5_))
    refine hK.out _ _ ⟨bC Q00 0, bC Q00 1, bC Q00 2, bC Q00 3, bC Q00 4, bC Q00 5, bC Q00 6, bC Q00 7, bC Q00 8, bC Q00 9⟩ (fun hHeld => ?_)
    clear hK K
    refine norm_ (a' := ?_) ?_ ?_
    rotate_left
    ·show Act.put _ (some 31) _ = _
     simp only [Act.put, List.setIfInBounds_toArray, List.set_cons_zero, List.set_cons_succ, i64_w, i32_w]
     rfl
    refine pure_ (i := 14) (N := some 32) (v := ?_) (a' := ?_) #[true, true, true, true, true, true, true, true, true, true, true, true, true, true, true, true, false] rfl rfl (any_of HT_.out (by kernel_rfl)) (fun _ _ _ h => h) (Or.inl ⟨by rfl, ?_⟩) ?_ ?_
    rotate_left
    ·intro w'
     go_simp
     with_reducible rfl
    rotate_left
    ·simp only [Act.put, List.setIfInBounds_toArray, List.set_cons_zero, List.set_cons_succ, i64_w, i32_w]
     rfl
    exact norm_ (by simp only [putAll, Act.put, List.setIfInBounds_toArray, List.set_cons_zero, List.set_cons_succ]) (hCont (.slice Q2k t104.length Q2l, .slice Q1n t107.length Q1o, Q04) _ ⟨hHeld, (by (with_reducible repeat (first | apply rA | apply rN | apply rD)); exact Kd.R_mono Q0q.out (fun _ hk => hk.2)), (by (with_reducible repeat (first | apply rA | apply rN | apply rD)); exact Kd.R_mono Q0y.out (fun _ hk => hk.2)), (pB Q00), (pB Q02), (pB Q01), Q1g.out, Q17.out, Q08.out, Q0v.out, Q0p.out, Q0u.out, (pH HB)⟩)
  rintro ⟨v105, v108, Q04⟩ w18 ⟨hS_, h0_, h1_, h2_, h3_, h4_, h5_, h6_, h7_, h8_, h9_, h10_, h11_⟩
  have n0_ : Aside0 (Kd.R k79 79 w18 w.heap.size (fun k_ => some k_ ≠ (v108 : Value).ownBlock) v105 t104) := ⟨h0_⟩
  have n1_ : Aside0 (Kd.R k79 79 w18 w.heap.size (fun k_ => some k_ ≠ (v105 : Value).ownBlock) v108 t107) := ⟨h1_⟩
  have n2_ : Aside0 (w18.heap[Q03]? = some (.cells #[.slice A0_0 l0_0.length c0_0, .slice A0_1 l0_1.length c0_1, .slice A0_2 l0_2.length c0_2, .slice A0_3 l0_3.length c0_3, .slice A0_4 l0_4.length c0_4, .slice A0_5 l0_5.length c0_5, .slice A0_6 l0_6.length c0_6, .slice A0_7 l0_7.length c0_7, .slice A0_8 l0_8.length c0_8, .slice A0_9 l0_9.length c0_9] 29 (0, 0))) := ⟨h2_⟩
  have n3_ : Aside0 (w18.heap[Q0b]? = some (.cells #[.slice none 0 0, .slice none 0 0, .slice none 0 0, .slice none 0 0] 81 (0, 0))) := ⟨h3_⟩
  have n4_ : Aside0 (w18.heap[Q04]? = some (.cells #[.slice none 0 0, .slice none 0 0, .slice none 0 0, .slice none 0 0] 81 (0, 0))) := ⟨h4_⟩
  have n5_ : Aside0 (w.heap.size ≤ Q04) := ⟨h5_⟩
  have n6_ : Aside0 (w.heap.size ≤ Q04) := ⟨h6_⟩
  have n7_ : Aside0 (Q03 ≠ Q04) := ⟨h7_⟩
  have n8_ : Aside0 (Q04 ≠ Q03) := ⟨h8_⟩
  have n9_ : Aside0 (Q0b ≠ Q04) := ⟨h9_⟩
  have n10_ : Aside0 (Q04 ≠ Q0b) := ⟨h10_⟩
  have n11_ : Aside0 (Below w.heap.size w w18) := ⟨h11_⟩
  clear Q00
  clear Q02
  clear HB
  clear h0_ h1_ h2_ h3_ h4_ h5_ h6_ h7_ h8_ h9_ h10_ h11_
  have Q0q := n0_
  have Q0y := n1_
  have Q00 := n2_
  have Q02 := n3_
  have Q01 := n4_
  have Q1g := n5_
  have Q17 := n6_
  have Q08 := n7_
  have Q0v := n8_
  have Q0p := n9_
  have Q0u := n10_
  have HB := n11_
  clear n0_ n1_ n2_ n3_ n4_ n5_ n6_ n7_ n8_ n9_ n10_ n11_
  have hHeld : w18.cell? ⟨Q03, 0, none⟩ = some (.slice A0_0 l0_0.length c0_0) ∧ w18.cell? ⟨Q03, 1, none⟩ = some (.slice A0_1 l0_1.length c0_1) ∧ w18.cell? ⟨Q03, 2, none⟩ = some (.slice A0_2 l0_2.length c0_2) ∧ w18.cell? ⟨Q03, 3, none⟩ = some (.slice A0_3 l0_3.length c0_3) ∧ w18.cell? ⟨Q03, 4, none⟩ = some (.slice A0_4 l0_4.length c0_4) ∧ w18.cell? ⟨Q03, 5, none⟩ = some (.slice A0_5 l0_5.length c0_5) ∧ w18.cell? ⟨Q03, 6, none⟩ = some (.slice A0_6 l0_6.length c0_6) ∧ w18.cell? ⟨Q03, 7, none⟩ = some (.slice A0_7 l0_7.length c0_7) ∧ w18.cell? ⟨Q03, 8, none⟩ = some (.slice A0_8 l0_8.length c0_8) ∧ w18.cell? ⟨Q03, 9, none⟩ = some (.slice A0_9 l0_9.length c0_9) := hS_
  obtain ⟨Q0n, Q0a, Q37⟩ := Kd.R_slice Q0y.out
  (first | subst Q37 | (injection Q37 with f1_ f2_ f3_; have f4_ := f1_.symm; have f5_ := f3_.symm; clear f1_ f2_ f3_; subst f4_; subst f5_))
  obtain ⟨Q0d, Q09, Q38⟩ := Kd.R_slice Q0q.out
  (first | subst Q38 | (injection Q38 with f1_ f2_ f3_; have f4_ := f1_.symm; have f5_ := f3_.symm; clear f1_ f2_ f3_; subst f4_; subst f5_))
  refine norm_ (a' := ?_) ?_ ?_
  rotate_left
  ·simp only [putAll, Act.put, List.setIfInBounds_toArray, List.set_cons_zero, List.set_cons_succ]
   rfl
  refine one_ (i := 16) (N := none) #[true, true, true, true, true, true, true, true, true, true, true, true, true, true, true, true, true] rfl rfl (one_of HT_.out (by kernel_rfl)) (by decide) (fun K hK => ?_)
  have Q4j : w18.cell? ⟨Q04, 0, none⟩ = some (.slice none 0 0) := bC Q01 0
  have Q4k := blk_frozen Q01.out 0
  have Q4l := Q08.out
  have Q4m := Q0p.out
  have Q4n := Q0v.out
  have Q4o := Q0u.out
  have Q4p : w18.cell? ⟨Q04, 1, none⟩ = some (.slice none 0 0) := bC Q01 1
  have Q4q := blk_frozen Q01.out 1
  have Q4r := Q08.out
  have Q4s := Q0p.out
  have Q4t := Q0v.out
  have Q4u := Q0u.out
  have Q4v : w18.cell? ⟨Q04, 2, none⟩ = some (.slice none 0 0) := bC Q01 2
  have Q4w := blk_frozen Q01.out 2
  have Q4x := Q08.out
  have Q4y := Q0p.out
  have Q4z := Q0v.out
  have Q50 := Q0u.out
  have Q51 : w18.cell? ⟨Q04, 3, none⟩ = some (.slice none 0 0) := bC Q01 3
  have Q52 := blk_frozen Q01.out 3
  have Q53 := Q08.out
  have Q54 := Q0p.out
  have Q55 := Q0v.out
  have Q56 := Q0u.out
  refine skip_ (w1 := ?_) (by rfl) rfl ?_ ?_
  rotate_left
  ·go_simp
   rfl
  refine hK.out _ _ ⟨(cG Q08.out (cG Q08.out (cG Q08.out (cG Q08.out hHeld.1)))), (cG Q08.out (cG Q08.out (cG Q08.out (cG Q08.out hHeld.2.1)))), (cG Q08.out (cG Q08.out (cG Q08.out (cG Q08.out hHeld.2.2.1)))), (cG Q08.out (cG Q08.out (cG Q08.out (cG Q08.out hHeld.2.2.2.1)))), (cG Q08.out (cG Q08.out (cG Q08.out (cG Q08.out hHeld.2.2.2.2.1)))), (cG Q08.out (cG Q08.out (cG Q08.out (cG Q08.out hHeld.2.2.2.2.2.1)))), (cG Q08.out (cG Q08.out (cG Q08.out (cG Q08.out hHeld.2.2.2.2.2.2.1)))), (cG Q08.out (cG Q08.out (cG Q08.out (cG Q08.out hHeld.2.2.2.2.2.2.2.1)))), (cG Q08.out (cG Q08.out (cG Q08.out (cG Q08.out hHeld.2.2.2.2.2.2.2.2.1)))), (cG Q08.out (cG Q08.out (cG Q08.out (cG Q08.out hHeld.2.2.2.2.2.2.2.2.2))))⟩ (fun hHeld => ?_)
  clear hK K
  refine done_ (done_of HT_.out (by kernel_rfl)) ?_
  go_upto_region 5 with (fail)
  go_cut [42] (fun v42 wc => ∃ (kq : Nat) (x42_5 : Bool), v42 = .bool x42_5 ∧ Aside0 (pullback_of.j0 kq x42_5 l0_0 l0_1 l0_2 l0_3 l0_4 l0_5 l0_6 l0_7 l0_8 l0_9 t104 t107 = some (r1, r2, r3, r4, r5)) ∧ Aside0 (kq ≤ k) ∧ Aside0 (Kd.R k79 79 wc w.heap.size (fun k_ => some k_ ≠ ((.slice Q0n t107.length Q0a) : Value).ownBlock) (.slice Q0d t104.length Q09) t104) ∧ Aside0 (Kd.R k79 79 wc w.heap.size (fun k_ => some k_ ≠ ((.slice Q0d t104.length Q09) : Value).ownBlock) (.slice Q0n t107.length Q0a) t107) ∧ Aside0 (wc.heap[Q03]? = some (.cells #[(.slice A0_0 l0_0.length c0_0), (.slice A0_1 l0_1.length c0_1), (.slice A0_2 l0_2.length c0_2), (.slice A0_3 l0_3.length c0_3), (.slice A0_4 l0_4.length c0_4), (.slice A0_5 l0_5.length c0_5), (.slice A0_6 l0_6.length c0_6), (.slice A0_7 l0_7.length c0_7), (.slice A0_8 l0_8.length c0_8), (.slice A0_9 l0_9.length c0_9)] 29 (0, 0))) ∧ Aside0 (wc.heap[Q0b]? = some (.cells #[(.slice none 0 0), (.slice none 0 0), (.slice none 0 0), (.slice none 0 0)] 81 (0, 0))) ∧ Aside0 (wc.heap[Q04]? = some (.cells #[(.slice Q0d t104.length Q09), (.slice Q0n t107.length Q0a), (.slice none 0 0), (.slice none 0 0)] 81 (0, 0))) ∧ Aside0 (Below w.heap.size w wc))
  case first =>
   have H := HC6.out
   clear HC6
   by_cases c25 : (t104.length : Int) > 40
   ·rw [if_pos c25] at H
    have c25b0 : decide (40 < (t104.length : Int)) = true := decide_eq_true c25
    have c25b1 : decide (40 < t104.length) = true := decide_eq_true (by omega)
    clear c25
    (first | rw [c25b0] | (simp only [i64_w, i32_w]; rw [c25b0]) | skip)
    have H' := Aside0.mk H
    clear H
    have Q57 := Q0v.out
    have Q58 := Q08.out
    have Q59 := Q0u.out
    have Q5a := Q0p.out
    have Q2m : w18.cell? ⟨Q04, 0, none⟩ = some (.slice none 0 0) := bC Q01 0
    have Q2n : w18.cell? ⟨Q04, 1, none⟩ = some (.slice none 0 0) := bC Q01 1
    have Q2o : w18.cell? ⟨Q04, 2, none⟩ = some (.slice none 0 0) := bC Q01 2
    have Q2p : w18.cell? ⟨Q04, 3, none⟩ = some (.slice none 0 0) := bC Q01 3
    have Q2q := blk_frozen Q01.out 0
    have Q2r := blk_frozen Q01.out 1
    have Q2s := blk_frozen Q01.out 2
    have Q2t := blk_frozen Q01.out 3
    go_wp2
    go_meet
    case rel => exact ⟨_, (true), rS, H', ⟨by first | omega | exact Nat.le_refl _⟩, ⟨by (with_reducible repeat (first | apply rA | apply rN | apply rD)); exact Kd.R_mono (Kd.R_far (p := ⟨Q04, 3, none⟩) (Kd.R_far (p := ⟨Q04, 2, none⟩) (Kd.R_far (p := ⟨Q04, 1, none⟩) (Kd.R_far (p := ⟨Q04, 0, none⟩) (Kd.R_types Q0q.out Q01.out (by decide)) (fun _ hk => hk.2) (.slice Q0d t104.length Q09)) (fun _ hk => hk.2) (.slice Q0n t107.length Q0a)) (fun _ hk => hk.2) (.slice none 0 0)) (fun _ hk => hk.2) (.slice none 0 0)) (fun _ hk => hk.1)⟩, ⟨by (with_reducible repeat (first | apply rA | apply rN | apply rD)); exact Kd.R_mono (Kd.R_far (p := ⟨Q04, 3, none⟩) (Kd.R_far (p := ⟨Q04, 2, none⟩) (Kd.R_far (p := ⟨Q04, 1, none⟩) (Kd.R_far (p := ⟨Q04, 0, none⟩) (Kd.R_types Q0y.out Q01.out (by decide)) (fun _ hk => hk.2) (.slice Q0d t104.length Q09)) (fun _ hk => hk.2) (.slice Q0n t107.length Q0a)) (fun _ hk => hk.2) (.slice none 0 0)) (fun _ hk => hk.2) (.slice none 0 0)) (fun _ hk => hk.1)⟩, ⟨by (with_reducible repeat (first | refine bN ?_ _ | refine bD ?_ | refine bA ?_ _)); refine blk_far ?_ Q08.out _; (with_reducible repeat (first | refine bN ?_ _ | refine bD ?_ | refine bA ?_ _)); refine blk_far ?_ Q08.out _; (with_reducible repeat (first | refine bN ?_ _ | refine bD ?_ | refine bA ?_ _)); refine blk_far ?_ Q08.out _; (with_reducible repeat (first | refine bN ?_ _ | refine bD ?_ | refine bA ?_ _)); refine blk_far ?_ Q08.out _; (with_reducible repeat (first | refine bN ?_ _ | refine bD ?_ | refine bA ?_ _)); exact Q00.out⟩, ⟨by (with_reducible repeat (first | refine bN ?_ _ | refine bD ?_ | refine bA ?_ _)); refine blk_far ?_ Q0p.out _; (with_reducible repeat (first | refine bN ?_ _ | refine bD ?_ | refine bA ?_ _)); refine blk_far ?_ Q0p.out _; (with_reducible repeat (first | refine bN ?_ _ | refine bD ?_ | refine bA ?_ _)); refine blk_far ?_ Q0p.out _; (with_reducible repeat (first | refine bN ?_ _ | refine bD ?_ | refine bA ?_ _)); refine blk_far ?_ Q0p.out _; (with_reducible repeat (first | refine bN ?_ _ | refine bD ?_ | refine bA ?_ _)); exact Q02.out⟩, ⟨by (with_reducible repeat (first | refine bN ?_ _ | refine bD ?_ | refine bA ?_ _)); refine blk_put (cs := #[.slice Q0d t104.length Q09, .slice Q0n t107.length Q0a, .slice none 0 0, .slice none 0 0]) ?_ 3 _ rfl; (with_reducible repeat (first | refine bN ?_ _ | refine bD ?_ | refine bA ?_ _)); refine blk_put (cs := #[.slice Q0d t104.length Q09, .slice Q0n t107.length Q0a, .slice none 0 0, .slice none 0 0]) ?_ 2 _ rfl; (with_reducible repeat (first | refine bN ?_ _ | refine bD ?_ | refine bA ?_ _)); refine blk_put (cs := #[.slice Q0d t104.length Q09, .slice none 0 0, .slice none 0 0, .slice none 0 0]) ?_ 1 _ rfl; (with_reducible repeat (first | refine bN ?_ _ | refine bD ?_ | refine bA ?_ _)); refine blk_put (cs := #[.slice none 0 0, .slice none 0 0, .slice none 0 0, .slice none 0 0]) ?_ 0 _ rfl; (with_reducible repeat (first | refine bN ?_ _ | refine bD ?_ | refine bA ?_ _)); exact Q01.out⟩, ⟨pH HB⟩⟩
   ·rw [if_neg c25] at H
    have c25b0 : decide (40 < (t104.length : Int)) = false := decide_eq_false c25
    have c25b1 : decide (40 < t104.length) = false := decide_eq_false (by omega)
    clear c25
    (first | rw [c25b0] | (simp only [i64_w, i32_w]; rw [c25b0]) | skip)
    have H' := Aside0.mk H
    clear H
    have Q5b := Q0v.out
    have Q5c := Q08.out
    have Q5d := Q0u.out
    have Q5e := Q0p.out
    have Q2u : w18.cell? ⟨Q04, 0, none⟩ = some (.slice none 0 0) := bC Q01 0
    have Q2v : w18.cell? ⟨Q04, 1, none⟩ = some (.slice none 0 0) := bC Q01 1
    have Q2w : w18.cell? ⟨Q04, 2, none⟩ = some (.slice none 0 0) := bC Q01 2
    have Q2x : w18.cell? ⟨Q04, 3, none⟩ = some (.slice none 0 0) := bC Q01 3
    have Q2y := blk_frozen Q01.out 0
    have Q2z := blk_frozen Q01.out 1
    have Q30 := blk_frozen Q01.out 2
    have Q31 := blk_frozen Q01.out 3
    go_wp2
    go_meet
    case rel => exact ⟨_, (decide ((t107.length : Int) > 80)), rS, H', ⟨by first | omega | exact Nat.le_refl _⟩, ⟨by (with_reducible repeat (first | apply rA | apply rN | apply rD)); exact Kd.R_mono (Kd.R_far (p := ⟨Q04, 3, none⟩) (Kd.R_far (p := ⟨Q04, 2, none⟩) (Kd.R_far (p := ⟨Q04, 1, none⟩) (Kd.R_far (p := ⟨Q04, 0, none⟩) (Kd.R_types Q0q.out Q01.out (by decide)) (fun _ hk => hk.2) (.slice Q0d t104.length Q09)) (fun _ hk => hk.2) (.slice Q0n t107.length Q0a)) (fun _ hk => hk.2) (.slice none 0 0)) (fun _ hk => hk.2) (.slice none 0 0)) (fun _ hk => hk.1)⟩, ⟨by (with_reducible repeat (first | apply rA | apply rN | apply rD)); exact Kd.R_mono (Kd.R_far (p := ⟨Q04, 3, none⟩) (Kd.R_far (p := ⟨Q04, 2, none⟩) (Kd.R_far (p := ⟨Q04, 1, none⟩) (Kd.R_far (p := ⟨Q04, 0, none⟩) (Kd.R_types Q0y.out Q01.out (by decide)) (fun _ hk => hk.2) (.slice Q0d t104.length Q09)) (fun _ hk => hk.2) (.slice Q0n t107.length Q0a)) (fun _ hk => hk.2) (.slice none 0 0)) (fun _ hk => hk.2) (.slice none 0 0)) (fun _ hk => hk.1)⟩, ⟨by (with_reducible repeat (first | refine bN ?_ _ | refine bD ?_ | refine bA ?_ _)); refine blk_far ?_ Q08.out _; (with_reducible repeat (first | refine bN ?_ _ | refine bD ?_ | refine bA ?_ _)); refine blk_far ?_ Q08.out _; (with_reducible repeat (first | refine bN ?_ _ | refine bD ?_ | refine bA ?_ _)); refine blk_far ?_ Q08.out _; (with_reducible repeat (first | refine bN ?_ _ | refine bD ?_ | refine bA ?_ _)); refine blk_far ?_ Q08.out _; (with_reducible repeat (first | refine bN ?_ _ | refine bD ?_ | refine bA ?_ _)); exact Q00.out⟩, ⟨by (with_reducible repeat (first | refine bN ?_ _ | refine bD ?_ | refine bA ?_ _)); refine blk_far ?_ Q0p.out _; (with_reducible repeat (first | refine bN ?_ _ | refine bD ?_ | refine bA ?_ _)); refine blk_far ?_ Q0p.out _; (with_reducible repeat (first | refine bN ?_ _ | refine bD ?_ | refine bA ?_ _)); refine blk_far ?_ Q0p.out _; (with_reducible repeat (first | refine bN ?_ _ | refine bD ?_ | refine bA ?_ _)); refine blk_far ?_ Q0p.out _; (with_reducible repeat (first | refine bN ?_ _ | refine bD ?_ | refine bA ?_ _)); exact Q02.out⟩, ⟨by (with_reducible repeat (first | refine bN ?_ _ | refine bD ?_ | refine bA ?_ _)); refine blk_put (cs := #[.slice Q0d t104.length Q09, .slice Q0n t107.length Q0a, .slice none 0 0, .slice none 0 0]) ?_ 3 _ rfl; (with_reducible repeat (first | refine bN ?_ _ | refine bD ?_ | refine bA ?_ _)); refine blk_put (cs := #[.slice Q0d t104.length Q09, .slice Q0n t107.length Q0a, .slice none 0 0, .slice none 0 0]) ?_ 2 _ rfl; (with_reducible repeat (first | refine bN ?_ _ | refine bD ?_ | refine bA ?_ _)); refine blk_put (cs := #[.slice Q0d t104.length Q09, .slice none 0 0, .slice none 0 0, .slice none 0 0]) ?_ 1 _ rfl; (with_reducible repeat (first | refine bN ?_ _ | refine bD ?_ | refine bA ?_ _)); refine blk_put (cs := #[.slice none 0 0, .slice none 0 0, .slice none 0 0, .slice none 0 0]) ?_ 0 _ rfl; (with_reducible repeat (first | refine bN ?_ _ | refine bD ?_ | refine bA ?_ _)); exact Q01.out⟩, ⟨pH HB⟩⟩
  case rest =>
   clear HC6
   try clear c2; try clear p2; try clear c3; try clear c3b0; try clear c3b1; try clear c4; try clear c6; try clear c7; try clear c9; try clear c25; try clear c25b0; try clear c25b1; try clear c26; try clear c27; try clear c29; try clear c30; try clear Q20; try clear Q21; try clear Q22; try clear Q23; try clear Q24; try clear Q25; try clear Q26; try clear Q27; try clear Q28; try clear Q29; try clear Q2m; try clear Q2n; try clear Q2o; try clear Q2p; try clear Q2u; try clear Q2v; try clear Q2w; try clear Q2x; try clear Q2a; try clear Q2b; try clear Q2c; try clear Q2d; try clear Q2e; try clear Q2f; try clear Q2g; try clear Q2h; try clear Q2i; try clear Q2j; try clear Q2q; try clear Q2r; try clear Q2s; try clear Q2t; try clear Q2y; try clear Q2z; try clear Q30; try clear Q31
   obtain ⟨kq, x42_5, rfl, HA, HJ5, Q0e, Q0g, Q00, Q02, Q01, HB⟩ := hcut
   cases kq with
   | zero => exact absurd HA.out (by simp [pullback_of.j0])
   | succ kj5 =>
    have H := HA.out
    clear HA
    simp only [pullback_of.j0] at H
    by_cases c32 : x42_5 = true
    ·subst c32
     have H1 : (some (([] : List (S79)), ([] : List (S79)), ([] : List Int), ([] : List (S94)), 3)) = some (r1, r2, r3, r4, r5) := by rw [if_pos rfl] at H; exact H
     clear H
     have H := H1
     clear H1
     simp only [Option.some.injEq, Prod.mk.injEq] at H
     obtain ⟨rfl, rfl, rfl, rfl, rfl⟩ := H
     have Q5f := Q1m.out
     have Q5g := Q1l.out
     have Q5h := Q0p.out
     have Q5i := Q0u.out
     have Q39 : wc.cell? ⟨Q0b, 0, none⟩ = some (.slice none 0 0) := bC Q02 0
     have Q3a : wc.cell? ⟨Q0b, 1, none⟩ = some (.slice none 0 0) := bC Q02 1
     have Q3b : wc.cell? ⟨Q0b, 2, none⟩ = some (.slice none 0 0) := bC Q02 2
     have Q3c : wc.cell? ⟨Q0b, 3, none⟩ = some (.slice none 0 0) := bC Q02 3
     have Q3d := blk_frozen Q02.out 0
     have Q3e := blk_frozen Q02.out 1
     have Q3f := blk_frozen Q02.out 2
     have Q3g := blk_frozen Q02.out 3
     go_wp2
     refine bodyPost_ret (results_ct rfl _ _ Q0b 81 #[.slice none 0 0, .slice none 0 0, .slice none 0 0, .slice none 0 0] (0, 0) _ rfl (by (with_reducible repeat (first | refine bN ?_ _ | refine bD ?_ | refine bA ?_ _)); refine blk_put (cs := #[.slice none 0 0, .slice none 0 0, .slice none 0 0, .slice none 0 0]) ?_ 3 _ rfl; (with_reducible repeat (first | refine bN ?_ _ | refine bD ?_ | refine bA ?_ _)); refine blk_put (cs := #[.slice none 0 0, .slice none 0 0, .slice none 0 0, .slice none 0 0]) ?_ 2 _ rfl; (with_reducible repeat (first | refine bN ?_ _ | refine bD ?_ | refine bA ?_ _)); refine blk_put (cs := #[.slice none 0 0, .slice none 0 0, .slice none 0 0, .slice none 0 0]) ?_ 1 _ rfl; (with_reducible repeat (first | refine bN ?_ _ | refine bD ?_ | refine bA ?_ _)); refine blk_put (cs := #[.slice none 0 0, .slice none 0 0, .slice none 0 0, .slice none 0 0]) ?_ 0 _ rfl; (with_reducible repeat (first | refine bN ?_ _ | refine bD ?_ | refine bA ?_ _)); exact Q02.out) Try.underlying81 rfl (by kernel_rfl)) rfl ?_
     exact ⟨_, _, _, _, by first | rfl | (simp [errW_none, errW_some] <;> rfl) | (simp [*, errW_none, errW_some] <;> rfl), by first | exact Kd.R_nil _ _ _ _ _ | exact Kd.N_nil _ _ _ _ _ | exact Kd.V_nil _ _ _ _ _ | exact Kd.Q_nil _ _ _ _ _ | exact Kd.S_nil _ _ _ _ _, by first | exact Kd.R_nil _ _ _ _ _ | exact Kd.N_nil _ _ _ _ _ | exact Kd.V_nil _ _ _ _ _ | exact Kd.Q_nil _ _ _ _ _ | exact Kd.S_nil _ _ _ _ _, by first | exact Kd.R_nil _ _ _ _ _ | exact Kd.N_nil _ _ _ _ _ | exact Kd.V_nil _ _ _ _ _ | exact Kd.Q_nil _ _ _ _ _ | exact Kd.S_nil _ _ _ _ _, by first | exact Kd.R_nil _ _ _ _ _ | exact Kd.N_nil _ _ _ _ _ | exact Kd.V_nil _ _ _ _ _ | exact Kd.Q_nil _ _ _ _ _ | exact Kd.S_nil _ _ _ _ _, by repeat (first | (with_reducible first | exact HB.out | apply wA | apply wN | apply wD | refine below_set ?_ Q1u.out | refine below_set ?_ Q1v.out | refine below_set ?_ Q17.out) | exact HB.out)⟩
    ·replace c32 := Bool.eq_false_iff.mpr c32
     subst c32
     have H1 : (pullback_of.l0 kj5 t104 (t104.length : Int) 0 l0_0 l0_1 l0_2 l0_3 l0_4 l0_5 l0_6 l0_7 l0_8 l0_9 t104 t107 ([] : List Int)) = some (r1, r2, r3, r4, r5) := by rw [if_neg (show ¬ (false = true) by decide)] at H; exact H
     clear H
     have H := H1
     clear H1
     have H' := Aside0.mk H
     clear H
     have Q5j := Q0v.out
     have Q5k := Q08.out
     have Q5l := Q0u.out
     have Q5m := Q0p.out
     have Q3h : wc.cell? ⟨Q04, 0, none⟩ = some (.slice Q0d t104.length Q09) := bC Q01 0
     have Q3i : wc.cell? ⟨Q04, 1, none⟩ = some (.slice Q0n t107.length Q0a) := bC Q01 1
     have Q3j : wc.cell? ⟨Q04, 2, none⟩ = some (.slice none 0 0) := bC Q01 2
     have Q3k : wc.cell? ⟨Q04, 3, none⟩ = some (.slice none 0 0) := bC Q01 3
     have Q3l := blk_frozen Q01.out 0
     have Q3m := blk_frozen Q01.out 1
     have Q3n := blk_frozen Q01.out 2
     have Q3o := blk_frozen Q01.out 3
     go_wp2
     go_loopg [47] kj5 (fun kq v47 w' => ∃ (x47_2 : Int) (x111002_2 : List Int) (u111002 : Value), v47 = .int .i64 x47_2 ∧ Aside0 (pullback_of.l0 kq t104 (t104.length : Int) x47_2 l0_0 l0_1 l0_2 l0_3 l0_4 l0_5 l0_6 l0_7 l0_8 l0_9 t104 t107 x111002_2 = some (r1, r2, r3, r4, r5)) ∧ Aside0 (kq ≤ kj5) ∧ Aside0 (Kd.R k79 79 w' w.heap.size (fun k_ => some k_ ≠ ((.slice Q0n t107.length Q0a) : Value).ownBlock) (.slice Q0d t104.length Q09) t104) ∧ Aside0 (Kd.R k79 79 w' w.heap.size (fun k_ => some k_ ≠ ((.slice Q0n t107.length Q0a) : Value).ownBlock) (.slice Q0d t104.length Q09) t104) ∧ Aside0 (Kd.R k79 79 w' w.heap.size (fun k_ => some k_ ≠ ((.slice Q0d t104.length Q09) : Value).ownBlock ∧ some k_ ≠ ((.slice Q0d t104.length Q09) : Value).ownBlock) (.slice Q0n t107.length Q0a) t107) ∧ Aside0 (Kd.R (Kd.int .i64) 3 w' w.heap.size (fun _ => True) u111002 x111002_2) ∧ Aside0 (w'.heap[Q03]? = some (.cells #[(.slice A0_0 l0_0.length c0_0), (.slice A0_1 l0_1.length c0_1), (.slice A0_2 l0_2.length c0_2), (.slice A0_3 l0_3.length c0_3), (.slice A0_4 l0_4.length c0_4), (.slice A0_5 l0_5.length c0_5), (.slice A0_6 l0_6.length c0_6), (.slice A0_7 l0_7.length c0_7), (.slice A0_8 l0_8.length c0_8), (.slice A0_9 l0_9.length c0_9)] 29 (0, 0))) ∧ Aside0 (w'.heap[Q0b]? = some (.cells #[(.slice none 0 0), (.slice none 0 0), (.slice none 0 0), (.slice none 0 0)] 81 (0, 0))) ∧ Aside0 (w'.heap[Q04]? = some (.cells #[(.slice Q0d t104.length Q09), (.slice Q0n t107.length Q0a), u111002, (.slice none 0 0)] 81 (0, 0))) ∧ Aside0 (Below w.heap.size w w'))
     case atStart => exact ⟨(0), (([] : List Int)), (.slice none 0 0), rS, H', ⟨Nat.le_refl _⟩, ⟨pR Q0e⟩, ⟨pR Q0e⟩, ⟨by (with_reducible repeat (first | apply rA | apply rN | apply rD)); exact Kd.R_mono Q0g.out (fun _ hk => ⟨hk, hk⟩)⟩, ⟨by first | exact Kd.R_nil _ _ _ _ _ | exact Kd.N_nil _ _ _ _ _ | exact Kd.V_nil _ _ _ _ _ | exact Kd.Q_nil _ _ _ _ _ | exact Kd.S_nil _ _ _ _ _⟩, ⟨pB Q00⟩, ⟨pB Q02⟩, ⟨pB Q01⟩, ⟨pH HB⟩⟩
     case round =>
      clear H'
      try clear c2; try clear p2; try clear c3; try clear c3b0; try clear c3b1; try clear c4; try clear c6; try clear c7; try clear c9; try clear c25; try clear c25b0; try clear c25b1; try clear c26; try clear c27; try clear c29; try clear c30; try clear c32; try clear c33; try clear c34; try clear c36; try clear c37; try clear Q20; try clear Q21; try clear Q22; try clear Q23; try clear Q24; try clear Q25; try clear Q26; try clear Q27; try clear Q28; try clear Q29; try clear Q2m; try clear Q2n; try clear Q2o; try clear Q2p; try clear Q2u; try clear Q2v; try clear Q2w; try clear Q2x; try clear Q39; try clear Q3a; try clear Q3b; try clear Q3c; try clear Q3h; try clear Q3i; try clear Q3j; try clear Q3k; try clear Q2a; try clear Q2b; try clear Q2c; try clear Q2d; try clear Q2e; try clear Q2f; try clear Q2g; try clear Q2h; try clear Q2i; try clear Q2j; try clear Q2q; try clear Q2r; try clear Q2s; try clear Q2t; try clear Q2y; try clear Q2z; try clear Q30; try clear Q31; try clear Q3d; try clear Q3e; try clear Q3f; try clear Q3g; try clear Q3l; try clear Q3m; try clear Q3n; try clear Q3o; try clear p2
      obtain ⟨x47_2, x111002_2, u111002, rfl, HA, HK2, Q11, Q0e, Q0g, Q0f, Q00, Q02, Q01, HB⟩ := hrel
      cases gk with
      | zero => exact absurd HA.out (by simp [pullback_of.l0])
      | succ k2 =>
       have H := HA.out
       clear HA
       simp only [pullback_of.l0] at H
       by_cases c39 : x47_2 < (t104.length : Int)
       ·rw [if_pos c39] at H
        have c39b0 : decide (x47_2 < (t104.length : Int)) = true := decide_eq_true c39
        clear c39
        by_cases c40 : 0 ≤ x47_2
        ·rw [if_pos c40] at H
         have c40b0 : decide (0 ≤ x47_2) = true := decide_eq_true c40
         clear c40
         by_cases c41 : x47_2 < (t104.length : Int)
         ·rw [if_pos c41] at H
          have c41b0 : decide (x47_2 < (t104.length : Int)) = true := decide_eq_true c41
          clear c41
          by_cases c42 : 0 ≤ ((rd_T79 t104 x47_2).f0)
          ·rw [if_pos c42] at H
           have c42b0 : decide (0 ≤ ((rd_T79 t104 x47_2).f0)) = true := decide_eq_true c42
           clear c42
           by_cases c43 : ((rd_T79 t104 x47_2).f0) < (l0_0.length : Int)
           ·rw [if_pos c43] at H
            have c43b0 : decide (((rd_T79 t104 x47_2).f0) < (l0_0.length : Int)) = true := decide_eq_true c43
            clear c43
            by_cases c44 : x111002_2.length < 17592186044416
            ·rw [if_pos c44] at H
             have LMc44 := Aside0.mk c44
             clear c44
             obtain ⟨y114, hy114⟩ : ∃ y_ : List Int, y_ = (x111002_2 ++ [rd l0_0 ((rd_T79 t104 x47_2).f0)]) := ⟨_, rfl⟩
             replace H : (pullback_of.l0 k2 t104 (t104.length : Int) (wrap64 (x47_2 + 1)) l0_0 l0_1 l0_2 l0_3 l0_4 l0_5 l0_6 l0_7 l0_8 l0_9 t104 t107 y114) = some (r1, r2, r3, r4, r5) := by first | (rw [hy114]; with_reducible exact H) | (have H2_ := (Option.bind_some _ _).symm.trans H; rw [hy114]; with_reducible exact H2_) | (have H2_ := (Option.bind_some _ _).symm.trans H; with_reducible exact H2_) | with_reducible exact H | (rw [hy114]; exact H) | exact H
             have Ny114 := Aside0.mk hy114
             clear hy114
             have H' := Aside0.mk H
             clear H
             have p111 : 0 ≤ (x47_2 : Int) := oT
             have q111 : x47_2 < (t104.length : Int) := oT
             obtain ⟨ad111, e111, hx111_0, hx111_1⟩ := at_T79 (Kd.R_reads' Q11.out).2.2 x47_2 p111 q111
             cases e111
             replace p111 := eq_true p111
             replace q111 := eq_true q111
             try go_wp2_with (first | ((with_reducible refine gate_dst (N := 7) rfl ?_); (try (refine gate_guard (by rfl) ?_; dsimp only)); refine box_event ?hg (N := 7) ?hd (cs := #[.int .i64 0, .int .i64 0]) (t := 79) ?hr ?_; (case hd => rfl); (case hg => rfl); (case hr => first | (go_simp; done) | (go_simp; rfl)); intro Q0k hg w45 hbox hb; replace Q11 := gR Q11 Q0k hg hb; replace Q0e := gR Q0e Q0k hg hb; replace Q0g := gR Q0g Q0k hg hb; replace Q0f := uR Q0f hb; have Q0t := Aside0.mk (hbox); have Q5n := uS HB hg; have Q5o := uS HB hg; replace HB := uH HB hb; have Q32 := uL Q00 hg; have Q3z := uG Q00 hg; replace Q00 := uB Q00 hb; have Q33 := uL Q02 hg; have Q40 := uG Q02 hg; replace Q02 := uB Q02 hb; have Q1w := uL Q01 hg; have Q3p := uG Q01 hg; replace Q01 := uB Q01 hb; clear hb hbox hg; have Q5p := Q3z.out; have Q5q := Q32.out; have Q5r := Q40.out; have Q5s := Q33.out; have Q5t := Q3p.out; have Q5u := Q1w.out; have Q41 : w45.cell? ⟨Q0k, 0, none⟩ = some (.int .i64 0) := bC Q0t 0; have Q42 : w45.cell? ⟨Q0k, 1, none⟩ = some (.int .i64 0) := bC Q0t 1; have Q43 := blk_frozen Q0t.out 0; have Q44 := blk_frozen Q0t.out 1))
             have n0_ : Aside0 (Kd.R k79 79 ((w45.setCell ⟨Q0k, 0, none⟩ (.int .i64 ((rd_T79 t104 x47_2).f0))).setCell ⟨Q0k, 1, none⟩ (.int .i64 ((rd_T79 t104 x47_2).f1))) w.heap.size (fun k_ => some k_ ≠ (.slice Q0n t107.length Q0a : Value).ownBlock ∧ k_ ≠ Q0k) (.slice (some ad111) t104.length Q09) t104) := ⟨by (with_reducible repeat (first | apply rA | apply rN | apply rD)); exact Kd.R_mono (Kd.R_far (p := ⟨Q0k, 1, none⟩) (Kd.R_far (p := ⟨Q0k, 0, none⟩) (Kd.R_mono Q11.out (fun k_ hk => (⟨hk, hk.2⟩ : _ ∧ k_ ≠ Q0k))) (fun _ hk => hk.2) (.int .i64 ((rd_T79 t104 x47_2).f0))) (fun _ hk => hk.2) (.int .i64 ((rd_T79 t104 x47_2).f1))) (fun _ hk => ⟨hk.1.1, hk.1.2⟩)⟩
             have n1_ : Aside0 (Kd.R k79 79 ((w45.setCell ⟨Q0k, 0, none⟩ (.int .i64 ((rd_T79 t104 x47_2).f0))).setCell ⟨Q0k, 1, none⟩ (.int .i64 ((rd_T79 t104 x47_2).f1))) w.heap.size (fun k_ => some k_ ≠ (.slice Q0n t107.length Q0a : Value).ownBlock ∧ k_ ≠ Q0k) (.slice (some ad111) t104.length Q09) t104) := ⟨by (with_reducible repeat (first | apply rA | apply rN | apply rD)); exact Kd.R_mono (Kd.R_far (p := ⟨Q0k, 1, none⟩) (Kd.R_far (p := ⟨Q0k, 0, none⟩) (Kd.R_mono Q0e.out (fun k_ hk => (⟨hk, hk.2⟩ : _ ∧ k_ ≠ Q0k))) (fun _ hk => hk.2) (.int .i64 ((rd_T79 t104 x47_2).f0))) (fun _ hk => hk.2) (.int .i64 ((rd_T79 t104 x47_2).f1))) (fun _ hk => ⟨hk.1.1, hk.1.2⟩)⟩
             have n2_ : Aside0 (Kd.R k79 79 ((w45.setCell ⟨Q0k, 0, none⟩ (.int .i64 ((rd_T79 t104 x47_2).f0))).setCell ⟨Q0k, 1, none⟩ (.int .i64 ((rd_T79 t104 x47_2).f1))) w.heap.size (fun k_ => some k_ ≠ (.slice (some ad111) t104.length Q09 : Value).ownBlock ∧ some k_ ≠ (.slice (some ad111) t104.length Q09 : Value).ownBlock ∧ k_ ≠ Q0k) (.slice Q0n t107.length Q0a) t107) := ⟨by (with_reducible repeat (first | apply rA | apply rN | apply rD)); exact Kd.R_mono (Kd.R_far (p := ⟨Q0k, 1, none⟩) (Kd.R_far (p := ⟨Q0k, 0, none⟩) (Kd.R_mono Q0g.out (fun k_ hk => (⟨hk, hk.2⟩ : _ ∧ k_ ≠ Q0k))) (fun _ hk => hk.2) (.int .i64 ((rd_T79 t104 x47_2).f0))) (fun _ hk => hk.2) (.int .i64 ((rd_T79 t104 x47_2).f1))) (fun _ hk => ⟨hk.1.1.1, ⟨hk.1.1.2, hk.1.2⟩⟩)⟩
             have n3_ : Aside0 (Kd.R (Kd.int .i64) 3 ((w45.setCell ⟨Q0k, 0, none⟩ (.int .i64 ((rd_T79 t104 x47_2).f0))).setCell ⟨Q0k, 1, none⟩ (.int .i64 ((rd_T79 t104 x47_2).f1))) w.heap.size (fun _ => True) u111002 x111002_2) := ⟨by (with_reducible repeat (first | apply rA | apply rN | apply rD)); exact Kd.R_mono (Kd.R_far (p := ⟨Q0k, 1, none⟩) (Kd.R_far (p := ⟨Q0k, 0, none⟩) (Kd.R_types Q0f.out Q0t.out (by decide)) (fun _ hk => hk.2) (.int .i64 ((rd_T79 t104 x47_2).f0))) (fun _ hk => hk.2) (.int .i64 ((rd_T79 t104 x47_2).f1))) (fun _ hk => trivial)⟩
             have n4_ : Aside0 (((w45.setCell ⟨Q0k, 0, none⟩ (.int .i64 ((rd_T79 t104 x47_2).f0))).setCell ⟨Q0k, 1, none⟩ (.int .i64 ((rd_T79 t104 x47_2).f1))).heap[Q03]? = some (.cells #[.slice A0_0 l0_0.length c0_0, .slice A0_1 l0_1.length c0_1, .slice A0_2 l0_2.length c0_2, .slice A0_3 l0_3.length c0_3, .slice A0_4 l0_4.length c0_4, .slice A0_5 l0_5.length c0_5, .slice A0_6 l0_6.length c0_6, .slice A0_7 l0_7.length c0_7, .slice A0_8 l0_8.length c0_8, .slice A0_9 l0_9.length c0_9] 29 (0, 0))) := ⟨by (with_reducible repeat (first | refine bN ?_ _ | refine bD ?_ | refine bA ?_ _)); refine blk_far ?_ Q32.out _; (with_reducible repeat (first | refine bN ?_ _ | refine bD ?_ | refine bA ?_ _)); refine blk_far ?_ Q32.out _; (with_reducible repeat (first | refine bN ?_ _ | refine bD ?_ | refine bA ?_ _)); exact Q00.out⟩
             have n5_ : Aside0 (((w45.setCell ⟨Q0k, 0, none⟩ (.int .i64 ((rd_T79 t104 x47_2).f0))).setCell ⟨Q0k, 1, none⟩ (.int .i64 ((rd_T79 t104 x47_2).f1))).heap[Q0b]? = some (.cells #[.slice none 0 0, .slice none 0 0, .slice none 0 0, .slice none 0 0] 81 (0, 0))) := ⟨by (with_reducible repeat (first | refine bN ?_ _ | refine bD ?_ | refine bA ?_ _)); refine blk_far ?_ Q33.out _; (with_reducible repeat (first | refine bN ?_ _ | refine bD ?_ | refine bA ?_ _)); refine blk_far ?_ Q33.out _; (with_reducible repeat (first | refine bN ?_ _ | refine bD ?_ | refine bA ?_ _)); exact Q02.out⟩
             have n6_ : Aside0 (((w45.setCell ⟨Q0k, 0, none⟩ (.int .i64 ((rd_T79 t104 x47_2).f0))).setCell ⟨Q0k, 1, none⟩ (.int .i64 ((rd_T79 t104 x47_2).f1))).heap[Q04]? = some (.cells #[.slice (some ad111) t104.length Q09, .slice Q0n t107.length Q0a, u111002, .slice none 0 0] 81 (0, 0))) := ⟨by (with_reducible repeat (first | refine bN ?_ _ | refine bD ?_ | refine bA ?_ _)); refine blk_far ?_ Q1w.out _; (with_reducible repeat (first | refine bN ?_ _ | refine bD ?_ | refine bA ?_ _)); refine blk_far ?_ Q1w.out _; (with_reducible repeat (first | refine bN ?_ _ | refine bD ?_ | refine bA ?_ _)); exact Q01.out⟩
             have n7_ : Aside0 (((w45.setCell ⟨Q0k, 0, none⟩ (.int .i64 ((rd_T79 t104 x47_2).f0))).setCell ⟨Q0k, 1, none⟩ (.int .i64 ((rd_T79 t104 x47_2).f1))).heap[Q0k]? = some (.cells #[.int .i64 ((rd_T79 t104 x47_2).f0), .int .i64 ((rd_T79 t104 x47_2).f1)] 79 (0, 0))) := ⟨by (with_reducible repeat (first | refine bN ?_ _ | refine bD ?_ | refine bA ?_ _)); refine blk_put (cs := #[.int .i64 ((rd_T79 t104 x47_2).f0), .int .i64 0]) ?_ 1 _ rfl; (with_reducible repeat (first | refine bN ?_ _ | refine bD ?_ | refine bA ?_ _)); refine blk_put (cs := #[.int .i64 0, .int .i64 0]) ?_ 0 _ rfl; (with_reducible repeat (first | refine bN ?_ _ | refine bD ?_ | refine bA ?_ _)); exact Q0t.out⟩
             have n8_ : Aside0 (Below w.heap.size w ((w45.setCell ⟨Q0k, 0, none⟩ (.int .i64 ((rd_T79 t104 x47_2).f0))).setCell ⟨Q0k, 1, none⟩ (.int .i64 ((rd_T79 t104 x47_2).f1)))) := ⟨pH HB⟩
             (try clear Q11)
             (try clear Q0e)
             (try clear Q0g)
             (try clear Q0f)
             (try clear Q00)
             (try clear Q02)
             (try clear Q01)
             (try clear Q0t)
             (try clear HB)
             generalize ((w45.setCell ⟨Q0k, 0, none⟩ (.int .i64 ((rd_T79 t104 x47_2).f0))).setCell ⟨Q0k, 1, none⟩ (.int .i64 ((rd_T79 t104 x47_2).f1))) = w50 at n0_ n1_ n2_ n3_ n4_ n5_ n6_ n7_ n8_ ⊢
             have Q11 := n0_
             have Q0e := n1_
             have Q0g := n2_
             have Q0f := n3_
             have Q00 := n4_
             have Q02 := n5_
             have Q01 := n6_
             have Q0t := n7_
             have HB := n8_
             clear n0_ n1_ n2_ n3_ n4_ n5_ n6_ n7_ n8_
             replace Q11 := Aside0.mk (rD Q11.out)
             replace Q0e := Aside0.mk (rD Q0e.out)
             replace Q0g := Aside0.mk (rD Q0g.out)
             replace Q0f := Aside0.mk (rD Q0f.out)
             replace Q00 := Aside0.mk (bD Q00.out)
             replace Q02 := Aside0.mk (bD Q02.out)
             replace Q01 := Aside0.mk (bD Q01.out)
             replace Q0t := Aside0.mk (bD Q0t.out)
             replace HB := Aside0.mk (wD HB.out)
             have p113 : 0 ≤ (((rd_T79 t104 x47_2).f0) : Int) := oT
             have q113 : ((rd_T79 t104 x47_2).f0) < (l0_0.length : Int) := oT
             obtain ⟨ad113, e113, hx113_0⟩ := Kd.at_int HR0_0.out ((rd_T79 t104 x47_2).f0) p113 q113
             have hw113_0 := hx113_0
             cases e113
             replace hx113_0 := (HB.out.cell (World.block_lt_of_cell? w _ hx113_0)).trans hx113_0
             replace p113 := eq_true p113
             replace q113 := eq_true q113
             refine start_ (n := 15) (S := fun w' => w'.cell? ⟨Q04, 0, none⟩ = some (.slice (some ad111) t104.length Q09) ∧ w'.cell? ⟨Q04, 1, none⟩ = some (.slice Q0n t107.length Q0a) ∧ w'.cell? ⟨Q04, 2, none⟩ = some (u111002) ∧ w'.cell? ⟨Q04, 3, none⟩ = some (.slice none 0 0) ∧ w'.cell? ⟨Q03, 0, none⟩ = some (.slice (some ad113) l0_0.length c0_0) ∧ w'.cell? ⟨Q03, 1, none⟩ = some (.slice A0_1 l0_1.length c0_1) ∧ w'.cell? ⟨Q03, 2, none⟩ = some (.slice A0_2 l0_2.length c0_2) ∧ w'.cell? ⟨Q03, 3, none⟩ = some (.slice A0_3 l0_3.length c0_3) ∧ w'.cell? ⟨Q03, 4, none⟩ = some (.slice A0_4 l0_4.length c0_4) ∧ w'.cell? ⟨Q03, 5, none⟩ = some (.slice A0_5 l0_5.length c0_5) ∧ w'.cell? ⟨Q03, 6, none⟩ = some (.slice A0_6 l0_6.length c0_6) ∧ w'.cell? ⟨Q03, 7, none⟩ = some (.slice A0_7 l0_7.length c0_7) ∧ w'.cell? ⟨Q03, 8, none⟩ = some (.slice A0_8 l0_8.length c0_8) ∧ w'.cell? ⟨Q03, 9, none⟩ = some (.slice A0_9 l0_9.length c0_9) ∧ w'.cell? ⟨Q0k, 0, none⟩ = some (.int .i64 ((rd_T79 t104 x47_2).f0)) ∧ w'.cell? ⟨Q0k, 1, none⟩ = some (.int .i64 ((rd_T79 t104 x47_2).f1)) ∧ w'.cell? (ad113.add (((rd_T79 t104 x47_2).f0)).toNat) = some (.int .i64 (rd l0_0 ((rd_T79 t104 x47_2).f0)))) (ds := [14]) #[false, false, false, false, false, false, false, false, false, false, false, false, false, false, false] (by kernel_rfl) rfl rfl ⟨bC Q01 0, bC Q01 1, bC Q01 2, bC Q01 3, bC Q00 0, bC Q00 1, bC Q00 2, bC Q00 3, bC Q00 4, bC Q00 5, bC Q00 6, bC Q00 7, bC Q00 8, bC Q00 9, bC Q0t 0, bC Q0t 1, ((HB.out.cell (World.block_lt_of_cell? w _ hw113_0)).trans hw113_0)⟩ (fun hHeld => ?_); refine with_tabW pullback_of.tab10 pullback_of.bits10 (fun HT_ HW_ => ?_)
             generalize w50.drew = w51 at Q11 Q0e Q0g Q0f Q00 Q02 Q01 Q0t HB hx113_0 hHeld ⊢
             refine pure_ (i := 0) (N := some 51) (v := ?_) (a' := ?_) #[true, false, false, false, false, false, false, false, false, false, false, false, false, false, false] rfl rfl (any_of HT_.out (by kernel_rfl)) (fun _ _ _ h => h) (Or.inl ⟨by rfl, ?_⟩) ?_ ?_
             rotate_left
             ·intro w'
              go_simp
              with_reducible rfl
             rotate_left
             ·simp only [Act.put, List.setIfInBounds_toArray, List.set_cons_zero, List.set_cons_succ, i64_w, i32_w]
              rfl
             refine pure_ (i := 1) (N := some 52) (v := ?_) (a' := ?_) #[true, true, false, false, false, false, false, false, false, false, false, false, false, false, false] rfl rfl (any_of HT_.out (by kernel_rfl)) (fun _ _ _ h => h) (Or.inl ⟨by rfl, ?_⟩) ?_ ?_
             rotate_left
             ·intro w'
              go_simp
              with_reducible rfl
             rotate_left
             ·simp only [Act.put, List.setIfInBounds_toArray, List.set_cons_zero, List.set_cons_succ, i64_w, i32_w]
              rfl
             refine pure_ (i := 3) (N := some 54) (v := ?_) (a' := ?_) #[true, true, false, true, false, false, false, false, false, false, false, false, false, false, false] rfl rfl (any_of HT_.out (by kernel_rfl)) (fun _ _ _ h => h) (Or.inl ⟨by rfl, ?_⟩) ?_ ?_
             rotate_left
             ·intro w'
              go_simp
              with_reducible rfl
             rotate_left
             ·simp only [Act.put, List.setIfInBounds_toArray, List.set_cons_zero, List.set_cons_succ, i64_w, i32_w]
              rfl
             refine pure_ (i := 4) (N := some 55) (v := ?_) (a' := ?_) #[true, true, false, true, true, false, false, false, false, false, false, false, false, false, false] rfl rfl (any_of HT_.out (by kernel_rfl)) (fun _ _ _ h => h) (Or.inl ⟨by rfl, ?_⟩) ?_ ?_
             rotate_left
             ·intro w'
              go_simp
              with_reducible rfl
             rotate_left
             ·simp only [Act.put, List.setIfInBounds_toArray, List.set_cons_zero, List.set_cons_succ, i64_w, i32_w]
              rfl
             refine pure_ (i := 6) (N := some 57) (v := ?_) (a' := ?_) #[true, true, false, true, true, false, true, false, false, false, false, false, false, false, false] rfl rfl (any_of HT_.out (by kernel_rfl)) (fun _ _ _ h => h) (Or.inl ⟨by rfl, ?_⟩) ?_ ?_
             rotate_left
             ·intro w'
              go_simp
              with_reducible rfl
             rotate_left
             ·simp only [Act.put, List.setIfInBounds_toArray, List.set_cons_zero, List.set_cons_succ, i64_w, i32_w]
              rfl
             refine take_ (i := 2) (N := some 53) (v := ?_) (a' := ?_) #[true, true, true, true, true, false, true, false, false, false, false, false, false, false, false] rfl rfl (take_ofW HT_.out HW_.out (by kernel_rfl)) (fun _ _ _ h => h) (Or.inl ⟨by rfl, ?_⟩) hHeld ?_ ?_
             rotate_left
             ·rintro w' ⟨s0, s1, s2, s3, s4, s5, s6, s7, s8, s9, s10, s11, s12, s13, s14, s15, s16⟩
              go_simp
              with_reducible rfl
             rotate_left
             ·simp only [Act.put, List.setIfInBounds_toArray, List.set_cons_zero, List.set_cons_succ, i64_w, i32_w]
              rfl
             refine take_ (i := 5) (N := some 56) (v := ?_) (a' := ?_) #[true, true, true, true, true, true, true, false, false, false, false, false, false, false, false] rfl rfl (take_ofW HT_.out HW_.out (by kernel_rfl)) (fun _ _ _ h => h) (Or.inl ⟨by rfl, ?_⟩) hHeld ?_ ?_
             rotate_left
             ·rintro w' ⟨s0, s1, s2, s3, s4, s5, s6, s7, s8, s9, s10, s11, s12, s13, s14, s15, s16⟩
              go_simp
              with_reducible rfl
             rotate_left
             ·simp only [Act.put, List.setIfInBounds_toArray, List.set_cons_zero, List.set_cons_succ, i64_w, i32_w]
              rfl
             refine take_ (i := 7) (N := some 58) (v := ?_) (a' := ?_) #[true, true, true, true, true, true, true, true, false, false, false, false, false, false, false] rfl rfl (take_ofW HT_.out HW_.out (by kernel_rfl)) (fun _ _ _ h => h) (Or.inl ⟨by rfl, ?_⟩) hHeld ?_ ?_
             rotate_left
             ·rintro w' ⟨s0, s1, s2, s3, s4, s5, s6, s7, s8, s9, s10, s11, s12, s13, s14, s15, s16⟩
              go_simp
              with_reducible rfl
             rotate_left
             ·simp only [Act.put, List.setIfInBounds_toArray, List.set_cons_zero, List.set_cons_succ, i64_w, i32_w]
              rfl
             refine pure_ (i := 8) (N := some 59) (v := ?_) (a' := ?_) #[true, true, true, true, true, true, true, true, true, false, false, false, false, false, false] rfl rfl (any_of HT_.out (by kernel_rfl)) (fun _ _ _ h => h) (Or.inl ⟨by rfl, ?_⟩) ?_ ?_
             rotate_left
             ·intro w'
              go_simp
              with_reducible rfl
             rotate_left
             ·simp only [Act.put, List.setIfInBounds_toArray, List.set_cons_zero, List.set_cons_succ, i64_w, i32_w]
              rfl
             refine take_ (i := 9) (N := some 60) (v := ?_) (a' := ?_) #[true, true, true, true, true, true, true, true, true, true, false, false, false, false, false] rfl rfl (take_ofW HT_.out HW_.out (by kernel_rfl)) (fun _ _ _ h => h) (Or.inl ⟨by rfl, ?_⟩) hHeld ?_ ?_
             rotate_left
             ·rintro w' ⟨s0, s1, s2, s3, s4, s5, s6, s7, s8, s9, s10, s11, s12, s13, s14, s15, s16⟩
              go_simp
              with_reducible rfl
             rotate_left
             ·simp only [Act.put, List.setIfInBounds_toArray, List.set_cons_zero, List.set_cons_succ, i64_w, i32_w]
              rfl
             refine one_ (i := 10) (N := some 61) #[true, true, true, true, true, true, true, true, true, true, true, false, false, false, false] rfl rfl (one_of HT_.out (by kernel_rfl)) (by decide) (fun K hK => ?_)
             refine value_ (w1 := ?_) (v := ?_) (by rfl) rfl ?_ ?_
             rotate_left 2
             ·go_simp
              constructor
              ·rfl
              ·rfl
             refine hK.out _ _ ⟨(blk_cell (bA Q01.out _) 0).trans rfl, (blk_cell (bA Q01.out _) 1).trans rfl, (blk_cell (bA Q01.out _) 2).trans rfl, (blk_cell (bA Q01.out _) 3).trans rfl, (blk_cell (bA Q00.out _) 0).trans rfl, (blk_cell (bA Q00.out _) 1).trans rfl, (blk_cell (bA Q00.out _) 2).trans rfl, (blk_cell (bA Q00.out _) 3).trans rfl, (blk_cell (bA Q00.out _) 4).trans rfl, (blk_cell (bA Q00.out _) 5).trans rfl, (blk_cell (bA Q00.out _) 6).trans rfl, (blk_cell (bA Q00.out _) 7).trans rfl, (blk_cell (bA Q00.out _) 8).trans rfl, (blk_cell (bA Q00.out _) 9).trans rfl, (blk_cell (bA Q0t.out _) 0).trans rfl, (blk_cell (bA Q0t.out _) 1).trans rfl, (World.cell?_alloc_lt _ _ _ (World.block_lt_of_cell? _ _ (((HB.out.cell (World.block_lt_of_cell? w _ hw113_0)).trans hw113_0)))).trans (((HB.out.cell (World.block_lt_of_cell? w _ hw113_0)).trans hw113_0))⟩ (fun hHeld => ?_)
             clear hK K
             refine norm_ (a' := ?_) ?_ ?_
             rotate_left
             ·show Act.put _ (some 61) _ = _
              simp only [Act.put, List.setIfInBounds_toArray, List.set_cons_zero, List.set_cons_succ, i64_w, i32_w]
              rfl
             refine one_ (i := 11) (N := some 62) #[true, true, true, true, true, true, true, true, true, true, true, true, false, false, false] rfl rfl (one_of HT_.out (by kernel_rfl)) (by decide) (fun K hK => ?_)
             refine Kd.R_append_step (Kd.int .i64) (w0 := w) w.heap.size (by rfl) (.tmp 53) (.tmp 61) 22 3 (.int .i64 0) 8 rfl Try.underlying22 info3 rfl (by decide) (by omega) u111002 x111002_2 (rd l0_0 ((rd_T79 t104 x47_2).f0)) [.int .i64 (rd l0_0 ((rd_T79 t104 x47_2).f0))] (fun _ => True) (fun _ => False) rfl rfl ?aP (fun _ hk => hk.elim) ?aF ?aO ?aB ?aS ?aL ?_
             (case aP => exact rfl)
             (case aB => exact (pH HB))
             (case aF => exact (fun _ _ => trivial))
             (case aO => exact (pR Q0f))
             (case aS => exact (below_size (pH HB)))
             (case aL => have := LMc44.out; omega)
             intro v115 w52 ho hb hg hat
             rw [← Ny114.out] at ho
             replace Q11 := Aside0.mk (Kd.R_over' (pR Q11) (Kd.R_typed (pR Q0f)) (by decide) hg)
             replace Q0e := Aside0.mk (Kd.R_over' (pR Q0e) (Kd.R_typed (pR Q0f)) (by decide) hg)
             replace Q0g := Aside0.mk (Kd.R_over' (pR Q0g) (Kd.R_typed (pR Q0f)) (by decide) hg)
             replace Q00 := Aside0.mk (bG (g := Q03) (o := .cells #[.slice (some ad113) l0_0.length c0_0, .slice A0_1 l0_1.length c0_1, .slice A0_2 l0_2.length c0_2, .slice A0_3 l0_3.length c0_3, .slice A0_4 l0_4.length c0_4, .slice A0_5 l0_5.length c0_5, .slice A0_6 l0_6.length c0_6, .slice A0_7 l0_7.length c0_7, .slice A0_8 l0_8.length c0_8, .slice A0_9 l0_9.length c0_9] 29 (0, 0)) (pB Q00) hg (Kd.R_ne Q0f.out Q00.out (by decide)))
             replace Q02 := Aside0.mk (bG (g := Q0b) (o := .cells #[.slice none 0 0, .slice none 0 0, .slice none 0 0, .slice none 0 0] 81 (0, 0)) (pB Q02) hg (Kd.R_ne Q0f.out Q02.out (by decide)))
             replace Q01 := Aside0.mk (bG (g := Q04) (o := .cells #[.slice (some ad111) t104.length Q09, .slice Q0n t107.length Q0a, u111002, .slice none 0 0] 81 (0, 0)) (pB Q01) hg (Kd.R_ne Q0f.out Q01.out (by decide)))
             replace Q0t := Aside0.mk (bG (g := Q0k) (o := .cells #[.int .i64 ((rd_T79 t104 x47_2).f0), .int .i64 ((rd_T79 t104 x47_2).f1)] 79 (0, 0)) (pB Q0t) hg (Kd.R_ne Q0f.out Q0t.out (by decide)))
             replace HB := Aside0.mk (hb)
             have Q3q := Aside0.mk (ho)
             clear Q0f
             clear ho hb hg hat
             obtain ⟨Q1q, Q1r, Q3r⟩ := Kd.R_slice Q3q.out
             (first | subst Q3r | (injection Q3r with f1_ f2_ f3_; have f4_ := f1_.symm; have f5_ := f3_.symm; clear f1_ f2_ f3_; subst f4_; subst f5_))
             refine hK.out _ _ ⟨bC Q01 0, bC Q01 1, bC Q01 2, bC Q01 3, bC Q00 0, bC Q00 1, bC Q00 2, bC Q00 3, bC Q00 4, bC Q00 5, bC Q00 6, bC Q00 7, bC Q00 8, bC Q00 9, bC Q0t 0, bC Q0t 1, ((HB.out.cell (World.block_lt_of_cell? w _ hw113_0)).trans hw113_0)⟩ (fun hHeld => ?_)
             clear hK K
             refine norm_ (a' := ?_) ?_ ?_
             rotate_left
             ·show Act.put _ (some 62) _ = _
              simp only [Act.put, List.setIfInBounds_toArray, List.set_cons_zero, List.set_cons_succ, i64_w, i32_w]
              rfl
             refine pure_ (i := 12) (N := some 63) (v := ?_) (a' := ?_) #[true, true, true, true, true, true, true, true, true, true, true, true, true, false, false] rfl rfl (any_of HT_.out (by kernel_rfl)) (fun _ _ _ h => h) (Or.inl ⟨by rfl, ?_⟩) ?_ ?_
             rotate_left
             ·intro w'
              go_simp
              with_reducible rfl
             rotate_left
             ·simp only [Act.put, List.setIfInBounds_toArray, List.set_cons_zero, List.set_cons_succ, i64_w, i32_w]
              rfl
             refine pure_ (i := 13) (N := some 64) (v := ?_) (a' := ?_) #[true, true, true, true, true, true, true, true, true, true, true, true, true, true, false] rfl rfl (any_of HT_.out (by kernel_rfl)) (fun _ _ _ h => h) (Or.inl ⟨by rfl, ?_⟩) ?_ ?_
             rotate_left
             ·intro w'
              go_simp
              with_reducible rfl
             rotate_left
             ·simp only [Act.put, List.setIfInBounds_toArray, List.set_cons_zero, List.set_cons_succ, i64_w, i32_w]
              rfl
             refine last_ (i := 14) (N := none) #[true, true, true, true, true, true, true, true, true, true, true, true, true, true, true] rfl rfl (one_of HT_.out (by kernel_rfl)) (by decide) (fun K hK => ?_)
             have Q5v : w52.cell? ⟨Q04, 2, none⟩ = some (u111002) := bC Q01 2
             have Q5w := blk_frozen Q01.out 2
             have Q5x := Q08.out
             have Q5y := Q0p.out
             have Q5z := Q3p.out
             have Q60 := Q0v.out
             have Q61 := Q0u.out
             have Q62 := Q1w.out
             refine skip_ (w1 := ?_) (by rfl) rfl ?_ ?_
             rotate_left
             ·go_simp
              rfl
             refine hK.out _ _ ?_
             clear hK K
             refine done_ (done_of HT_.out (by kernel_rfl)) ?_
             try go_wp2
             go_roundg k2
             case measure => have := HJ5.out; have := HK2.out; omega
             case rel => exact ⟨(wrap64 (x47_2 + 1)), (y114), (.slice Q1q y114.length Q1r), rS, H', ⟨by have := HJ5.out; have := HK2.out; omega⟩, ⟨by (with_reducible repeat (first | apply rA | apply rN | apply rD)); exact Kd.R_mono (Kd.R_far (p := ⟨Q04, 2, none⟩) (Kd.R_types Q11.out Q01.out (by decide)) (fun _ hk => hk.2) (.slice Q1q y114.length Q1r)) (fun _ hk => hk.1.1)⟩, ⟨by (with_reducible repeat (first | apply rA | apply rN | apply rD)); exact Kd.R_mono (Kd.R_far (p := ⟨Q04, 2, none⟩) (Kd.R_types Q0e.out Q01.out (by decide)) (fun _ hk => hk.2) (.slice Q1q y114.length Q1r)) (fun _ hk => hk.1.1)⟩, ⟨by (with_reducible repeat (first | apply rA | apply rN | apply rD)); exact Kd.R_mono (Kd.R_far (p := ⟨Q04, 2, none⟩) (Kd.R_types Q0g.out Q01.out (by decide)) (fun _ hk => hk.2) (.slice Q1q y114.length Q1r)) (fun _ hk => ⟨hk.1.1, hk.1.2.1⟩)⟩, ⟨by (with_reducible repeat (first | apply rA | apply rN | apply rD)); exact Kd.R_mono (Kd.R_far (p := ⟨Q04, 2, none⟩) (Kd.R_types Q3q.out Q01.out (by decide)) (fun _ hk => hk.2) (.slice Q1q y114.length Q1r)) (fun _ hk => trivial)⟩, ⟨by (with_reducible repeat (first | refine bN ?_ _ | refine bD ?_ | refine bA ?_ _)); refine blk_far ?_ Q08.out _; (with_reducible repeat (first | refine bN ?_ _ | refine bD ?_ | refine bA ?_ _)); exact Q00.out⟩, ⟨by (with_reducible repeat (first | refine bN ?_ _ | refine bD ?_ | refine bA ?_ _)); refine blk_far ?_ Q0p.out _; (with_reducible repeat (first | refine bN ?_ _ | refine bD ?_ | refine bA ?_ _)); exact Q02.out⟩, ⟨by (with_reducible repeat (first | refine bN ?_ _ | refine bD ?_ | refine bA ?_ _)); refine blk_put (cs := #[.slice (some ad111) t104.length Q09, .slice Q0n t107.length Q0a, u111002, .slice none 0 0]) ?_ 2 _ rfl; (with_reducible repeat (first | refine bN ?_ _ | refine bD ?_ | refine bA ?_ _)); exact Q01.out⟩, ⟨pH HB⟩⟩
            ·rw [if_neg c44] at H
             exact absurd H (by simp)
           ·rw [if_neg c43] at H
            exact absurd H (by simp)
          ·rw [if_neg c42] at H
           exact absurd H (by simp)
         ·rw [if_neg c41] at H
          exact absurd H (by simp)
        ·rw [if_neg c40] at H
         exact absurd H (by simp)
       ·rw [if_neg c39] at H
        have c39b0 : decide (x47_2 < (t104.length : Int)) = false := decide_eq_false c39
        clear c39
        have H' := Aside0.mk H
        clear H
        have Q63 := Q0v.out
        have Q64 := Q08.out
        have Q65 := Q0u.out
        have Q66 := Q0p.out
        have Q45 : wr.cell? ⟨Q04, 0, none⟩ = some (.slice Q0d t104.length Q09) := bC Q01 0
        have Q46 : wr.cell? ⟨Q04, 1, none⟩ = some (.slice Q0n t107.length Q0a) := bC Q01 1
        have Q47 : wr.cell? ⟨Q04, 2, none⟩ = some (u111002) := bC Q01 2
        have Q48 : wr.cell? ⟨Q04, 3, none⟩ = some (.slice none 0 0) := bC Q01 3
        have Q49 := blk_frozen Q01.out 0
        have Q4a := blk_frozen Q01.out 1
        have Q4b := blk_frozen Q01.out 2
        have Q4c := blk_frozen Q01.out 3
        go_wp2
        go_loopg [69] k2 (fun kq v69 w' => ∃ (x69_3 : Int) (x111003_3 : List (S94)) (u111003 : Value), v69 = .int .i64 x69_3 ∧ Aside0 (pullback_of.l1 kq t107 (t107.length : Int) x69_3 l0_0 l0_1 l0_2 l0_3 l0_4 l0_5 l0_6 l0_7 l0_8 l0_9 t104 t107 x111002_2 x111003_3 = some (r1, r2, r3, r4, r5)) ∧ Aside0 (kq ≤ k2) ∧ Aside0 (Kd.R k79 79 w' w.heap.size (fun k_ => some k_ ≠ ((.slice Q0d t104.length Q09) : Value).ownBlock) (.slice Q0n t107.length Q0a) t107) ∧ Aside0 (Kd.R k79 79 w' w.heap.size (fun k_ => some k_ ≠ ((.slice Q0n t107.length Q0a) : Value).ownBlock ∧ some k_ ≠ ((.slice Q0n t107.length Q0a) : Value).ownBlock) (.slice Q0d t104.length Q09) t104) ∧ Aside0 (Kd.R k79 79 w' w.heap.size (fun k_ => some k_ ≠ ((.slice Q0d t104.length Q09) : Value).ownBlock) (.slice Q0n t107.length Q0a) t107) ∧ Aside0 (Kd.R (Kd.int .i64) 3 w' w.heap.size (fun _ => True) u111002 x111002_2) ∧ Aside0 (Kd.R k94 94 w' w.heap.size (fun _ => True) u111003 x111003_3) ∧ Aside0 (w'.heap[Q03]? = some (.cells #[(.slice A0_0 l0_0.length c0_0), (.slice A0_1 l0_1.length c0_1), (.slice A0_2 l0_2.length c0_2), (.slice A0_3 l0_3.length c0_3), (.slice A0_4 l0_4.length c0_4), (.slice A0_5 l0_5.length c0_5), (.slice A0_6 l0_6.length c0_6), (.slice A0_7 l0_7.length c0_7), (.slice A0_8 l0_8.length c0_8), (.slice A0_9 l0_9.length c0_9)] 29 (0, 0))) ∧ Aside0 (w'.heap[Q0b]? = some (.cells #[(.slice none 0 0), (.slice none 0 0), (.slice none 0 0), (.slice none 0 0)] 81 (0, 0))) ∧ Aside0 (w'.heap[Q04]? = some (.cells #[(.slice Q0d t104.length Q09), (.slice Q0n t107.length Q0a), u111002, u111003] 81 (0, 0))) ∧ Aside0 (Below w.heap.size w w'))
        case atStart => exact ⟨(0), (([] : List (S94))), (.slice none 0 0), rS, H', ⟨Nat.le_refl _⟩, ⟨by (with_reducible repeat (first | apply rA | apply rN | apply rD)); exact Kd.R_mono Q0g.out (fun _ hk => hk.2)⟩, ⟨by (with_reducible repeat (first | apply rA | apply rN | apply rD)); exact Kd.R_mono Q0e.out (fun _ hk => ⟨hk, hk⟩)⟩, ⟨by (with_reducible repeat (first | apply rA | apply rN | apply rD)); exact Kd.R_mono Q0g.out (fun _ hk => hk.2)⟩, ⟨pR Q0f⟩, ⟨by first | exact Kd.R_nil _ _ _ _ _ | exact Kd.N_nil _ _ _ _ _ | exact Kd.V_nil _ _ _ _ _ | exact Kd.Q_nil _ _ _ _ _ | exact Kd.S_nil _ _ _ _ _⟩, ⟨pB Q00⟩, ⟨pB Q02⟩, ⟨pB Q01⟩, ⟨pH HB⟩⟩
        case round =>
         clear H'
         try clear c2; try clear p2; try clear c3; try clear c3b0; try clear c3b1; try clear c4; try clear p4; try clear q4; try clear hx4; try clear c5; try clear c6; try clear p6; try clear c7; try clear c9; try clear c25; try clear c25b0; try clear c25b1; try clear c26; try clear c27; try clear c29; try clear c30; try clear c32; try clear c33; try clear c34; try clear c36; try clear c37; try clear c39; try clear c39b0; try clear c40; try clear c40b0; try clear c41; try clear c41b0; try clear p41; try clear q41; try clear hx41; try clear c42; try clear c42b0; try clear c43; try clear c43b0; try clear c44; try clear c46; try clear c47; try clear c48; try clear c55; try clear c56; try clear Q20; try clear Q21; try clear Q22; try clear Q23; try clear Q24; try clear Q25; try clear Q26; try clear Q27; try clear Q28; try clear Q29; try clear Q2m; try clear Q2n; try clear Q2o; try clear Q2p; try clear Q2u; try clear Q2v; try clear Q2w; try clear Q2x; try clear Q39; try clear Q3a; try clear Q3b; try clear Q3c; try clear Q3h; try clear Q3i; try clear Q3j; try clear Q3k; try clear Q41; try clear Q42; try clear Q45; try clear Q46; try clear Q47; try clear Q48; try clear Q2a; try clear Q2b; try clear Q2c; try clear Q2d; try clear Q2e; try clear Q2f; try clear Q2g; try clear Q2h; try clear Q2i; try clear Q2j; try clear Q2q; try clear Q2r; try clear Q2s; try clear Q2t; try clear Q2y; try clear Q2z; try clear Q30; try clear Q31; try clear Q3d; try clear Q3e; try clear Q3f; try clear Q3g; try clear Q3l; try clear Q3m; try clear Q3n; try clear Q3o; try clear Q43; try clear Q44; try clear Q49; try clear Q4a; try clear Q4b; try clear Q4c; try clear hx111_0; try clear hx111_1; try clear hx113_0; try clear p2; try clear p111; try clear p113; try clear q111; try clear q113
         obtain ⟨x69_3, x111003_3, u111003, rfl, HA, HK3, Q0o, Q0e, Q0g, Q0f, Q0j, Q00, Q02, Q01, HB⟩ := hrel
         cases gk with
         | zero => exact absurd HA.out (by simp [pullback_of.l1])
         | succ k3 =>
          have H := HA.out
          clear HA
          simp only [pullback_of.l1] at H
          by_cases c58 : x69_3 < (t107.length : Int)
          ·rw [if_pos c58] at H
           have c58b0 : decide (x69_3 < (t107.length : Int)) = true := decide_eq_true c58
           clear c58
           by_cases c59 : 0 ≤ x69_3
           ·rw [if_pos c59] at H
            have c59b0 : decide (0 ≤ x69_3) = true := decide_eq_true c59
            clear c59
            by_cases c60 : x69_3 < (t107.length : Int)
            ·rw [if_pos c60] at H
             have c60b0 : decide (x69_3 < (t107.length : Int)) = true := decide_eq_true c60
             clear c60
             by_cases c61 : 0 ≤ ((rd_T79 t107 x69_3).f0)
             ·rw [if_pos c61] at H
              have c61b0 : decide (0 ≤ ((rd_T79 t107 x69_3).f0)) = true := decide_eq_true c61
              clear c61
              by_cases c62 : ((rd_T79 t107 x69_3).f0) < (l0_1.length : Int)
              ·rw [if_pos c62] at H
               have c62b0 : decide (((rd_T79 t107 x69_3).f0) < (l0_1.length : Int)) = true := decide_eq_true c62
               clear c62
               by_cases c63 : 0 ≤ ((rd_T79 t107 x69_3).f1)
               ·rw [if_pos c63] at H
                have c63b0 : decide (0 ≤ ((rd_T79 t107 x69_3).f1)) = true := decide_eq_true c63
                clear c63
                by_cases c64 : ((rd_T79 t107 x69_3).f1) < (l0_3.length : Int)
                ·rw [if_pos c64] at H
                 have c64b0 : decide (((rd_T79 t107 x69_3).f1) < (l0_3.length : Int)) = true := decide_eq_true c64
                 clear c64
                 replace H := Option.bind_eq_some_iff.mp H
                 obtain ⟨t123, A650, H⟩ := H
                 replace H : ((api_Pair_73.f k3 t104 ((rd_T94 l0_1 ((rd_T79 t107 x69_3).f0)).f2) ((rd_T94 l0_3 ((rd_T79 t107 x69_3).f1)).f2)).bind fun t124 => (if x111003_3.length < 5864062014805 then (pullback_of.l1 k3 t107 (t107.length : Int) (wrap64 (x69_3 + 1)) l0_0 l0_1 l0_2 l0_3 l0_4 l0_5 l0_6 l0_7 l0_8 l0_9 t104 t107 x111002_2 (x111003_3 ++ [(⟨(rd_T94 l0_1 ((rd_T79 t107 x69_3).f0)).f0, t123, t124⟩ : S94)])) else (none))) = some (r1, r2, r3, r4, r5) := H
                 have A65 := Aside0.mk A650
                 clear A650
                 replace H := Option.bind_eq_some_iff.mp H
                 obtain ⟨t124, A660, H⟩ := H
                 replace H : (if x111003_3.length < 5864062014805 then (pullback_of.l1 k3 t107 (t107.length : Int) (wrap64 (x69_3 + 1)) l0_0 l0_1 l0_2 l0_3 l0_4 l0_5 l0_6 l0_7 l0_8 l0_9 t104 t107 x111002_2 (x111003_3 ++ [(⟨(rd_T94 l0_1 ((rd_T79 t107 x69_3).f0)).f0, t123, t124⟩ : S94)])) else (none)) = some (r1, r2, r3, r4, r5) := H
                 have A66 := Aside0.mk A660
                 clear A660
                 by_cases c67 : x111003_3.length < 5864062014805
                 ·rw [if_pos c67] at H
                  have LMc67 := Aside0.mk c67
                  clear c67
                  obtain ⟨y125, hy125⟩ : ∃ y_ : List (S94), y_ = (x111003_3 ++ [(⟨(rd_T94 l0_1 ((rd_T79 t107 x69_3).f0)).f0, t123, t124⟩ : S94)]) := ⟨_, rfl⟩
                  replace H : (pullback_of.l1 k3 t107 (t107.length : Int) (wrap64 (x69_3 + 1)) l0_0 l0_1 l0_2 l0_3 l0_4 l0_5 l0_6 l0_7 l0_8 l0_9 t104 t107 x111002_2 y125) = some (r1, r2, r3, r4, r5) := by first | (rw [hy125]; with_reducible exact H) | (have H2_ := (Option.bind_some _ _).symm.trans H; rw [hy125]; with_reducible exact H2_) | (have H2_ := (Option.bind_some _ _).symm.trans H; with_reducible exact H2_) | with_reducible exact H | (rw [hy125]; exact H) | exact H
                  have Ny125 := Aside0.mk hy125
                  clear hy125
                  have H' := Aside0.mk H
                  clear H
                  have p117 : 0 ≤ (x69_3 : Int) := oT
                  have q117 : x69_3 < (t107.length : Int) := oT
                  obtain ⟨ad117, e117, hx117_0, hx117_1⟩ := at_T79 (Kd.R_reads' Q0o.out).2.2 x69_3 p117 q117
                  cases e117
                  replace p117 := eq_true p117
                  replace q117 := eq_true q117
                  try go_wp2_with (first | ((with_reducible refine gate_dst (N := 9) rfl ?_); (try (refine gate_guard (by rfl) ?_; dsimp only)); refine box_event ?hg (N := 9) ?hd (cs := #[.int .i64 0, .int .i64 0]) (t := 79) ?hr ?_; (case hd => rfl); (case hg => rfl); (case hr => first | (go_simp; done) | (go_simp; rfl)); intro Q07 hg w68 hbox hb; replace Q0o := gR Q0o Q07 hg hb; replace Q0e := gR Q0e Q07 hg hb; replace Q0g := gR Q0g Q07 hg hb; replace Q0f := uR Q0f hb; replace Q0j := uR Q0j hb; have Q0c := Aside0.mk (hbox); have Q67 := uS HB hg; have Q68 := uS HB hg; replace HB := uH HB hb; have Q34 := uL Q00 hg; have Q4d := uG Q00 hg; replace Q00 := uB Q00 hb; have Q35 := uL Q02 hg; have Q4e := uG Q02 hg; replace Q02 := uB Q02 hb; have Q1x := uL Q01 hg; have Q3s := uG Q01 hg; replace Q01 := uB Q01 hb; clear hb hbox hg; have Q69 := Q4d.out; have Q6a := Q34.out; have Q6b := Q4e.out; have Q6c := Q35.out; have Q6d := Q3s.out; have Q6e := Q1x.out; have Q6f : w68.cell? ⟨Q07, 0, none⟩ = some (.int .i64 0) := bC Q0c 0; have Q6g : w68.cell? ⟨Q07, 1, none⟩ = some (.int .i64 0) := bC Q0c 1; have Q6h := blk_frozen Q0c.out 0; have Q6i := blk_frozen Q0c.out 1))
                  have n0_ : Aside0 (Kd.R k79 79 ((w68.setCell ⟨Q07, 0, none⟩ (.int .i64 ((rd_T79 t107 x69_3).f0))).setCell ⟨Q07, 1, none⟩ (.int .i64 ((rd_T79 t107 x69_3).f1))) w.heap.size (fun k_ => some k_ ≠ (.slice Q0d t104.length Q09 : Value).ownBlock ∧ k_ ≠ Q07) (.slice (some ad117) t107.length Q0a) t107) := ⟨by (with_reducible repeat (first | apply rA | apply rN | apply rD)); exact Kd.R_mono (Kd.R_far (p := ⟨Q07, 1, none⟩) (Kd.R_far (p := ⟨Q07, 0, none⟩) (Kd.R_mono Q0o.out (fun k_ hk => (⟨hk, hk.2⟩ : _ ∧ k_ ≠ Q07))) (fun _ hk => hk.2) (.int .i64 ((rd_T79 t107 x69_3).f0))) (fun _ hk => hk.2) (.int .i64 ((rd_T79 t107 x69_3).f1))) (fun _ hk => ⟨hk.1.1, hk.1.2⟩)⟩
                  have n1_ : Aside0 (Kd.R k79 79 ((w68.setCell ⟨Q07, 0, none⟩ (.int .i64 ((rd_T79 t107 x69_3).f0))).setCell ⟨Q07, 1, none⟩ (.int .i64 ((rd_T79 t107 x69_3).f1))) w.heap.size (fun k_ => some k_ ≠ (.slice (some ad117) t107.length Q0a : Value).ownBlock ∧ some k_ ≠ (.slice (some ad117) t107.length Q0a : Value).ownBlock ∧ k_ ≠ Q07) (.slice Q0d t104.length Q09) t104) := ⟨by (with_reducible repeat (first | apply rA | apply rN | apply rD)); exact Kd.R_mono (Kd.R_far (p := ⟨Q07, 1, none⟩) (Kd.R_far (p := ⟨Q07, 0, none⟩) (Kd.R_mono Q0e.out (fun k_ hk => (⟨hk, hk.2⟩ : _ ∧ k_ ≠ Q07))) (fun _ hk => hk.2) (.int .i64 ((rd_T79 t107 x69_3).f0))) (fun _ hk => hk.2) (.int .i64 ((rd_T79 t107 x69_3).f1))) (fun _ hk => ⟨hk.1.1.1, ⟨hk.1.1.2, hk.1.2⟩⟩)⟩
                  have n2_ : Aside0 (Kd.R k79 79 ((w68.setCell ⟨Q07, 0, none⟩ (.int .i64 ((rd_T79 t107 x69_3).f0))).setCell ⟨Q07, 1, none⟩ (.int .i64 ((rd_T79 t107 x69_3).f1))) w.heap.size (fun k_ => some k_ ≠ (.slice Q0d t104.length Q09 : Value).ownBlock ∧ k_ ≠ Q07) (.slice (some ad117) t107.length Q0a) t107) := ⟨by (with_reducible repeat (first | apply rA | apply rN | apply rD)); exact Kd.R_mono (Kd.R_far (p := ⟨Q07, 1, none⟩) (Kd.R_far (p := ⟨Q07, 0, none⟩) (Kd.R_mono Q0g.out (fun k_ hk => (⟨hk, hk.2⟩ : _ ∧ k_ ≠ Q07))) (fun _ hk => hk.2) (.int .i64 ((rd_T79 t107 x69_3).f0))) (fun _ hk => hk.2) (.int .i64 ((rd_T79 t107 x69_3).f1))) (fun _ hk => ⟨hk.1.1, hk.1.2⟩)⟩
                  have n3_ : Aside0 (Kd.R (Kd.int .i64) 3 ((w68.setCell ⟨Q07, 0, none⟩ (.int .i64 ((rd_T79 t107 x69_3).f0))).setCell ⟨Q07, 1, none⟩ (.int .i64 ((rd_T79 t107 x69_3).f1))) w.heap.size (fun _ => True) u111002 x111002_2) := ⟨by (with_reducible repeat (first | apply rA | apply rN | apply rD)); exact Kd.R_mono (Kd.R_far (p := ⟨Q07, 1, none⟩) (Kd.R_far (p := ⟨Q07, 0, none⟩) (Kd.R_types Q0f.out Q0c.out (by decide)) (fun _ hk => hk.2) (.int .i64 ((rd_T79 t107 x69_3).f0))) (fun _ hk => hk.2) (.int .i64 ((rd_T79 t107 x69_3).f1))) (fun _ hk => trivial)⟩
                  have n4_ : Aside0 (Kd.R k94 94 ((w68.setCell ⟨Q07, 0, none⟩ (.int .i64 ((rd_T79 t107 x69_3).f0))).setCell ⟨Q07, 1, none⟩ (.int .i64 ((rd_T79 t107 x69_3).f1))) w.heap.size (fun _ => True) u111003 x111003_3) := ⟨by (with_reducible repeat (first | apply rA | apply rN | apply rD)); exact Kd.R_mono (Kd.R_far (p := ⟨Q07, 1, none⟩) (Kd.R_far (p := ⟨Q07, 0, none⟩) (Kd.R_types Q0j.out Q0c.out (by decide)) (fun _ hk => hk.2) (.int .i64 ((rd_T79 t107 x69_3).f0))) (fun _ hk => hk.2) (.int .i64 ((rd_T79 t107 x69_3).f1))) (fun _ hk => trivial)⟩
                  have n5_ : Aside0 (((w68.setCell ⟨Q07, 0, none⟩ (.int .i64 ((rd_T79 t107 x69_3).f0))).setCell ⟨Q07, 1, none⟩ (.int .i64 ((rd_T79 t107 x69_3).f1))).heap[Q03]? = some (.cells #[.slice A0_0 l0_0.length c0_0, .slice A0_1 l0_1.length c0_1, .slice A0_2 l0_2.length c0_2, .slice A0_3 l0_3.length c0_3, .slice A0_4 l0_4.length c0_4, .slice A0_5 l0_5.length c0_5, .slice A0_6 l0_6.length c0_6, .slice A0_7 l0_7.length c0_7, .slice A0_8 l0_8.length c0_8, .slice A0_9 l0_9.length c0_9] 29 (0, 0))) := ⟨by (with_reducible repeat (first | refine bN ?_ _ | refine bD ?_ | refine bA ?_ _)); refine blk_far ?_ Q34.out _; (with_reducible repeat (first | refine bN ?_ _ | refine bD ?_ | refine bA ?_ _)); refine blk_far ?_ Q34.out _; (with_reducible repeat (first | refine bN ?_ _ | refine bD ?_ | refine bA ?_ _)); exact Q00.out⟩
                  have n6_ : Aside0 (((w68.setCell ⟨Q07, 0, none⟩ (.int .i64 ((rd_T79 t107 x69_3).f0))).setCell ⟨Q07, 1, none⟩ (.int .i64 ((rd_T79 t107 x69_3).f1))).heap[Q0b]? = some (.cells #[.slice none 0 0, .slice none 0 0, .slice none 0 0, .slice none 0 0] 81 (0, 0))) := ⟨by (with_reducible repeat (first | refine bN ?_ _ | refine bD ?_ | refine bA ?_ _)); refine blk_far ?_ Q35.out _; (with_reducible repeat (first | refine bN ?_ _ | refine bD ?_ | refine bA ?_ _)); refine blk_far ?_ Q35.out _; (with_reducible repeat (first | refine bN ?_ _ | refine bD ?_ | refine bA ?_ _)); exact Q02.out⟩
                  have n7_ : Aside0 (((w68.setCell ⟨Q07, 0, none⟩ (.int .i64 ((rd_T79 t107 x69_3).f0))).setCell ⟨Q07, 1, none⟩ (.int .i64 ((rd_T79 t107 x69_3).f1))).heap[Q04]? = some (.cells #[.slice Q0d t104.length Q09, .slice (some ad117) t107.length Q0a, u111002, u111003] 81 (0, 0))) := ⟨by (with_reducible repeat (first | refine bN ?_ _ | refine bD ?_ | refine bA ?_ _)); refine blk_far ?_ Q1x.out _; (with_reducible repeat (first | refine bN ?_ _ | refine bD ?_ | refine bA ?_ _)); refine blk_far ?_ Q1x.out _; (with_reducible repeat (first | refine bN ?_ _ | refine bD ?_ | refine bA ?_ _)); exact Q01.out⟩
                  have n8_ : Aside0 (((w68.setCell ⟨Q07, 0, none⟩ (.int .i64 ((rd_T79 t107 x69_3).f0))).setCell ⟨Q07, 1, none⟩ (.int .i64 ((rd_T79 t107 x69_3).f1))).heap[Q07]? = some (.cells #[.int .i64 ((rd_T79 t107 x69_3).f0), .int .i64 ((rd_T79 t107 x69_3).f1)] 79 (0, 0))) := ⟨by (with_reducible repeat (first | refine bN ?_ _ | refine bD ?_ | refine bA ?_ _)); refine blk_put (cs := #[.int .i64 ((rd_T79 t107 x69_3).f0), .int .i64 0]) ?_ 1 _ rfl; (with_reducible repeat (first | refine bN ?_ _ | refine bD ?_ | refine bA ?_ _)); refine blk_put (cs := #[.int .i64 0, .int .i64 0]) ?_ 0 _ rfl; (with_reducible repeat (first | refine bN ?_ _ | refine bD ?_ | refine bA ?_ _)); exact Q0c.out⟩
                  have n9_ : Aside0 (Below w.heap.size w ((w68.setCell ⟨Q07, 0, none⟩ (.int .i64 ((rd_T79 t107 x69_3).f0))).setCell ⟨Q07, 1, none⟩ (.int .i64 ((rd_T79 t107 x69_3).f1)))) := ⟨pH HB⟩
                  (try clear Q0o)
                  (try clear Q0e)
                  (try clear Q0g)
                  (try clear Q0f)
                  (try clear Q0j)
                  (try clear Q00)
                  (try clear Q02)
                  (try clear Q01)
                  (try clear Q0c)
                  (try clear HB)
                  generalize ((w68.setCell ⟨Q07, 0, none⟩ (.int .i64 ((rd_T79 t107 x69_3).f0))).setCell ⟨Q07, 1, none⟩ (.int .i64 ((rd_T79 t107 x69_3).f1))) = w73 at n0_ n1_ n2_ n3_ n4_ n5_ n6_ n7_ n8_ n9_ ⊢
                  have Q0o := n0_
                  have Q0e := n1_
                  have Q0g := n2_
                  have Q0f := n3_
                  have Q0j := n4_
                  have Q00 := n5_
                  have Q02 := n6_
                  have Q01 := n7_
                  have Q0c := n8_
                  have HB := n9_
                  clear n0_ n1_ n2_ n3_ n4_ n5_ n6_ n7_ n8_ n9_
                  replace Q0o := Aside0.mk (rD Q0o.out)
                  replace Q0e := Aside0.mk (rD Q0e.out)
                  replace Q0g := Aside0.mk (rD Q0g.out)
                  replace Q0f := Aside0.mk (rD Q0f.out)
                  replace Q0j := Aside0.mk (rD Q0j.out)
                  replace Q00 := Aside0.mk (bD Q00.out)
                  replace Q02 := Aside0.mk (bD Q02.out)
                  replace Q01 := Aside0.mk (bD Q01.out)
                  replace Q0c := Aside0.mk (bD Q0c.out)
                  replace HB := Aside0.mk (wD HB.out)
                  have p119 : 0 ≤ (((rd_T79 t107 x69_3).f0) : Int) := oT
                  have q119 : ((rd_T79 t107 x69_3).f0) < (l0_1.length : Int) := oT
                  obtain ⟨ad119, e119, hx119_0, hx119_1, hx119_2⟩ := at_T94 HR0_1.out ((rd_T79 t107 x69_3).f0) p119 q119
                  have hw119_2 := hx119_2
                  have hw119_1 := hx119_1
                  have hw119_0 := hx119_0
                  cases e119
                  replace hx119_0 := (HB.out.cell (World.block_lt_of_cell? w _ hx119_0)).trans hx119_0
                  replace hx119_1 := (HB.out.cell (World.block_lt_of_cell? w _ hx119_1)).trans hx119_1
                  replace hx119_2 := (HB.out.cell (World.block_lt_of_cell? w _ hx119_2)).trans hx119_2
                  replace p119 := eq_true p119
                  replace q119 := eq_true q119
                  have p120 : 0 ≤ (((rd_T79 t107 x69_3).f1) : Int) := oT
                  have q120 : ((rd_T79 t107 x69_3).f1) < (l0_3.length : Int) := oT
                  obtain ⟨ad120, e120, hx120_0, hx120_1, hx120_2⟩ := at_T94 HR0_3.out ((rd_T79 t107 x69_3).f1) p120 q120
                  have hw120_2 := hx120_2
                  have hw120_1 := hx120_1
                  have hw120_0 := hx120_0
                  cases e120
                  replace hx120_0 := (HB.out.cell (World.block_lt_of_cell? w _ hx120_0)).trans hx120_0
                  replace hx120_1 := (HB.out.cell (World.block_lt_of_cell? w _ hx120_1)).trans hx120_1
                  replace hx120_2 := (HB.out.cell (World.block_lt_of_cell? w _ hx120_2)).trans hx120_2
                  replace p120 := eq_true p120
                  replace q120 := eq_true q120
                  refine start_ (n := 18) (S := fun w' => w'.cell? ⟨Q03, 0, none⟩ = some (.slice A0_0 l0_0.length c0_0) ∧ w'.cell? ⟨Q03, 1, none⟩ = some (.slice (some ad119) l0_1.length c0_1) ∧ w'.cell? ⟨Q03, 2, none⟩ = some (.slice A0_2 l0_2.length c0_2) ∧ w'.cell? ⟨Q03, 3, none⟩ = some (.slice (some ad120) l0_3.length c0_3) ∧ w'.cell? ⟨Q03, 4, none⟩ = some (.slice A0_4 l0_4.length c0_4) ∧ w'.cell? ⟨Q03, 5, none⟩ = some (.slice A0_5 l0_5.length c0_5) ∧ w'.cell? ⟨Q03, 6, none⟩ = some (.slice A0_6 l0_6.length c0_6) ∧ w'.cell? ⟨Q03, 7, none⟩ = some (.slice A0_7 l0_7.length c0_7) ∧ w'.cell? ⟨Q03, 8, none⟩ = some (.slice A0_8 l0_8.length c0_8) ∧ w'.cell? ⟨Q03, 9, none⟩ = some (.slice A0_9 l0_9.length c0_9) ∧ w'.cell? ⟨Q07, 0, none⟩ = some (.int .i64 ((rd_T79 t107 x69_3).f0)) ∧ w'.cell? ⟨Q07, 1, none⟩ = some (.int .i64 ((rd_T79 t107 x69_3).f1)) ∧ w'.cell? (ad119.add ((((rd_T79 t107 x69_3).f0)).toNat * 3)) = some (.int .i64 ((rd_T94 l0_1 ((rd_T79 t107 x69_3).f0)).f0)) ∧ w'.cell? ⟨(ad119.add ((((rd_T79 t107 x69_3).f0)).toNat * 3)).block, (ad119.add ((((rd_T79 t107 x69_3).f0)).toNat * 3)).off + 1, none⟩ = some (.int .i64 ((rd_T94 l0_1 ((rd_T79 t107 x69_3).f0)).f1)) ∧ w'.cell? ⟨(ad119.add ((((rd_T79 t107 x69_3).f0)).toNat * 3)).block, (ad119.add ((((rd_T79 t107 x69_3).f0)).toNat * 3)).off + 2, none⟩ = some (.int .i64 ((rd_T94 l0_1 ((rd_T79 t107 x69_3).f0)).f2)) ∧ w'.cell? (ad120.add ((((rd_T79 t107 x69_3).f1)).toNat * 3)) = some (.int .i64 ((rd_T94 l0_3 ((rd_T79 t107 x69_3).f1)).f0)) ∧ w'.cell? ⟨(ad120.add ((((rd_T79 t107 x69_3).f1)).toNat * 3)).block, (ad120.add ((((rd_T79 t107 x69_3).f1)).toNat * 3)).off + 1, none⟩ = some (.int .i64 ((rd_T94 l0_3 ((rd_T79 t107 x69_3).f1)).f1)) ∧ w'.cell? ⟨(ad120.add ((((rd_T79 t107 x69_3).f1)).toNat * 3)).block, (ad120.add ((((rd_T79 t107 x69_3).f1)).toNat * 3)).off + 2, none⟩ = some (.int .i64 ((rd_T94 l0_3 ((rd_T79 t107 x69_3).f1)).f2))) (ds := []) #[false, false, false, false, false, false, false, false, false, false, false, false, false, false, false, false, false, false] (by kernel_rfl) rfl rfl ⟨bC Q00 0, bC Q00 1, bC Q00 2, bC Q00 3, bC Q00 4, bC Q00 5, bC Q00 6, bC Q00 7, bC Q00 8, bC Q00 9, bC Q0c 0, bC Q0c 1, ((HB.out.cell (World.block_lt_of_cell? w _ hw119_0)).trans hw119_0), ((HB.out.cell (World.block_lt_of_cell? w _ hw119_1)).trans hw119_1), ((HB.out.cell (World.block_lt_of_cell? w _ hw119_2)).trans hw119_2), ((HB.out.cell (World.block_lt_of_cell? w _ hw120_0)).trans hw120_0), ((HB.out.cell (World.block_lt_of_cell? w _ hw120_1)).trans hw120_1), ((HB.out.cell (World.block_lt_of_cell? w _ hw120_2)).trans hw120_2)⟩ (fun hHeld => ?_); refine with_tabW pullback_of.tab15 pullback_of.bits15 (fun HT_ HW_ => ?_)
                  generalize w73.drew = w74 at Q0o Q0e Q0g Q0f Q0j Q00 Q02 Q01 Q0c HB hx119_0 hx119_1 hx119_2 hx120_0 hx120_1 hx120_2 hHeld ⊢
                  refine pure_ (i := 0) (N := some 73) (v := ?_) (a' := ?_) #[true, false, false, false, false, false, false, false, false, false, false, false, false, false, false, false, false, false] rfl rfl (any_of HT_.out (by kernel_rfl)) (fun _ _ _ h => h) (Or.inl ⟨by rfl, ?_⟩) ?_ ?_
                  rotate_left
                  ·intro w'
                   go_simp
                   with_reducible rfl
                  rotate_left
                  ·simp only [Act.put, List.setIfInBounds_toArray, List.set_cons_zero, List.set_cons_succ, i64_w, i32_w]
                   rfl
                  refine pure_ (i := 1) (N := some 74) (v := ?_) (a' := ?_) #[true, true, false, false, false, false, false, false, false, false, false, false, false, false, false, false, false, false] rfl rfl (any_of HT_.out (by kernel_rfl)) (fun _ _ _ h => h) (Or.inl ⟨by rfl, ?_⟩) ?_ ?_
                  rotate_left
                  ·intro w'
                   go_simp
                   with_reducible rfl
                  rotate_left
                  ·simp only [Act.put, List.setIfInBounds_toArray, List.set_cons_zero, List.set_cons_succ, i64_w, i32_w]
                   rfl
                  refine pure_ (i := 3) (N := some 76) (v := ?_) (a' := ?_) #[true, true, false, true, false, false, false, false, false, false, false, false, false, false, false, false, false, false] rfl rfl (any_of HT_.out (by kernel_rfl)) (fun _ _ _ h => h) (Or.inl ⟨by rfl, ?_⟩) ?_ ?_
                  rotate_left
                  ·intro w'
                   go_simp
                   with_reducible rfl
                  rotate_left
                  ·simp only [Act.put, List.setIfInBounds_toArray, List.set_cons_zero, List.set_cons_succ, i64_w, i32_w]
                   rfl
                  refine pure_ (i := 7) (N := some 80) (v := ?_) (a' := ?_) #[true, true, false, true, false, false, false, true, false, false, false, false, false, false, false, false, false, false] rfl rfl (any_of HT_.out (by kernel_rfl)) (fun _ _ _ h => h) (Or.inl ⟨by rfl, ?_⟩) ?_ ?_
                  rotate_left
                  ·intro w'
                   go_simp
                   with_reducible rfl
                  rotate_left
                  ·simp only [Act.put, List.setIfInBounds_toArray, List.set_cons_zero, List.set_cons_succ, i64_w, i32_w]
                   rfl
                  refine pure_ (i := 8) (N := some 81) (v := ?_) (a' := ?_) #[true, true, false, true, false, false, false, true, true, false, false, false, false, false, false, false, false, false] rfl rfl (any_of HT_.out (by kernel_rfl)) (fun _ _ _ h => h) (Or.inl ⟨by rfl, ?_⟩) ?_ ?_
                  rotate_left
                  ·intro w'
                   go_simp
                   with_reducible rfl
                  rotate_left
                  ·simp only [Act.put, List.setIfInBounds_toArray, List.set_cons_zero, List.set_cons_succ, i64_w, i32_w]
                   rfl
                  refine pure_ (i := 10) (N := some 83) (v := ?_) (a' := ?_) #[true, true, false, true, false, false, false, true, true, false, true, false, false, false, false, false, false, false] rfl rfl (any_of HT_.out (by kernel_rfl)) (fun _ _ _ h => h) (Or.inl ⟨by rfl, ?_⟩) ?_ ?_
                  rotate_left
                  ·intro w'
                   go_simp
                   with_reducible rfl
                  rotate_left
                  ·simp only [Act.put, List.setIfInBounds_toArray, List.set_cons_zero, List.set_cons_succ, i64_w, i32_w]
                   rfl
                  refine take_ (i := 2) (N := some 75) (v := ?_) (a' := ?_) #[true, true, true, true, false, false, false, true, true, false, true, false, false, false, false, false, false, false] rfl rfl (take_ofW HT_.out HW_.out (by kernel_rfl)) (fun _ _ _ h => h) (Or.inl ⟨by rfl, ?_⟩) hHeld ?_ ?_
                  rotate_left
                  ·rintro w' ⟨s0, s1, s2, s3, s4, s5, s6, s7, s8, s9, s10, s11, s12, s13, s14, s15, s16, s17⟩
                   go_simp
                   with_reducible rfl
                  rotate_left
                  ·simp only [Act.put, List.setIfInBounds_toArray, List.set_cons_zero, List.set_cons_succ, i64_w, i32_w]
                   rfl
                  refine take_ (i := 4) (N := some 77) (v := ?_) (a' := ?_) #[true, true, true, true, true, false, false, true, true, false, true, false, false, false, false, false, false, false] rfl rfl (take_ofW HT_.out HW_.out (by kernel_rfl)) (fun _ _ _ h => h) (Or.inl ⟨by rfl, ?_⟩) hHeld ?_ ?_
                  rotate_left
                  ·rintro w' ⟨s0, s1, s2, s3, s4, s5, s6, s7, s8, s9, s10, s11, s12, s13, s14, s15, s16, s17⟩
                   go_simp
                   with_reducible rfl
                  rotate_left
                  ·simp only [Act.put, List.setIfInBounds_toArray, List.set_cons_zero, List.set_cons_succ, i64_w, i32_w]
                   rfl
                  refine pure_ (i := 5) (N := some 78) (v := ?_) (a' := ?_) #[true, true, true, true, true, true, false, true, true, false, true, false, false, false, false, false, false, false] rfl rfl (any_of HT_.out (by kernel_rfl)) (fun _ _ _ h => h) (Or.inl ⟨by rfl, ?_⟩) ?_ ?_
                  rotate_left
                  ·intro w'
                   go_simp
                   with_reducible rfl
                  rotate_left
                  ·simp only [Act.put, List.setIfInBounds_toArray, List.set_cons_zero, List.set_cons_succ, i64_w, i32_w]
                   rfl
                  refine take_ (i := 6) (N := some 79) (v := ?_) (a' := ?_) #[true, true, true, true, true, true, true, true, true, false, true, false, false, false, false, false, false, false] rfl rfl (take_ofW HT_.out HW_.out (by kernel_rfl)) (fun _ _ _ h => h) (Or.inl ⟨by rfl, ?_⟩) hHeld ?_ ?_
                  rotate_left
                  ·rintro w' ⟨s0, s1, s2, s3, s4, s5, s6, s7, s8, s9, s10, s11, s12, s13, s14, s15, s16, s17⟩
                   go_simp
                   with_reducible rfl
                  rotate_left
                  ·simp only [Act.put, List.setIfInBounds_toArray, List.set_cons_zero, List.set_cons_succ, i64_w, i32_w]
                   rfl
                  refine take_ (i := 9) (N := some 82) (v := ?_) (a' := ?_) #[true, true, true, true, true, true, true, true, true, true, true, false, false, false, false, false, false, false] rfl rfl (take_ofW HT_.out HW_.out (by kernel_rfl)) (fun _ _ _ h => h) (Or.inl ⟨by rfl, ?_⟩) hHeld ?_ ?_
                  rotate_left
                  ·rintro w' ⟨s0, s1, s2, s3, s4, s5, s6, s7, s8, s9, s10, s11, s12, s13, s14, s15, s16, s17⟩
                   go_simp
                   with_reducible rfl
                  rotate_left
                  ·simp only [Act.put, List.setIfInBounds_toArray, List.set_cons_zero, List.set_cons_succ, i64_w, i32_w]
                   rfl
                  refine take_ (i := 11) (N := some 84) (v := ?_) (a' := ?_) #[true, true, true, true, true, true, true, true, true, true, true, true, false, false, false, false, false, false] rfl rfl (take_ofW HT_.out HW_.out (by kernel_rfl)) (fun _ _ _ h => h) (Or.inl ⟨by rfl, ?_⟩) hHeld ?_ ?_
                  rotate_left
                  ·rintro w' ⟨s0, s1, s2, s3, s4, s5, s6, s7, s8, s9, s10, s11, s12, s13, s14, s15, s16, s17⟩
                   go_simp
                   with_reducible rfl
                  rotate_left
                  ·simp only [Act.put, List.setIfInBounds_toArray, List.set_cons_zero, List.set_cons_succ, i64_w, i32_w]
                   rfl
                  refine pure_ (i := 12) (N := some 85) (v := ?_) (a' := ?_) #[true, true, true, true, true, true, true, true, true, true, true, true, true, false, false, false, false, false] rfl rfl (any_of HT_.out (by kernel_rfl)) (fun _ _ _ h => h) (Or.inl ⟨by rfl, ?_⟩) ?_ ?_
                  rotate_left
                  ·intro w'
                   go_simp
                   with_reducible rfl
                  rotate_left
                  ·simp only [Act.put, List.setIfInBounds_toArray, List.set_cons_zero, List.set_cons_succ, i64_w, i32_w]
                   rfl
                  refine take_ (i := 13) (N := some 86) (v := ?_) (a' := ?_) #[true, true, true, true, true, true, true, true, true, true, true, true, true, true, false, false, false, false] rfl rfl (take_ofW HT_.out HW_.out (by kernel_rfl)) (fun _ _ _ h => h) (Or.inl ⟨by rfl, ?_⟩) hHeld ?_ ?_
                  rotate_left
                  ·rintro w' ⟨s0, s1, s2, s3, s4, s5, s6, s7, s8, s9, s10, s11, s12, s13, s14, s15, s16, s17⟩
                   go_simp
                   with_reducible rfl
                  rotate_left
                  ·simp only [Act.put, List.setIfInBounds_toArray, List.set_cons_zero, List.set_cons_succ, i64_w, i32_w]
                   rfl
                  refine join_ (σ := Nat × Nat) 2 #[true, true, true, true, true, true, true, true, true, true, true, true, true, true, true, true, false, false] (fun s_ => [(10, .pointer (some ⟨s_.1, 0, none⟩)), (11, .pointer (some ⟨s_.2, 0, none⟩))]) (fun s_ w' => (w'.cell? ⟨Q03, 0, none⟩ = some (.slice A0_0 l0_0.length c0_0) ∧ w'.cell? ⟨Q03, 1, none⟩ = some (.slice (some ad119) l0_1.length c0_1) ∧ w'.cell? ⟨Q03, 2, none⟩ = some (.slice A0_2 l0_2.length c0_2) ∧ w'.cell? ⟨Q03, 3, none⟩ = some (.slice (some ad120) l0_3.length c0_3) ∧ w'.cell? ⟨Q03, 4, none⟩ = some (.slice A0_4 l0_4.length c0_4) ∧ w'.cell? ⟨Q03, 5, none⟩ = some (.slice A0_5 l0_5.length c0_5) ∧ w'.cell? ⟨Q03, 6, none⟩ = some (.slice A0_6 l0_6.length c0_6) ∧ w'.cell? ⟨Q03, 7, none⟩ = some (.slice A0_7 l0_7.length c0_7) ∧ w'.cell? ⟨Q03, 8, none⟩ = some (.slice A0_8 l0_8.length c0_8) ∧ w'.cell? ⟨Q03, 9, none⟩ = some (.slice A0_9 l0_9.length c0_9) ∧ w'.cell? ⟨Q07, 0, none⟩ = some (.int .i64 ((rd_T79 t107 x69_3).f0)) ∧ w'.cell? ⟨Q07, 1, none⟩ = some (.int .i64 ((rd_T79 t107 x69_3).f1)) ∧ w'.cell? (ad119.add ((((rd_T79 t107 x69_3).f0)).toNat * 3)) = some (.int .i64 ((rd_T94 l0_1 ((rd_T79 t107 x69_3).f0)).f0)) ∧ w'.cell? ⟨(ad119.add ((((rd_T79 t107 x69_3).f0)).toNat * 3)).block, (ad119.add ((((rd_T79 t107 x69_3).f0)).toNat * 3)).off + 1, none⟩ = some (.int .i64 ((rd_T94 l0_1 ((rd_T79 t107 x69_3).f0)).f1)) ∧ w'.cell? ⟨(ad119.add ((((rd_T79 t107 x69_3).f0)).toNat * 3)).block, (ad119.add ((((rd_T79 t107 x69_3).f0)).toNat * 3)).off + 2, none⟩ = some (.int .i64 ((rd_T94 l0_1 ((rd_T79 t107 x69_3).f0)).f2)) ∧ w'.cell? (ad120.add ((((rd_T79 t107 x69_3).f1)).toNat * 3)) = some (.int .i64 ((rd_T94 l0_3 ((rd_T79 t107 x69_3).f1)).f0)) ∧ w'.cell? ⟨(ad120.add ((((rd_T79 t107 x69_3).f1)).toNat * 3)).block, (ad120.add ((((rd_T79 t107 x69_3).f1)).toNat * 3)).off + 1, none⟩ = some (.int .i64 ((rd_T94 l0_3 ((rd_T79 t107 x69_3).f1)).f1)) ∧ w'.cell? ⟨(ad120.add ((((rd_T79 t107 x69_3).f1)).toNat * 3)).block, (ad120.add ((((rd_T79 t107 x69_3).f1)).toNat * 3)).off + 2, none⟩ = some (.int .i64 ((rd_T94 l0_3 ((rd_T79 t107 x69_3).f1)).f2))) ∧ (Kd.R k79 79 w' w.heap.size (fun k_ => some k_ ≠ (.slice (some ad117) t107.length Q0a : Value).ownBlock ∧ some k_ ≠ (.slice (some ad117) t107.length Q0a : Value).ownBlock ∧ k_ ≠ Q07) (.slice Q0d t104.length Q09) t104) ∧ (Kd.R k79 79 w' w.heap.size (fun k_ => some k_ ≠ (.slice Q0d t104.length Q09 : Value).ownBlock ∧ k_ ≠ Q07) (.slice (some ad117) t107.length Q0a) t107) ∧ (Kd.R (Kd.int .i64) 3 w' w.heap.size (fun _ => True) u111002 x111002_2) ∧ (Kd.R k94 94 w' w.heap.size (fun k_ => k_ ≠ s_.1 ∧ k_ ≠ s_.2) u111003 x111003_3) ∧ (Kd.R k79 79 w' w.heap.size (fun k_ => some k_ ≠ (.slice Q0d t104.length Q09 : Value).ownBlock ∧ k_ ≠ Q07) (.slice (some ad117) t107.length Q0a) t107) ∧ (w'.heap[Q03]? = some (.cells #[.slice A0_0 l0_0.length c0_0, .slice (some ad119) l0_1.length c0_1, .slice A0_2 l0_2.length c0_2, .slice (some ad120) l0_3.length c0_3, .slice A0_4 l0_4.length c0_4, .slice A0_5 l0_5.length c0_5, .slice A0_6 l0_6.length c0_6, .slice A0_7 l0_7.length c0_7, .slice A0_8 l0_8.length c0_8, .slice A0_9 l0_9.length c0_9] 29 (0, 0))) ∧ (w'.heap[Q0b]? = some (.cells #[.slice none 0 0, .slice none 0 0, .slice none 0 0, .slice none 0 0] 81 (0, 0))) ∧ (w'.heap[Q04]? = some (.cells #[.slice Q0d t104.length Q09, .slice (some ad117) t107.length Q0a, u111002, u111003] 81 (0, 0))) ∧ (w'.heap[Q07]? = some (.cells #[.int .i64 ((rd_T79 t107 x69_3).f0), .int .i64 ((rd_T79 t107 x69_3).f1)] 79 (0, 0))) ∧ (w'.heap[s_.1]? = some (.cells #[.int .i64 0, .int .i64 0, .int .i64 0] 94 (0, 0))) ∧ (w'.heap[s_.2]? = some (.cells #[.int .i64 0, .int .i64 0, .int .i64 0] 94 (0, 0))) ∧ (w.heap.size ≤ s_.1) ∧ (w.heap.size ≤ s_.1) ∧ (Q03 ≠ s_.1) ∧ (s_.1 ≠ Q03) ∧ (Q0b ≠ s_.1) ∧ (s_.1 ≠ Q0b) ∧ (Q04 ≠ s_.1) ∧ (s_.1 ≠ Q04) ∧ (Q07 ≠ s_.1) ∧ (s_.1 ≠ Q07) ∧ (s_.2 ≠ s_.1) ∧ (s_.1 ≠ s_.2) ∧ (w.heap.size ≤ s_.2) ∧ (w.heap.size ≤ s_.2) ∧ (Q03 ≠ s_.2) ∧ (s_.2 ≠ Q03) ∧ (Q0b ≠ s_.2) ∧ (s_.2 ≠ Q0b) ∧ (Q04 ≠ s_.2) ∧ (s_.2 ≠ Q04) ∧ (Q07 ≠ s_.2) ∧ (s_.2 ≠ Q07) ∧ (Below w.heap.size w w')) ?_ ?_
                  rotate_left
                  ·intro hCont
                   refine two_ (i := 14) (j := 15) (Ni := some 10) (Nj := some 11) #[true, true, true, true, true, true, true, true, true, true, true, true, true, true, true, false, false, false] #[true, true, true, true, true, true, true, true, true, true, true, true, true, true, false, true, false, false] rfl rfl rfl rfl (two_of HT_.out (by kernel_rfl)) (by decide) (by decide) (fun K hK => ?_) (fun K hK => ?_)
                   ·skip
                    refine box_step ?hg (N := 10) ?hd (cs := #[.int .i64 0, .int .i64 0, .int .i64 0]) (t := 94) ?hr ?_; (case hd => rfl); (case hg => rfl); (case hr => first | (go_simp; done) | (go_simp; rfl))
                    intro Q05 hg w75 hbox hb
                    replace Q0o := uR Q0o hb
                    replace Q0e := uR Q0e hb
                    replace Q0g := uR Q0g hb
                    replace Q0f := uR Q0f hb
                    replace Q0j := gR Q0j Q05 hg hb
                    have Q0h := Aside0.mk (hbox)
                    have Q0r := uS HB hg
                    have Q1y := uS HB hg
                    replace HB := uH HB hb
                    have Q0l := uL Q00 hg
                    have Q1a := uG Q00 hg
                    replace Q00 := uB Q00 hb
                    have Q14 := uL Q02 hg
                    have Q1b := uG Q02 hg
                    replace Q02 := uB Q02 hb
                    have Q12 := uL Q01 hg
                    have Q18 := uG Q01 hg
                    replace Q01 := uB Q01 hb
                    have Q0w := uL Q0c hg
                    have Q1c := uG Q0c hg
                    replace Q0c := uB Q0c hb
                    clear hb hbox hg
                    refine hK.out _ _ ⟨bC Q00 0, bC Q00 1, bC Q00 2, bC Q00 3, bC Q00 4, bC Q00 5, bC Q00 6, bC Q00 7, bC Q00 8, bC Q00 9, bC Q0c 0, bC Q0c 1, ((HB.out.cell (World.block_lt_of_cell? w _ hw119_0)).trans hw119_0), ((HB.out.cell (World.block_lt_of_cell? w _ hw119_1)).trans hw119_1), ((HB.out.cell (World.block_lt_of_cell? w _ hw119_2)).trans hw119_2), ((HB.out.cell (World.block_lt_of_cell? w _ hw120_0)).trans hw120_0), ((HB.out.cell (World.block_lt_of_cell? w _ hw120_1)).trans hw120_1), ((HB.out.cell (World.block_lt_of_cell? w _ hw120_2)).trans hw120_2)⟩ (fun hHeld => ?_)
                    clear hK K
                    refine norm_ (a' := ?_) ?_ ?_
                    rotate_left
                    ·show Act.put _ (some 10) _ = _
                     simp only [Act.put, List.setIfInBounds_toArray, List.set_cons_zero, List.set_cons_succ, i64_w, i32_w]
                     rfl
                    refine one_ (i := 15) (N := some 11) #[true, true, true, true, true, true, true, true, true, true, true, true, true, true, true, true, false, false] rfl rfl (one_of HT_.out (by kernel_rfl)) (by decide) (fun K hK => ?_)
                    refine box_step ?hg (N := 11) ?hd (cs := #[.int .i64 0, .int .i64 0, .int .i64 0]) (t := 94) ?hr ?_; (case hd => rfl); (case hg => rfl); (case hr => first | (go_simp; done) | (go_simp; rfl))
                    intro Q06 hg w76 hbox hb
                    replace Q0o := uR Q0o hb
                    replace Q0e := uR Q0e hb
                    replace Q0g := uR Q0g hb
                    replace Q0f := uR Q0f hb
                    replace Q0j := gR Q0j Q06 hg hb
                    have Q0i := Aside0.mk (hbox)
                    have Q0s := uS HB hg
                    have Q1z := uS HB hg
                    replace HB := uH HB hb
                    have Q0m := uL Q00 hg
                    have Q1d := uG Q00 hg
                    replace Q00 := uB Q00 hb
                    have Q15 := uL Q02 hg
                    have Q1e := uG Q02 hg
                    replace Q02 := uB Q02 hb
                    have Q13 := uL Q01 hg
                    have Q19 := uG Q01 hg
                    replace Q01 := uB Q01 hb
                    have Q0x := uL Q0c hg
                    have Q1f := uG Q0c hg
                    replace Q0c := uB Q0c hb
                    have Q0z := uL Q0h hg
                    have Q10 := uG Q0h hg
                    replace Q0h := uB Q0h hb
                    clear hb hbox hg
                    refine hK.out _ _ ⟨bC Q00 0, bC Q00 1, bC Q00 2, bC Q00 3, bC Q00 4, bC Q00 5, bC Q00 6, bC Q00 7, bC Q00 8, bC Q00 9, bC Q0c 0, bC Q0c 1, ((HB.out.cell (World.block_lt_of_cell? w _ hw119_0)).trans hw119_0), ((HB.out.cell (World.block_lt_of_cell? w _ hw119_1)).trans hw119_1), ((HB.out.cell (World.block_lt_of_cell? w _ hw119_2)).trans hw119_2), ((HB.out.cell (World.block_lt_of_cell? w _ hw120_0)).trans hw120_0), ((HB.out.cell (World.block_lt_of_cell? w _ hw120_1)).trans hw120_1), ((HB.out.cell (World.block_lt_of_cell? w _ hw120_2)).trans hw120_2)⟩ (fun hHeld => ?_)
                    clear hK K
                    refine norm_ (a' := ?_) ?_ ?_
                    rotate_left
                    ·show Act.put _ (some 11) _ = _
                     simp only [Act.put, List.setIfInBounds_toArray, List.set_cons_zero, List.set_cons_succ, i64_w, i32_w]
                     rfl
                    exact norm_ (by simp only [putAll, Act.put, List.setIfInBounds_toArray, List.set_cons_zero, List.set_cons_succ]) (hCont (Q05, Q06) _ ⟨hHeld, (by (with_reducible repeat (first | apply rA | apply rN | apply rD)); exact Kd.R_mono Q0e.out (fun _ hk => ⟨hk.2.1, ⟨hk.1, hk.2.2⟩⟩)), (pR Q0g), (pR Q0f), (by (with_reducible repeat (first | apply rA | apply rN | apply rD)); exact Kd.R_mono Q0j.out (fun _ hk => ⟨hk.1.2, hk.2⟩)), (pR Q0o), (pB Q00), (pB Q02), (pB Q01), (pB Q0c), (pB Q0h), (pB Q0i), Q0r.out, Q1y.out, Q0l.out, Q1a.out, Q14.out, Q1b.out, Q12.out, Q18.out, Q0w.out, Q1c.out, Q10.out, Q0z.out, Q0s.out, Q1z.out, Q0m.out, Q1d.out, Q15.out, Q1e.out, Q13.out, Q19.out, Q0x.out, Q1f.out, (pH HB)⟩)
                   ·skip
                    refine box_step ?hg (N := 11) ?hd (cs := #[.int .i64 0, .int .i64 0, .int .i64 0]) (t := 94) ?hr ?_; (case hd => rfl); (case hg => rfl); (case hr => first | (go_simp; done) | (go_simp; rfl))
                    intro Q06 hg w75 hbox hb
                    replace Q0o := uR Q0o hb
                    replace Q0e := uR Q0e hb
                    replace Q0g := uR Q0g hb
                    replace Q0f := uR Q0f hb
                    replace Q0j := gR Q0j Q06 hg hb
                    have Q0i := Aside0.mk (hbox)
                    have Q0s := uS HB hg
                    have Q1z := uS HB hg
                    replace HB := uH HB hb
                    have Q0m := uL Q00 hg
                    have Q1d := uG Q00 hg
                    replace Q00 := uB Q00 hb
                    have Q15 := uL Q02 hg
                    have Q1e := uG Q02 hg
                    replace Q02 := uB Q02 hb
                    have Q13 := uL Q01 hg
                    have Q19 := uG Q01 hg
                    replace Q01 := uB Q01 hb
                    have Q0x := uL Q0c hg
                    have Q1f := uG Q0c hg
                    replace Q0c := uB Q0c hb
                    clear hb hbox hg
                    refine hK.out _ _ ⟨bC Q00 0, bC Q00 1, bC Q00 2, bC Q00 3, bC Q00 4, bC Q00 5, bC Q00 6, bC Q00 7, bC Q00 8, bC Q00 9, bC Q0c 0, bC Q0c 1, ((HB.out.cell (World.block_lt_of_cell? w _ hw119_0)).trans hw119_0), ((HB.out.cell (World.block_lt_of_cell? w _ hw119_1)).trans hw119_1), ((HB.out.cell (World.block_lt_of_cell? w _ hw119_2)).trans hw119_2), ((HB.out.cell (World.block_lt_of_cell? w _ hw120_0)).trans hw120_0), ((HB.out.cell (World.block_lt_of_cell? w _ hw120_1)).trans hw120_1), ((HB.out.cell (World.block_lt_of_cell? w _ hw120_2)).trans hw120_2)⟩ (fun hHeld => ?_)
                    clear hK K
                    refine norm_ (a' := ?_) ?_ ?_
                    rotate_left
                    ·show Act.put _ (some 11) _ = _
                     simp only [Act.put, List.setIfInBounds_toArray, List.set_cons_zero, List.set_cons_succ, i64_w, i32_w]
                     rfl
                    refine one_ (i := 14) (N := some 10) #[true, true, true, true, true, true, true, true, true, true, true, true, true, true, true, true, false, false] rfl rfl (one_of HT_.out (by kernel_rfl)) (by decide) (fun K hK => ?_)
                    refine box_step ?hg (N := 10) ?hd (cs := #[.int .i64 0, .int .i64 0, .int .i64 0]) (t := 94) ?hr ?_; (case hd => rfl); (case hg => rfl); (case hr => first | (go_simp; done) | (go_simp; rfl))
                    intro Q05 hg w76 hbox hb
                    replace Q0o := uR Q0o hb
                    replace Q0e := uR Q0e hb
                    replace Q0g := uR Q0g hb
                    replace Q0f := uR Q0f hb
                    replace Q0j := gR Q0j Q05 hg hb
                    have Q0h := Aside0.mk (hbox)
                    have Q0r := uS HB hg
                    have Q1y := uS HB hg
                    replace HB := uH HB hb
                    have Q0l := uL Q00 hg
                    have Q1a := uG Q00 hg
                    replace Q00 := uB Q00 hb
                    have Q14 := uL Q02 hg
                    have Q1b := uG Q02 hg
                    replace Q02 := uB Q02 hb
                    have Q12 := uL Q01 hg
                    have Q18 := uG Q01 hg
                    replace Q01 := uB Q01 hb
                    have Q0w := uL Q0c hg
                    have Q1c := uG Q0c hg
                    replace Q0c := uB Q0c hb
                    have Q10 := uL Q0i hg
                    have Q0z := uG Q0i hg
                    replace Q0i := uB Q0i hb
                    clear hb hbox hg
                    refine hK.out _ _ ⟨bC Q00 0, bC Q00 1, bC Q00 2, bC Q00 3, bC Q00 4, bC Q00 5, bC Q00 6, bC Q00 7, bC Q00 8, bC Q00 9, bC Q0c 0, bC Q0c 1, ((HB.out.cell (World.block_lt_of_cell? w _ hw119_0)).trans hw119_0), ((HB.out.cell (World.block_lt_of_cell? w _ hw119_1)).trans hw119_1), ((HB.out.cell (World.block_lt_of_cell? w _ hw119_2)).trans hw119_2), ((HB.out.cell (World.block_lt_of_cell? w _ hw120_0)).trans hw120_0), ((HB.out.cell (World.block_lt_of_cell? w _ hw120_1)).trans hw120_1), ((HB.out.cell (World.block_lt_of_cell? w _ hw120_2)).trans hw120_2)⟩ (fun hHeld => ?_)
                    clear hK K
                    refine norm_ (a' := ?_) ?_ ?_
                    rotate_left
                    ·show Act.put _ (some 10) _ = _
                     simp only [Act.put, List.setIfInBounds_toArray, List.set_cons_zero, List.set_cons_succ, i64_w, i32_w]
                     rfl
                    exact norm_ (by simp only [putAll, Act.put, List.setIfInBounds_toArray, List.set_cons_zero, List.set_cons_succ]) (hCont (Q05, Q06) _ ⟨hHeld, (by (with_reducible repeat (first | apply rA | apply rN | apply rD)); exact Kd.R_mono Q0e.out (fun _ hk => ⟨hk.2.1, ⟨hk.1, hk.2.2⟩⟩)), (pR Q0g), (pR Q0f), (by (with_reducible repeat (first | apply rA | apply rN | apply rD)); exact Kd.R_mono Q0j.out (fun _ hk => ⟨hk.2, hk.1.2⟩)), (pR Q0o), (pB Q00), (pB Q02), (pB Q01), (pB Q0c), (pB Q0h), (pB Q0i), Q0r.out, Q1y.out, Q0l.out, Q1a.out, Q14.out, Q1b.out, Q12.out, Q18.out, Q0w.out, Q1c.out, Q10.out, Q0z.out, Q0s.out, Q1z.out, Q0m.out, Q1d.out, Q15.out, Q1e.out, Q13.out, Q19.out, Q0x.out, Q1f.out, (pH HB)⟩)
                  rintro ⟨Q05, Q06⟩ w77 ⟨hS_, h0_, h1_, h2_, h3_, h4_, h5_, h6_, h7_, h8_, h9_, h10_, h11_, h12_, h13_, h14_, h15_, h16_, h17_, h18_, h19_, h20_, h21_, h22_, h23_, h24_, h25_, h26_, h27_, h28_, h29_, h30_, h31_, h32_, h33_⟩
                  have n0_ : Aside0 (Kd.R k79 79 w77 w.heap.size (fun k_ => some k_ ≠ (.slice (some ad117) t107.length Q0a : Value).ownBlock ∧ some k_ ≠ (.slice (some ad117) t107.length Q0a : Value).ownBlock ∧ k_ ≠ Q07) (.slice Q0d t104.length Q09) t104) := ⟨h0_⟩
                  have n1_ : Aside0 (Kd.R k79 79 w77 w.heap.size (fun k_ => some k_ ≠ (.slice Q0d t104.length Q09 : Value).ownBlock ∧ k_ ≠ Q07) (.slice (some ad117) t107.length Q0a) t107) := ⟨h1_⟩
                  have n2_ : Aside0 (Kd.R (Kd.int .i64) 3 w77 w.heap.size (fun _ => True) u111002 x111002_2) := ⟨h2_⟩
                  have n3_ : Aside0 (Kd.R k94 94 w77 w.heap.size (fun k_ => k_ ≠ Q05 ∧ k_ ≠ Q06) u111003 x111003_3) := ⟨h3_⟩
                  have n4_ : Aside0 (Kd.R k79 79 w77 w.heap.size (fun k_ => some k_ ≠ (.slice Q0d t104.length Q09 : Value).ownBlock ∧ k_ ≠ Q07) (.slice (some ad117) t107.length Q0a) t107) := ⟨h4_⟩
                  have n5_ : Aside0 (w77.heap[Q03]? = some (.cells #[.slice A0_0 l0_0.length c0_0, .slice (some ad119) l0_1.length c0_1, .slice A0_2 l0_2.length c0_2, .slice (some ad120) l0_3.length c0_3, .slice A0_4 l0_4.length c0_4, .slice A0_5 l0_5.length c0_5, .slice A0_6 l0_6.length c0_6, .slice A0_7 l0_7.length c0_7, .slice A0_8 l0_8.length c0_8, .slice A0_9 l0_9.length c0_9] 29 (0, 0))) := ⟨h5_⟩
                  have n6_ : Aside0 (w77.heap[Q0b]? = some (.cells #[.slice none 0 0, .slice none 0 0, .slice none 0 0, .slice none 0 0] 81 (0, 0))) := ⟨h6_⟩
                  have n7_ : Aside0 (w77.heap[Q04]? = some (.cells #[.slice Q0d t104.length Q09, .slice (some ad117) t107.length Q0a, u111002, u111003] 81 (0, 0))) := ⟨h7_⟩
                  have n8_ : Aside0 (w77.heap[Q07]? = some (.cells #[.int .i64 ((rd_T79 t107 x69_3).f0), .int .i64 ((rd_T79 t107 x69_3).f1)] 79 (0, 0))) := ⟨h8_⟩
                  have n9_ : Aside0 (w77.heap[Q05]? = some (.cells #[.int .i64 0, .int .i64 0, .int .i64 0] 94 (0, 0))) := ⟨h9_⟩
                  have n10_ : Aside0 (w77.heap[Q06]? = some (.cells #[.int .i64 0, .int .i64 0, .int .i64 0] 94 (0, 0))) := ⟨h10_⟩
                  have n11_ : Aside0 (w.heap.size ≤ Q05) := ⟨h11_⟩
                  have n12_ : Aside0 (w.heap.size ≤ Q05) := ⟨h12_⟩
                  have n13_ : Aside0 (Q03 ≠ Q05) := ⟨h13_⟩
                  have n14_ : Aside0 (Q05 ≠ Q03) := ⟨h14_⟩
                  have n15_ : Aside0 (Q0b ≠ Q05) := ⟨h15_⟩
                  have n16_ : Aside0 (Q05 ≠ Q0b) := ⟨h16_⟩
                  have n17_ : Aside0 (Q04 ≠ Q05) := ⟨h17_⟩
                  have n18_ : Aside0 (Q05 ≠ Q04) := ⟨h18_⟩
                  have n19_ : Aside0 (Q07 ≠ Q05) := ⟨h19_⟩
                  have n20_ : Aside0 (Q05 ≠ Q07) := ⟨h20_⟩
                  have n21_ : Aside0 (Q06 ≠ Q05) := ⟨h21_⟩
                  have n22_ : Aside0 (Q05 ≠ Q06) := ⟨h22_⟩
                  have n23_ : Aside0 (w.heap.size ≤ Q06) := ⟨h23_⟩
                  have n24_ : Aside0 (w.heap.size ≤ Q06) := ⟨h24_⟩
                  have n25_ : Aside0 (Q03 ≠ Q06) := ⟨h25_⟩
                  have n26_ : Aside0 (Q06 ≠ Q03) := ⟨h26_⟩
                  have n27_ : Aside0 (Q0b ≠ Q06) := ⟨h27_⟩
                  have n28_ : Aside0 (Q06 ≠ Q0b) := ⟨h28_⟩
                  have n29_ : Aside0 (Q04 ≠ Q06) := ⟨h29_⟩
                  have n30_ : Aside0 (Q06 ≠ Q04) := ⟨h30_⟩
                  have n31_ : Aside0 (Q07 ≠ Q06) := ⟨h31_⟩
                  have n32_ : Aside0 (Q06 ≠ Q07) := ⟨h32_⟩
                  have n33_ : Aside0 (Below w.heap.size w w77) := ⟨h33_⟩
                  clear Q0o
                  clear Q0e
                  clear Q0g
                  clear Q0f
                  clear Q0j
                  clear Q00
                  clear Q02
                  clear Q01
                  clear Q0c
                  clear HB
                  clear h0_ h1_ h2_ h3_ h4_ h5_ h6_ h7_ h8_ h9_ h10_ h11_ h12_ h13_ h14_ h15_ h16_ h17_ h18_ h19_ h20_ h21_ h22_ h23_ h24_ h25_ h26_ h27_ h28_ h29_ h30_ h31_ h32_ h33_
                  have Q0e := n0_
                  have Q0g := n1_
                  have Q0f := n2_
                  have Q0j := n3_
                  have Q0o := n4_
                  have Q00 := n5_
                  have Q02 := n6_
                  have Q01 := n7_
                  have Q0c := n8_
                  have Q0h := n9_
                  have Q0i := n10_
                  have Q0r := n11_
                  have Q1y := n12_
                  have Q0l := n13_
                  have Q1a := n14_
                  have Q14 := n15_
                  have Q1b := n16_
                  have Q12 := n17_
                  have Q18 := n18_
                  have Q0w := n19_
                  have Q1c := n20_
                  have Q10 := n21_
                  have Q0z := n22_
                  have Q0s := n23_
                  have Q1z := n24_
                  have Q0m := n25_
                  have Q1d := n26_
                  have Q15 := n27_
                  have Q1e := n28_
                  have Q13 := n29_
                  have Q19 := n30_
                  have Q0x := n31_
                  have Q1f := n32_
                  have HB := n33_
                  clear n0_ n1_ n2_ n3_ n4_ n5_ n6_ n7_ n8_ n9_ n10_ n11_ n12_ n13_ n14_ n15_ n16_ n17_ n18_ n19_ n20_ n21_ n22_ n23_ n24_ n25_ n26_ n27_ n28_ n29_ n30_ n31_ n32_ n33_
                  have hHeld : w77.cell? ⟨Q03, 0, none⟩ = some (.slice A0_0 l0_0.length c0_0) ∧ w77.cell? ⟨Q03, 1, none⟩ = some (.slice (some ad119) l0_1.length c0_1) ∧ w77.cell? ⟨Q03, 2, none⟩ = some (.slice A0_2 l0_2.length c0_2) ∧ w77.cell? ⟨Q03, 3, none⟩ = some (.slice (some ad120) l0_3.length c0_3) ∧ w77.cell? ⟨Q03, 4, none⟩ = some (.slice A0_4 l0_4.length c0_4) ∧ w77.cell? ⟨Q03, 5, none⟩ = some (.slice A0_5 l0_5.length c0_5) ∧ w77.cell? ⟨Q03, 6, none⟩ = some (.slice A0_6 l0_6.length c0_6) ∧ w77.cell? ⟨Q03, 7, none⟩ = some (.slice A0_7 l0_7.length c0_7) ∧ w77.cell? ⟨Q03, 8, none⟩ = some (.slice A0_8 l0_8.length c0_8) ∧ w77.cell? ⟨Q03, 9, none⟩ = some (.slice A0_9 l0_9.length c0_9) ∧ w77.cell? ⟨Q07, 0, none⟩ = some (.int .i64 ((rd_T79 t107 x69_3).f0)) ∧ w77.cell? ⟨Q07, 1, none⟩ = some (.int .i64 ((rd_T79 t107 x69_3).f1)) ∧ w77.cell? (ad119.add ((((rd_T79 t107 x69_3).f0)).toNat * 3)) = some (.int .i64 ((rd_T94 l0_1 ((rd_T79 t107 x69_3).f0)).f0)) ∧ w77.cell? ⟨(ad119.add ((((rd_T79 t107 x69_3).f0)).toNat * 3)).block, (ad119.add ((((rd_T79 t107 x69_3).f0)).toNat * 3)).off + 1, none⟩ = some (.int .i64 ((rd_T94 l0_1 ((rd_T79 t107 x69_3).f0)).f1)) ∧ w77.cell? ⟨(ad119.add ((((rd_T79 t107 x69_3).f0)).toNat * 3)).block, (ad119.add ((((rd_T79 t107 x69_3).f0)).toNat * 3)).off + 2, none⟩ = some (.int .i64 ((rd_T94 l0_1 ((rd_T79 t107 x69_3).f0)).f2)) ∧ w77.cell? (ad120.add ((((rd_T79 t107 x69_3).f1)).toNat * 3)) = some (.int .i64 ((rd_T94 l0_3 ((rd_T79 t107 x69_3).f1)).f0)) ∧ w77.cell? ⟨(ad120.add ((((rd_T79 t107 x69_3).f1)).toNat * 3)).block, (ad120.add ((((rd_T79 t107 x69_3).f1)).toNat * 3)).off + 1, none⟩ = some (.int .i64 ((rd_T94 l0_3 ((rd_T79 t107 x69_3).f1)).f1)) ∧ w77.cell? ⟨(ad120.add ((((rd_T79 t107 x69_3).f1)).toNat * 3)).block, (ad120.add ((((rd_T79 t107 x69_3).f1)).toNat * 3)).off + 2, none⟩ = some (.int .i64 ((rd_T94 l0_3 ((rd_T79 t107 x69_3).f1)).f2)) := hS_
                  refine norm_ (a' := ?_) ?_ ?_
                  rotate_left
                  ·simp only [putAll, Act.put, List.setIfInBounds_toArray, List.set_cons_zero, List.set_cons_succ]
                   rfl
                  refine one_ (i := 16) (N := none) #[true, true, true, true, true, true, true, true, true, true, true, true, true, true, true, true, true, false] rfl rfl (one_of HT_.out (by kernel_rfl)) (by decide) (fun K hK => ?_)
                  have Q6j : w77.cell? ⟨Q05, 0, none⟩ = some (.int .i64 0) := bC Q0h 0
                  have Q6k := blk_frozen Q0h.out 0
                  have Q6l := Q0l.out
                  have Q6m := Q14.out
                  have Q6n := Q12.out
                  have Q6o := Q0w.out
                  have Q6p := Q10.out
                  have Q6q := Q1a.out
                  have Q6r := Q1b.out
                  have Q6s := Q18.out
                  have Q6t := Q1c.out
                  have Q6u := Q0z.out
                  have Q6v : w77.cell? ⟨Q05, 1, none⟩ = some (.int .i64 0) := bC Q0h 1
                  have Q6w := blk_frozen Q0h.out 1
                  have Q6x := Q0l.out
                  have Q6y := Q14.out
                  have Q6z := Q12.out
                  have Q70 := Q0w.out
                  have Q71 := Q10.out
                  have Q72 := Q1a.out
                  have Q73 := Q1b.out
                  have Q74 := Q18.out
                  have Q75 := Q1c.out
                  have Q76 := Q0z.out
                  have Q77 : w77.cell? ⟨Q05, 2, none⟩ = some (.int .i64 0) := bC Q0h 2
                  have Q78 := blk_frozen Q0h.out 2
                  have Q79 := Q0l.out
                  have Q7a := Q14.out
                  have Q7b := Q12.out
                  have Q7c := Q0w.out
                  have Q7d := Q10.out
                  have Q7e := Q1a.out
                  have Q7f := Q1b.out
                  have Q7g := Q18.out
                  have Q7h := Q1c.out
                  have Q7i := Q0z.out
                  refine skip_ (w1 := ?_) (by rfl) rfl ?_ ?_
                  rotate_left
                  ·go_simp
                   rfl
                  refine hK.out _ _ ⟨(cG Q0l.out (cG Q0l.out (cG Q0l.out hHeld.1))), (cG Q0l.out (cG Q0l.out (cG Q0l.out hHeld.2.1))), (cG Q0l.out (cG Q0l.out (cG Q0l.out hHeld.2.2.1))), (cG Q0l.out (cG Q0l.out (cG Q0l.out hHeld.2.2.2.1))), (cG Q0l.out (cG Q0l.out (cG Q0l.out hHeld.2.2.2.2.1))), (cG Q0l.out (cG Q0l.out (cG Q0l.out hHeld.2.2.2.2.2.1))), (cG Q0l.out (cG Q0l.out (cG Q0l.out hHeld.2.2.2.2.2.2.1))), (cG Q0l.out (cG Q0l.out (cG Q0l.out hHeld.2.2.2.2.2.2.2.1))), (cG Q0l.out (cG Q0l.out (cG Q0l.out hHeld.2.2.2.2.2.2.2.2.1))), (cG Q0l.out (cG Q0l.out (cG Q0l.out hHeld.2.2.2.2.2.2.2.2.2.1))), (cG Q0w.out (cG Q0w.out (cG Q0w.out hHeld.2.2.2.2.2.2.2.2.2.2.1))), (cG Q0w.out (cG Q0w.out (cG Q0w.out hHeld.2.2.2.2.2.2.2.2.2.2.2.1))), (cG (aB (bL hw119_0 Q0r.out)) (cG (aB (bL hw119_0 Q0r.out)) (cG (aB (bL hw119_0 Q0r.out)) hHeld.2.2.2.2.2.2.2.2.2.2.2.2.1))), (cG (aB (bL hw119_1 Q0r.out)) (cG (aB (bL hw119_1 Q0r.out)) (cG (aB (bL hw119_1 Q0r.out)) hHeld.2.2.2.2.2.2.2.2.2.2.2.2.2.1))), (cG (aB (bL hw119_2 Q0r.out)) (cG (aB (bL hw119_2 Q0r.out)) (cG (aB (bL hw119_2 Q0r.out)) hHeld.2.2.2.2.2.2.2.2.2.2.2.2.2.2.1))), (cG (aB (bL hw120_0 Q0r.out)) (cG (aB (bL hw120_0 Q0r.out)) (cG (aB (bL hw120_0 Q0r.out)) hHeld.2.2.2.2.2.2.2.2.2.2.2.2.2.2.2.1))), (cG (aB (bL hw120_1 Q0r.out)) (cG (aB (bL hw120_1 Q0r.out)) (cG (aB (bL hw120_1 Q0r.out)) hHeld.2.2.2.2.2.2.2.2.2.2.2.2.2.2.2.2.1))), (cG (aB (bL hw120_2 Q0r.out)) (cG (aB (bL hw120_2 Q0r.out)) (cG (aB (bL hw120_2 Q0r.out)) hHeld.2.2.2.2.2.2.2.2.2.2.2.2.2.2.2.2.2)))⟩ (fun hHeld => ?_)
                  clear hK K
                  refine one_ (i := 17) (N := none) #[true, true, true, true, true, true, true, true, true, true, true, true, true, true, true, true, true, true] rfl rfl (one_of HT_.out (by kernel_rfl)) (by decide) (fun K hK => ?_)
                  have Q7j : w77.cell? ⟨Q06, 0, none⟩ = some (.int .i64 0) := bC Q0i 0
                  have Q7k := blk_frozen Q0i.out 0
                  have Q7l := Q0m.out
                  have Q7m := Q15.out
                  have Q7n := Q13.out
                  have Q7o := Q0x.out
                  have Q7p := Q0z.out
                  have Q7q := Q1d.out
                  have Q7r := Q1e.out
                  have Q7s := Q19.out
                  have Q7t := Q1f.out
                  have Q7u := Q10.out
                  have Q7v : w77.cell? ⟨Q06, 1, none⟩ = some (.int .i64 0) := bC Q0i 1
                  have Q7w := blk_frozen Q0i.out 1
                  have Q7x := Q0m.out
                  have Q7y := Q15.out
                  have Q7z := Q13.out
                  have Q80 := Q0x.out
                  have Q81 := Q0z.out
                  have Q82 := Q1d.out
                  have Q83 := Q1e.out
                  have Q84 := Q19.out
                  have Q85 := Q1f.out
                  have Q86 := Q10.out
                  have Q87 : w77.cell? ⟨Q06, 2, none⟩ = some (.int .i64 0) := bC Q0i 2
                  have Q88 := blk_frozen Q0i.out 2
                  have Q89 := Q0m.out
                  have Q8a := Q15.out
                  have Q8b := Q13.out
                  have Q8c := Q0x.out
                  have Q8d := Q0z.out
                  have Q8e := Q1d.out
                  have Q8f := Q1e.out
                  have Q8g := Q19.out
                  have Q8h := Q1f.out
                  have Q8i := Q10.out
                  refine skip_ (w1 := ?_) (by rfl) rfl ?_ ?_
                  rotate_left
                  ·go_simp
                   rfl
                  refine hK.out _ _ ⟨(cG Q0m.out (cG Q0m.out (cG Q0m.out hHeld.1))), (cG Q0m.out (cG Q0m.out (cG Q0m.out hHeld.2.1))), (cG Q0m.out (cG Q0m.out (cG Q0m.out hHeld.2.2.1))), (cG Q0m.out (cG Q0m.out (cG Q0m.out hHeld.2.2.2.1))), (cG Q0m.out (cG Q0m.out (cG Q0m.out hHeld.2.2.2.2.1))), (cG Q0m.out (cG Q0m.out (cG Q0m.out hHeld.2.2.2.2.2.1))), (cG Q0m.out (cG Q0m.out (cG Q0m.out hHeld.2.2.2.2.2.2.1))), (cG Q0m.out (cG Q0m.out (cG Q0m.out hHeld.2.2.2.2.2.2.2.1))), (cG Q0m.out (cG Q0m.out (cG Q0m.out hHeld.2.2.2.2.2.2.2.2.1))), (cG Q0m.out (cG Q0m.out (cG Q0m.out hHeld.2.2.2.2.2.2.2.2.2.1))), (cG Q0x.out (cG Q0x.out (cG Q0x.out hHeld.2.2.2.2.2.2.2.2.2.2.1))), (cG Q0x.out (cG Q0x.out (cG Q0x.out hHeld.2.2.2.2.2.2.2.2.2.2.2.1))), (cG (aB (bL hw119_0 Q0s.out)) (cG (aB (bL hw119_0 Q0s.out)) (cG (aB (bL hw119_0 Q0s.out)) hHeld.2.2.2.2.2.2.2.2.2.2.2.2.1))), (cG (aB (bL hw119_1 Q0s.out)) (cG (aB (bL hw119_1 Q0s.out)) (cG (aB (bL hw119_1 Q0s.out)) hHeld.2.2.2.2.2.2.2.2.2.2.2.2.2.1))), (cG (aB (bL hw119_2 Q0s.out)) (cG (aB (bL hw119_2 Q0s.out)) (cG (aB (bL hw119_2 Q0s.out)) hHeld.2.2.2.2.2.2.2.2.2.2.2.2.2.2.1))), (cG (aB (bL hw120_0 Q0s.out)) (cG (aB (bL hw120_0 Q0s.out)) (cG (aB (bL hw120_0 Q0s.out)) hHeld.2.2.2.2.2.2.2.2.2.2.2.2.2.2.2.1))), (cG (aB (bL hw120_1 Q0s.out)) (cG (aB (bL hw120_1 Q0s.out)) (cG (aB (bL hw120_1 Q0s.out)) hHeld.2.2.2.2.2.2.2.2.2.2.2.2.2.2.2.2.1))), (cG (aB (bL hw120_2 Q0s.out)) (cG (aB (bL hw120_2 Q0s.out)) (cG (aB (bL hw120_2 Q0s.out)) hHeld.2.2.2.2.2.2.2.2.2.2.2.2.2.2.2.2.2)))⟩ (fun hHeld => ?_)
                  clear hK K
                  refine done_ (done_of HT_.out (by kernel_rfl)) ?_
                  try go_wp2
                  have n0_ : Aside0 (Kd.R k79 79 ((((((w77.setCell ⟨Q05, 0, none⟩ (.int .i64 ((rd_T94 l0_1 ((rd_T79 t107 x69_3).f0)).f0))).setCell ⟨Q05, 1, none⟩ (.int .i64 ((rd_T94 l0_1 ((rd_T79 t107 x69_3).f0)).f1))).setCell ⟨Q05, 2, none⟩ (.int .i64 ((rd_T94 l0_1 ((rd_T79 t107 x69_3).f0)).f2))).setCell ⟨Q06, 0, none⟩ (.int .i64 ((rd_T94 l0_3 ((rd_T79 t107 x69_3).f1)).f0))).setCell ⟨Q06, 1, none⟩ (.int .i64 ((rd_T94 l0_3 ((rd_T79 t107 x69_3).f1)).f1))).setCell ⟨Q06, 2, none⟩ (.int .i64 ((rd_T94 l0_3 ((rd_T79 t107 x69_3).f1)).f2))) w.heap.size (fun k_ => some k_ ≠ (.slice Q0d t104.length Q09 : Value).ownBlock ∧ k_ ≠ Q07) (.slice (some ad117) t107.length Q0a) t107) := ⟨by (with_reducible repeat (first | apply rA | apply rN | apply rD)); exact Kd.R_mono (Kd.R_far (p := ⟨Q06, 2, none⟩) (Kd.R_far (p := ⟨Q06, 1, none⟩) (Kd.R_far (p := ⟨Q06, 0, none⟩) (Kd.R_far (p := ⟨Q05, 2, none⟩) (Kd.R_far (p := ⟨Q05, 1, none⟩) (Kd.R_far (p := ⟨Q05, 0, none⟩) (Kd.R_types (Kd.R_types Q0o.out Q0h.out (by decide)) Q0i.out (by decide)) (fun _ hk => hk.1.2) (.int .i64 ((rd_T94 l0_1 ((rd_T79 t107 x69_3).f0)).f0))) (fun _ hk => hk.1.2) (.int .i64 ((rd_T94 l0_1 ((rd_T79 t107 x69_3).f0)).f1))) (fun _ hk => hk.1.2) (.int .i64 ((rd_T94 l0_1 ((rd_T79 t107 x69_3).f0)).f2))) (fun _ hk => hk.2) (.int .i64 ((rd_T94 l0_3 ((rd_T79 t107 x69_3).f1)).f0))) (fun _ hk => hk.2) (.int .i64 ((rd_T94 l0_3 ((rd_T79 t107 x69_3).f1)).f1))) (fun _ hk => hk.2) (.int .i64 ((rd_T94 l0_3 ((rd_T79 t107 x69_3).f1)).f2))) (fun _ hk => ⟨hk.1.1.1, hk.1.1.2⟩)⟩
                  have n1_ : Aside0 (Kd.R k79 79 ((((((w77.setCell ⟨Q05, 0, none⟩ (.int .i64 ((rd_T94 l0_1 ((rd_T79 t107 x69_3).f0)).f0))).setCell ⟨Q05, 1, none⟩ (.int .i64 ((rd_T94 l0_1 ((rd_T79 t107 x69_3).f0)).f1))).setCell ⟨Q05, 2, none⟩ (.int .i64 ((rd_T94 l0_1 ((rd_T79 t107 x69_3).f0)).f2))).setCell ⟨Q06, 0, none⟩ (.int .i64 ((rd_T94 l0_3 ((rd_T79 t107 x69_3).f1)).f0))).setCell ⟨Q06, 1, none⟩ (.int .i64 ((rd_T94 l0_3 ((rd_T79 t107 x69_3).f1)).f1))).setCell ⟨Q06, 2, none⟩ (.int .i64 ((rd_T94 l0_3 ((rd_T79 t107 x69_3).f1)).f2))) w.heap.size (fun k_ => some k_ ≠ (.slice (some ad117) t107.length Q0a : Value).ownBlock ∧ some k_ ≠ (.slice (some ad117) t107.length Q0a : Value).ownBlock ∧ k_ ≠ Q07) (.slice Q0d t104.length Q09) t104) := ⟨by (with_reducible repeat (first | apply rA | apply rN | apply rD)); exact Kd.R_mono (Kd.R_far (p := ⟨Q06, 2, none⟩) (Kd.R_far (p := ⟨Q06, 1, none⟩) (Kd.R_far (p := ⟨Q06, 0, none⟩) (Kd.R_far (p := ⟨Q05, 2, none⟩) (Kd.R_far (p := ⟨Q05, 1, none⟩) (Kd.R_far (p := ⟨Q05, 0, none⟩) (Kd.R_types (Kd.R_types Q0e.out Q0h.out (by decide)) Q0i.out (by decide)) (fun _ hk => hk.1.2) (.int .i64 ((rd_T94 l0_1 ((rd_T79 t107 x69_3).f0)).f0))) (fun _ hk => hk.1.2) (.int .i64 ((rd_T94 l0_1 ((rd_T79 t107 x69_3).f0)).f1))) (fun _ hk => hk.1.2) (.int .i64 ((rd_T94 l0_1 ((rd_T79 t107 x69_3).f0)).f2))) (fun _ hk => hk.2) (.int .i64 ((rd_T94 l0_3 ((rd_T79 t107 x69_3).f1)).f0))) (fun _ hk => hk.2) (.int .i64 ((rd_T94 l0_3 ((rd_T79 t107 x69_3).f1)).f1))) (fun _ hk => hk.2) (.int .i64 ((rd_T94 l0_3 ((rd_T79 t107 x69_3).f1)).f2))) (fun _ hk => ⟨hk.1.1.2.1, ⟨hk.1.1.1, hk.1.1.2.2⟩⟩)⟩
                  have n2_ : Aside0 (Kd.R k79 79 ((((((w77.setCell ⟨Q05, 0, none⟩ (.int .i64 ((rd_T94 l0_1 ((rd_T79 t107 x69_3).f0)).f0))).setCell ⟨Q05, 1, none⟩ (.int .i64 ((rd_T94 l0_1 ((rd_T79 t107 x69_3).f0)).f1))).setCell ⟨Q05, 2, none⟩ (.int .i64 ((rd_T94 l0_1 ((rd_T79 t107 x69_3).f0)).f2))).setCell ⟨Q06, 0, none⟩ (.int .i64 ((rd_T94 l0_3 ((rd_T79 t107 x69_3).f1)).f0))).setCell ⟨Q06, 1, none⟩ (.int .i64 ((rd_T94 l0_3 ((rd_T79 t107 x69_3).f1)).f1))).setCell ⟨Q06, 2, none⟩ (.int .i64 ((rd_T94 l0_3 ((rd_T79 t107 x69_3).f1)).f2))) w.heap.size (fun k_ => some k_ ≠ (.slice Q0d t104.length Q09 : Value).ownBlock ∧ k_ ≠ Q07) (.slice (some ad117) t107.length Q0a) t107) := ⟨by (with_reducible repeat (first | apply rA | apply rN | apply rD)); exact Kd.R_mono (Kd.R_far (p := ⟨Q06, 2, none⟩) (Kd.R_far (p := ⟨Q06, 1, none⟩) (Kd.R_far (p := ⟨Q06, 0, none⟩) (Kd.R_far (p := ⟨Q05, 2, none⟩) (Kd.R_far (p := ⟨Q05, 1, none⟩) (Kd.R_far (p := ⟨Q05, 0, none⟩) (Kd.R_types (Kd.R_types Q0g.out Q0h.out (by decide)) Q0i.out (by decide)) (fun _ hk => hk.1.2) (.int .i64 ((rd_T94 l0_1 ((rd_T79 t107 x69_3).f0)).f0))) (fun _ hk => hk.1.2) (.int .i64 ((rd_T94 l0_1 ((rd_T79 t107 x69_3).f0)).f1))) (fun _ hk => hk.1.2) (.int .i64 ((rd_T94 l0_1 ((rd_T79 t107 x69_3).f0)).f2))) (fun _ hk => hk.2) (.int .i64 ((rd_T94 l0_3 ((rd_T79 t107 x69_3).f1)).f0))) (fun _ hk => hk.2) (.int .i64 ((rd_T94 l0_3 ((rd_T79 t107 x69_3).f1)).f1))) (fun _ hk => hk.2) (.int .i64 ((rd_T94 l0_3 ((rd_T79 t107 x69_3).f1)).f2))) (fun _ hk => ⟨hk.1.1.1, hk.1.1.2⟩)⟩
                  have n3_ : Aside0 (Kd.R (Kd.int .i64) 3 ((((((w77.setCell ⟨Q05, 0, none⟩ (.int .i64 ((rd_T94 l0_1 ((rd_T79 t107 x69_3).f0)).f0))).setCell ⟨Q05, 1, none⟩ (.int .i64 ((rd_T94 l0_1 ((rd_T79 t107 x69_3).f0)).f1))).setCell ⟨Q05, 2, none⟩ (.int .i64 ((rd_T94 l0_1 ((rd_T79 t107 x69_3).f0)).f2))).setCell ⟨Q06, 0, none⟩ (.int .i64 ((rd_T94 l0_3 ((rd_T79 t107 x69_3).f1)).f0))).setCell ⟨Q06, 1, none⟩ (.int .i64 ((rd_T94 l0_3 ((rd_T79 t107 x69_3).f1)).f1))).setCell ⟨Q06, 2, none⟩ (.int .i64 ((rd_T94 l0_3 ((rd_T79 t107 x69_3).f1)).f2))) w.heap.size (fun _ => True) u111002 x111002_2) := ⟨by (with_reducible repeat (first | apply rA | apply rN | apply rD)); exact Kd.R_mono (Kd.R_far (p := ⟨Q06, 2, none⟩) (Kd.R_far (p := ⟨Q06, 1, none⟩) (Kd.R_far (p := ⟨Q06, 0, none⟩) (Kd.R_far (p := ⟨Q05, 2, none⟩) (Kd.R_far (p := ⟨Q05, 1, none⟩) (Kd.R_far (p := ⟨Q05, 0, none⟩) (Kd.R_types (Kd.R_types Q0f.out Q0h.out (by decide)) Q0i.out (by decide)) (fun _ hk => hk.1.2) (.int .i64 ((rd_T94 l0_1 ((rd_T79 t107 x69_3).f0)).f0))) (fun _ hk => hk.1.2) (.int .i64 ((rd_T94 l0_1 ((rd_T79 t107 x69_3).f0)).f1))) (fun _ hk => hk.1.2) (.int .i64 ((rd_T94 l0_1 ((rd_T79 t107 x69_3).f0)).f2))) (fun _ hk => hk.2) (.int .i64 ((rd_T94 l0_3 ((rd_T79 t107 x69_3).f1)).f0))) (fun _ hk => hk.2) (.int .i64 ((rd_T94 l0_3 ((rd_T79 t107 x69_3).f1)).f1))) (fun _ hk => hk.2) (.int .i64 ((rd_T94 l0_3 ((rd_T79 t107 x69_3).f1)).f2))) (fun _ hk => trivial)⟩
                  have n4_ : Aside0 (Kd.R k94 94 ((((((w77.setCell ⟨Q05, 0, none⟩ (.int .i64 ((rd_T94 l0_1 ((rd_T79 t107 x69_3).f0)).f0))).setCell ⟨Q05, 1, none⟩ (.int .i64 ((rd_T94 l0_1 ((rd_T79 t107 x69_3).f0)).f1))).setCell ⟨Q05, 2, none⟩ (.int .i64 ((rd_T94 l0_1 ((rd_T79 t107 x69_3).f0)).f2))).setCell ⟨Q06, 0, none⟩ (.int .i64 ((rd_T94 l0_3 ((rd_T79 t107 x69_3).f1)).f0))).setCell ⟨Q06, 1, none⟩ (.int .i64 ((rd_T94 l0_3 ((rd_T79 t107 x69_3).f1)).f1))).setCell ⟨Q06, 2, none⟩ (.int .i64 ((rd_T94 l0_3 ((rd_T79 t107 x69_3).f1)).f2))) w.heap.size (fun k_ => k_ ≠ Q05 ∧ k_ ≠ Q06) u111003 x111003_3) := ⟨by (with_reducible repeat (first | apply rA | apply rN | apply rD)); exact Kd.R_mono (Kd.R_far (p := ⟨Q06, 2, none⟩) (Kd.R_far (p := ⟨Q06, 1, none⟩) (Kd.R_far (p := ⟨Q06, 0, none⟩) (Kd.R_far (p := ⟨Q05, 2, none⟩) (Kd.R_far (p := ⟨Q05, 1, none⟩) (Kd.R_far (p := ⟨Q05, 0, none⟩) (Kd.R_mono (Kd.R_mono Q0j.out (fun k_ hk => (⟨hk, hk.1⟩ : _ ∧ k_ ≠ Q05))) (fun k_ hk => (⟨hk, hk.1.2⟩ : _ ∧ k_ ≠ Q06))) (fun _ hk => hk.1.2) (.int .i64 ((rd_T94 l0_1 ((rd_T79 t107 x69_3).f0)).f0))) (fun _ hk => hk.1.2) (.int .i64 ((rd_T94 l0_1 ((rd_T79 t107 x69_3).f0)).f1))) (fun _ hk => hk.1.2) (.int .i64 ((rd_T94 l0_1 ((rd_T79 t107 x69_3).f0)).f2))) (fun _ hk => hk.2) (.int .i64 ((rd_T94 l0_3 ((rd_T79 t107 x69_3).f1)).f0))) (fun _ hk => hk.2) (.int .i64 ((rd_T94 l0_3 ((rd_T79 t107 x69_3).f1)).f1))) (fun _ hk => hk.2) (.int .i64 ((rd_T94 l0_3 ((rd_T79 t107 x69_3).f1)).f2))) (fun _ hk => ⟨hk.1.1.1, hk.1.1.2⟩)⟩
                  have n5_ : Aside0 (((((((w77.setCell ⟨Q05, 0, none⟩ (.int .i64 ((rd_T94 l0_1 ((rd_T79 t107 x69_3).f0)).f0))).setCell ⟨Q05, 1, none⟩ (.int .i64 ((rd_T94 l0_1 ((rd_T79 t107 x69_3).f0)).f1))).setCell ⟨Q05, 2, none⟩ (.int .i64 ((rd_T94 l0_1 ((rd_T79 t107 x69_3).f0)).f2))).setCell ⟨Q06, 0, none⟩ (.int .i64 ((rd_T94 l0_3 ((rd_T79 t107 x69_3).f1)).f0))).setCell ⟨Q06, 1, none⟩ (.int .i64 ((rd_T94 l0_3 ((rd_T79 t107 x69_3).f1)).f1))).setCell ⟨Q06, 2, none⟩ (.int .i64 ((rd_T94 l0_3 ((rd_T79 t107 x69_3).f1)).f2))).heap[Q03]? = some (.cells #[.slice A0_0 l0_0.length c0_0, .slice (some ad119) l0_1.length c0_1, .slice A0_2 l0_2.length c0_2, .slice (some ad120) l0_3.length c0_3, .slice A0_4 l0_4.length c0_4, .slice A0_5 l0_5.length c0_5, .slice A0_6 l0_6.length c0_6, .slice A0_7 l0_7.length c0_7, .slice A0_8 l0_8.length c0_8, .slice A0_9 l0_9.length c0_9] 29 (0, 0))) := ⟨by (with_reducible repeat (first | refine bN ?_ _ | refine bD ?_ | refine bA ?_ _)); refine blk_far ?_ Q0m.out _; (with_reducible repeat (first | refine bN ?_ _ | refine bD ?_ | refine bA ?_ _)); refine blk_far ?_ Q0m.out _; (with_reducible repeat (first | refine bN ?_ _ | refine bD ?_ | refine bA ?_ _)); refine blk_far ?_ Q0m.out _; (with_reducible repeat (first | refine bN ?_ _ | refine bD ?_ | refine bA ?_ _)); refine blk_far ?_ Q0l.out _; (with_reducible repeat (first | refine bN ?_ _ | refine bD ?_ | refine bA ?_ _)); refine blk_far ?_ Q0l.out _; (with_reducible repeat (first | refine bN ?_ _ | refine bD ?_ | refine bA ?_ _)); refine blk_far ?_ Q0l.out _; (with_reducible repeat (first | refine bN ?_ _ | refine bD ?_ | refine bA ?_ _)); exact Q00.out⟩
                  have n6_ : Aside0 (((((((w77.setCell ⟨Q05, 0, none⟩ (.int .i64 ((rd_T94 l0_1 ((rd_T79 t107 x69_3).f0)).f0))).setCell ⟨Q05, 1, none⟩ (.int .i64 ((rd_T94 l0_1 ((rd_T79 t107 x69_3).f0)).f1))).setCell ⟨Q05, 2, none⟩ (.int .i64 ((rd_T94 l0_1 ((rd_T79 t107 x69_3).f0)).f2))).setCell ⟨Q06, 0, none⟩ (.int .i64 ((rd_T94 l0_3 ((rd_T79 t107 x69_3).f1)).f0))).setCell ⟨Q06, 1, none⟩ (.int .i64 ((rd_T94 l0_3 ((rd_T79 t107 x69_3).f1)).f1))).setCell ⟨Q06, 2, none⟩ (.int .i64 ((rd_T94 l0_3 ((rd_T79 t107 x69_3).f1)).f2))).heap[Q0b]? = some (.cells #[.slice none 0 0, .slice none 0 0, .slice none 0 0, .slice none 0 0] 81 (0, 0))) := ⟨by (with_reducible repeat (first | refine bN ?_ _ | refine bD ?_ | refine bA ?_ _)); refine blk_far ?_ Q15.out _; (with_reducible repeat (first | refine bN ?_ _ | refine bD ?_ | refine bA ?_ _)); refine blk_far ?_ Q15.out _; (with_reducible repeat (first | refine bN ?_ _ | refine bD ?_ | refine bA ?_ _)); refine blk_far ?_ Q15.out _; (with_reducible repeat (first | refine bN ?_ _ | refine bD ?_ | refine bA ?_ _)); refine blk_far ?_ Q14.out _; (with_reducible repeat (first | refine bN ?_ _ | refine bD ?_ | refine bA ?_ _)); refine blk_far ?_ Q14.out _; (with_reducible repeat (first | refine bN ?_ _ | refine bD ?_ | refine bA ?_ _)); refine blk_far ?_ Q14.out _; (with_reducible repeat (first | refine bN ?_ _ | refine bD ?_ | refine bA ?_ _)); exact Q02.out⟩
                  have n7_ : Aside0 (((((((w77.setCell ⟨Q05, 0, none⟩ (.int .i64 ((rd_T94 l0_1 ((rd_T79 t107 x69_3).f0)).f0))).setCell ⟨Q05, 1, none⟩ (.int .i64 ((rd_T94 l0_1 ((rd_T79 t107 x69_3).f0)).f1))).setCell ⟨Q05, 2, none⟩ (.int .i64 ((rd_T94 l0_1 ((rd_T79 t107 x69_3).f0)).f2))).setCell ⟨Q06, 0, none⟩ (.int .i64 ((rd_T94 l0_3 ((rd_T79 t107 x69_3).f1)).f0))).setCell ⟨Q06, 1, none⟩ (.int .i64 ((rd_T94 l0_3 ((rd_T79 t107 x69_3).f1)).f1))).setCell ⟨Q06, 2, none⟩ (.int .i64 ((rd_T94 l0_3 ((rd_T79 t107 x69_3).f1)).f2))).heap[Q04]? = some (.cells #[.slice Q0d t104.length Q09, .slice (some ad117) t107.length Q0a, u111002, u111003] 81 (0, 0))) := ⟨by (with_reducible repeat (first | refine bN ?_ _ | refine bD ?_ | refine bA ?_ _)); refine blk_far ?_ Q13.out _; (with_reducible repeat (first | refine bN ?_ _ | refine bD ?_ | refine bA ?_ _)); refine blk_far ?_ Q13.out _; (with_reducible repeat (first | refine bN ?_ _ | refine bD ?_ | refine bA ?_ _)); refine blk_far ?_ Q13.out _; (with_reducible repeat (first | refine bN ?_ _ | refine bD ?_ | refine bA ?_ _)); refine blk_far ?_ Q12.out _; (with_reducible repeat (first | refine bN ?_ _ | refine bD ?_ | refine bA ?_ _)); refine blk_far ?_ Q12.out _; (with_reducible repeat (first | refine bN ?_ _ | refine bD ?_ | refine bA ?_ _)); refine blk_far ?_ Q12.out _; (with_reducible repeat (first | refine bN ?_ _ | refine bD ?_ | refine bA ?_ _)); exact Q01.out⟩
                  have n8_ : Aside0 (((((((w77.setCell ⟨Q05, 0, none⟩ (.int .i64 ((rd_T94 l0_1 ((rd_T79 t107 x69_3).f0)).f0))).setCell ⟨Q05, 1, none⟩ (.int .i64 ((rd_T94 l0_1 ((rd_T79 t107 x69_3).f0)).f1))).setCell ⟨Q05, 2, none⟩ (.int .i64 ((rd_T94 l0_1 ((rd_T79 t107 x69_3).f0)).f2))).setCell ⟨Q06, 0, none⟩ (.int .i64 ((rd_T94 l0_3 ((rd_T79 t107 x69_3).f1)).f0))).setCell ⟨Q06, 1, none⟩ (.int .i64 ((rd_T94 l0_3 ((rd_T79 t107 x69_3).f1)).f1))).setCell ⟨Q06, 2, none⟩ (.int .i64 ((rd_T94 l0_3 ((rd_T79 t107 x69_3).f1)).f2))).heap[Q07]? = some (.cells #[.int .i64 ((rd_T79 t107 x69_3).f0), .int .i64 ((rd_T79 t107 x69_3).f1)] 79 (0, 0))) := ⟨by (with_reducible repeat (first | refine bN ?_ _ | refine bD ?_ | refine bA ?_ _)); refine blk_far ?_ Q0x.out _; (with_reducible repeat (first | refine bN ?_ _ | refine bD ?_ | refine bA ?_ _)); refine blk_far ?_ Q0x.out _; (with_reducible repeat (first | refine bN ?_ _ | refine bD ?_ | refine bA ?_ _)); refine blk_far ?_ Q0x.out _; (with_reducible repeat (first | refine bN ?_ _ | refine bD ?_ | refine bA ?_ _)); refine blk_far ?_ Q0w.out _; (with_reducible repeat (first | refine bN ?_ _ | refine bD ?_ | refine bA ?_ _)); refine blk_far ?_ Q0w.out _; (with_reducible repeat (first | refine bN ?_ _ | refine bD ?_ | refine bA ?_ _)); refine blk_far ?_ Q0w.out _; (with_reducible repeat (first | refine bN ?_ _ | refine bD ?_ | refine bA ?_ _)); exact Q0c.out⟩
                  have n9_ : Aside0 (((((((w77.setCell ⟨Q05, 0, none⟩ (.int .i64 ((rd_T94 l0_1 ((rd_T79 t107 x69_3).f0)).f0))).setCell ⟨Q05, 1, none⟩ (.int .i64 ((rd_T94 l0_1 ((rd_T79 t107 x69_3).f0)).f1))).setCell ⟨Q05, 2, none⟩ (.int .i64 ((rd_T94 l0_1 ((rd_T79 t107 x69_3).f0)).f2))).setCell ⟨Q06, 0, none⟩ (.int .i64 ((rd_T94 l0_3 ((rd_T79 t107 x69_3).f1)).f0))).setCell ⟨Q06, 1, none⟩ (.int .i64 ((rd_T94 l0_3 ((rd_T79 t107 x69_3).f1)).f1))).setCell ⟨Q06, 2, none⟩ (.int .i64 ((rd_T94 l0_3 ((rd_T79 t107 x69_3).f1)).f2))).heap[Q05]? = some (.cells #[.int .i64 ((rd_T94 l0_1 ((rd_T79 t107 x69_3).f0)).f0), .int .i64 ((rd_T94 l0_1 ((rd_T79 t107 x69_3).f0)).f1), .int .i64 ((rd_T94 l0_1 ((rd_T79 t107 x69_3).f0)).f2)] 94 (0, 0))) := ⟨by (with_reducible repeat (first | refine bN ?_ _ | refine bD ?_ | refine bA ?_ _)); refine blk_far ?_ Q0z.out _; (with_reducible repeat (first | refine bN ?_ _ | refine bD ?_ | refine bA ?_ _)); refine blk_far ?_ Q0z.out _; (with_reducible repeat (first | refine bN ?_ _ | refine bD ?_ | refine bA ?_ _)); refine blk_far ?_ Q0z.out _; (with_reducible repeat (first | refine bN ?_ _ | refine bD ?_ | refine bA ?_ _)); refine blk_put (cs := #[.int .i64 ((rd_T94 l0_1 ((rd_T79 t107 x69_3).f0)).f0), .int .i64 ((rd_T94 l0_1 ((rd_T79 t107 x69_3).f0)).f1), .int .i64 0]) ?_ 2 _ rfl; (with_reducible repeat (first | refine bN ?_ _ | refine bD ?_ | refine bA ?_ _)); refine blk_put (cs := #[.int .i64 ((rd_T94 l0_1 ((rd_T79 t107 x69_3).f0)).f0), .int .i64 0, .int .i64 0]) ?_ 1 _ rfl; (with_reducible repeat (first | refine bN ?_ _ | refine bD ?_ | refine bA ?_ _)); refine blk_put (cs := #[.int .i64 0, .int .i64 0, .int .i64 0]) ?_ 0 _ rfl; (with_reducible repeat (first | refine bN ?_ _ | refine bD ?_ | refine bA ?_ _)); exact Q0h.out⟩
                  have n10_ : Aside0 (((((((w77.setCell ⟨Q05, 0, none⟩ (.int .i64 ((rd_T94 l0_1 ((rd_T79 t107 x69_3).f0)).f0))).setCell ⟨Q05, 1, none⟩ (.int .i64 ((rd_T94 l0_1 ((rd_T79 t107 x69_3).f0)).f1))).setCell ⟨Q05, 2, none⟩ (.int .i64 ((rd_T94 l0_1 ((rd_T79 t107 x69_3).f0)).f2))).setCell ⟨Q06, 0, none⟩ (.int .i64 ((rd_T94 l0_3 ((rd_T79 t107 x69_3).f1)).f0))).setCell ⟨Q06, 1, none⟩ (.int .i64 ((rd_T94 l0_3 ((rd_T79 t107 x69_3).f1)).f1))).setCell ⟨Q06, 2, none⟩ (.int .i64 ((rd_T94 l0_3 ((rd_T79 t107 x69_3).f1)).f2))).heap[Q06]? = some (.cells #[.int .i64 ((rd_T94 l0_3 ((rd_T79 t107 x69_3).f1)).f0), .int .i64 ((rd_T94 l0_3 ((rd_T79 t107 x69_3).f1)).f1), .int .i64 ((rd_T94 l0_3 ((rd_T79 t107 x69_3).f1)).f2)] 94 (0, 0))) := ⟨by (with_reducible repeat (first | refine bN ?_ _ | refine bD ?_ | refine bA ?_ _)); refine blk_put (cs := #[.int .i64 ((rd_T94 l0_3 ((rd_T79 t107 x69_3).f1)).f0), .int .i64 ((rd_T94 l0_3 ((rd_T79 t107 x69_3).f1)).f1), .int .i64 0]) ?_ 2 _ rfl; (with_reducible repeat (first | refine bN ?_ _ | refine bD ?_ | refine bA ?_ _)); refine blk_put (cs := #[.int .i64 ((rd_T94 l0_3 ((rd_T79 t107 x69_3).f1)).f0), .int .i64 0, .int .i64 0]) ?_ 1 _ rfl; (with_reducible repeat (first | refine bN ?_ _ | refine bD ?_ | refine bA ?_ _)); refine blk_put (cs := #[.int .i64 0, .int .i64 0, .int .i64 0]) ?_ 0 _ rfl; (with_reducible repeat (first | refine bN ?_ _ | refine bD ?_ | refine bA ?_ _)); refine blk_far ?_ Q10.out _; (with_reducible repeat (first | refine bN ?_ _ | refine bD ?_ | refine bA ?_ _)); refine blk_far ?_ Q10.out _; (with_reducible repeat (first | refine bN ?_ _ | refine bD ?_ | refine bA ?_ _)); refine blk_far ?_ Q10.out _; (with_reducible repeat (first | refine bN ?_ _ | refine bD ?_ | refine bA ?_ _)); exact Q0i.out⟩
                  have n11_ : Aside0 (Below w.heap.size w ((((((w77.setCell ⟨Q05, 0, none⟩ (.int .i64 ((rd_T94 l0_1 ((rd_T79 t107 x69_3).f0)).f0))).setCell ⟨Q05, 1, none⟩ (.int .i64 ((rd_T94 l0_1 ((rd_T79 t107 x69_3).f0)).f1))).setCell ⟨Q05, 2, none⟩ (.int .i64 ((rd_T94 l0_1 ((rd_T79 t107 x69_3).f0)).f2))).setCell ⟨Q06, 0, none⟩ (.int .i64 ((rd_T94 l0_3 ((rd_T79 t107 x69_3).f1)).f0))).setCell ⟨Q06, 1, none⟩ (.int .i64 ((rd_T94 l0_3 ((rd_T79 t107 x69_3).f1)).f1))).setCell ⟨Q06, 2, none⟩ (.int .i64 ((rd_T94 l0_3 ((rd_T79 t107 x69_3).f1)).f2)))) := ⟨pH HB⟩
                  (try clear Q0o)
                  (try clear Q0e)
                  (try clear Q0g)
                  (try clear Q0f)
                  (try clear Q0j)
                  (try clear Q00)
                  (try clear Q02)
                  (try clear Q01)
                  (try clear Q0c)
                  (try clear Q0h)
                  (try clear Q0i)
                  (try clear HB)
                  generalize ((((((w77.setCell ⟨Q05, 0, none⟩ (.int .i64 ((rd_T94 l0_1 ((rd_T79 t107 x69_3).f0)).f0))).setCell ⟨Q05, 1, none⟩ (.int .i64 ((rd_T94 l0_1 ((rd_T79 t107 x69_3).f0)).f1))).setCell ⟨Q05, 2, none⟩ (.int .i64 ((rd_T94 l0_1 ((rd_T79 t107 x69_3).f0)).f2))).setCell ⟨Q06, 0, none⟩ (.int .i64 ((rd_T94 l0_3 ((rd_T79 t107 x69_3).f1)).f0))).setCell ⟨Q06, 1, none⟩ (.int .i64 ((rd_T94 l0_3 ((rd_T79 t107 x69_3).f1)).f1))).setCell ⟨Q06, 2, none⟩ (.int .i64 ((rd_T94 l0_3 ((rd_T79 t107 x69_3).f1)).f2))) = w84 at n0_ n1_ n2_ n3_ n4_ n5_ n6_ n7_ n8_ n9_ n10_ n11_ ⊢
                  have Q0o := n0_
                  have Q0e := n1_
                  have Q0g := n2_
                  have Q0f := n3_
                  have Q0j := n4_
                  have Q00 := n5_
                  have Q02 := n6_
                  have Q01 := n7_
                  have Q0c := n8_
                  have Q0h := n9_
                  have Q0i := n10_
                  have HB := n11_
                  clear n0_ n1_ n2_ n3_ n4_ n5_ n6_ n7_ n8_ n9_ n10_ n11_
                  replace Q0o := Aside0.mk (rD Q0o.out)
                  replace Q0e := Aside0.mk (rD Q0e.out)
                  replace Q0g := Aside0.mk (rD Q0g.out)
                  replace Q0f := Aside0.mk (rD Q0f.out)
                  replace Q0j := Aside0.mk (rD Q0j.out)
                  replace Q00 := Aside0.mk (bD Q00.out)
                  replace Q02 := Aside0.mk (bD Q02.out)
                  replace Q01 := Aside0.mk (bD Q01.out)
                  replace Q0c := Aside0.mk (bD Q0c.out)
                  replace Q0h := Aside0.mk (bD Q0h.out)
                  replace Q0i := Aside0.mk (bD Q0i.out)
                  replace HB := Aside0.mk (wD HB.out)
                  refine start_ (n := 27) (S := fun w' => w'.cell? ⟨Q04, 0, none⟩ = some (.slice Q0d t104.length Q09) ∧ w'.cell? ⟨Q04, 1, none⟩ = some (.slice (some ad117) t107.length Q0a) ∧ w'.cell? ⟨Q04, 2, none⟩ = some (u111002) ∧ w'.cell? ⟨Q04, 3, none⟩ = some (u111003) ∧ w'.cell? ⟨Q05, 0, none⟩ = some (.int .i64 ((rd_T94 l0_1 ((rd_T79 t107 x69_3).f0)).f0)) ∧ w'.cell? ⟨Q05, 1, none⟩ = some (.int .i64 ((rd_T94 l0_1 ((rd_T79 t107 x69_3).f0)).f1)) ∧ w'.cell? ⟨Q05, 2, none⟩ = some (.int .i64 ((rd_T94 l0_1 ((rd_T79 t107 x69_3).f0)).f2)) ∧ w'.cell? ⟨Q06, 0, none⟩ = some (.int .i64 ((rd_T94 l0_3 ((rd_T79 t107 x69_3).f1)).f0)) ∧ w'.cell? ⟨Q06, 1, none⟩ = some (.int .i64 ((rd_T94 l0_3 ((rd_T79 t107 x69_3).f1)).f1)) ∧ w'.cell? ⟨Q06, 2, none⟩ = some (.int .i64 ((rd_T94 l0_3 ((rd_T79 t107 x69_3).f1)).f2))) (ds := [26]) #[false, false, false, false, false, false, false, false, false, false, false, false, false, false, false, false, false, false, false, false, false, false, false, false, false, false, false] (by kernel_rfl) rfl rfl ⟨bC Q01 0, bC Q01 1, bC Q01 2, bC Q01 3, bC Q0h 0, bC Q0h 1, bC Q0h 2, bC Q0i 0, bC Q0i 1, bC Q0i 2⟩ (fun hHeld => ?_); refine with_tabW pullback_of.tab16 pullback_of.bits16 (fun HT_ HW_ => ?_)
                  generalize w84.drew = w85 at Q0o Q0e Q0g Q0f Q0j Q00 Q02 Q01 Q0c Q0h Q0i HB hHeld ⊢
                  refine pure_ (i := 0) (N := some 87) (v := ?_) (a' := ?_) #[true, false, false, false, false, false, false, false, false, false, false, false, false, false, false, false, false, false, false, false, false, false, false, false, false, false, false] rfl rfl (any_of HT_.out (by kernel_rfl)) (fun _ _ _ h => h) (Or.inl ⟨by rfl, ?_⟩) ?_ ?_
                  rotate_left
                  ·intro w'
                   go_simp
                   with_reducible rfl
                  rotate_left
                  ·simp only [Act.put, List.setIfInBounds_toArray, List.set_cons_zero, List.set_cons_succ, i64_w, i32_w]
                   rfl
                  refine pure_ (i := 1) (N := some 88) (v := ?_) (a' := ?_) #[true, true, false, false, false, false, false, false, false, false, false, false, false, false, false, false, false, false, false, false, false, false, false, false, false, false, false] rfl rfl (any_of HT_.out (by kernel_rfl)) (fun _ _ _ h => h) (Or.inl ⟨by rfl, ?_⟩) ?_ ?_
                  rotate_left
                  ·intro w'
                   go_simp
                   with_reducible rfl
                  rotate_left
                  ·simp only [Act.put, List.setIfInBounds_toArray, List.set_cons_zero, List.set_cons_succ, i64_w, i32_w]
                   rfl
                  refine pure_ (i := 3) (N := some 90) (v := ?_) (a' := ?_) #[true, true, false, true, false, false, false, false, false, false, false, false, false, false, false, false, false, false, false, false, false, false, false, false, false, false, false] rfl rfl (any_of HT_.out (by kernel_rfl)) (fun _ _ _ h => h) (Or.inl ⟨by rfl, ?_⟩) ?_ ?_
                  rotate_left
                  ·intro w'
                   go_simp
                   with_reducible rfl
                  rotate_left
                  ·simp only [Act.put, List.setIfInBounds_toArray, List.set_cons_zero, List.set_cons_succ, i64_w, i32_w]
                   rfl
                  refine pure_ (i := 5) (N := some 92) (v := ?_) (a' := ?_) #[true, true, false, true, false, true, false, false, false, false, false, false, false, false, false, false, false, false, false, false, false, false, false, false, false, false, false] rfl rfl (any_of HT_.out (by kernel_rfl)) (fun _ _ _ h => h) (Or.inl ⟨by rfl, ?_⟩) ?_ ?_
                  rotate_left
                  ·intro w'
                   go_simp
                   with_reducible rfl
                  rotate_left
                  ·simp only [Act.put, List.setIfInBounds_toArray, List.set_cons_zero, List.set_cons_succ, i64_w, i32_w]
                   rfl
                  refine pure_ (i := 7) (N := some 94) (v := ?_) (a' := ?_) #[true, true, false, true, false, true, false, true, false, false, false, false, false, false, false, false, false, false, false, false, false, false, false, false, false, false, false] rfl rfl (any_of HT_.out (by kernel_rfl)) (fun _ _ _ h => h) (Or.inl ⟨by rfl, ?_⟩) ?_ ?_
                  rotate_left
                  ·intro w'
                   go_simp
                   with_reducible rfl
                  rotate_left
                  ·simp only [Act.put, List.setIfInBounds_toArray, List.set_cons_zero, List.set_cons_succ, i64_w, i32_w]
                   rfl
                  refine pure_ (i := 9) (N := some 96) (v := ?_) (a' := ?_) #[true, true, false, true, false, true, false, true, false, true, false, false, false, false, false, false, false, false, false, false, false, false, false, false, false, false, false] rfl rfl (any_of HT_.out (by kernel_rfl)) (fun _ _ _ h => h) (Or.inl ⟨by rfl, ?_⟩) ?_ ?_
                  rotate_left
                  ·intro w'
                   go_simp
                   with_reducible rfl
                  rotate_left
                  ·simp only [Act.put, List.setIfInBounds_toArray, List.set_cons_zero, List.set_cons_succ, i64_w, i32_w]
                   rfl
                  refine pure_ (i := 13) (N := some 100) (v := ?_) (a' := ?_) #[true, true, false, true, false, true, false, true, false, true, false, false, false, true, false, false, false, false, false, false, false, false, false, false, false, false, false] rfl rfl (any_of HT_.out (by kernel_rfl)) (fun _ _ _ h => h) (Or.inl ⟨by rfl, ?_⟩) ?_ ?_
                  rotate_left
                  ·intro w'
                   go_simp
                   with_reducible rfl
                  rotate_left
                  ·simp only [Act.put, List.setIfInBounds_toArray, List.set_cons_zero, List.set_cons_succ, i64_w, i32_w]
                   rfl
                  refine pure_ (i := 15) (N := some 102) (v := ?_) (a' := ?_) #[true, true, false, true, false, true, false, true, false, true, false, false, false, true, false, true, false, false, false, false, false, false, false, false, false, false, false] rfl rfl (any_of HT_.out (by kernel_rfl)) (fun _ _ _ h => h) (Or.inl ⟨by rfl, ?_⟩) ?_ ?_
                  rotate_left
                  ·intro w'
                   go_simp
                   with_reducible rfl
                  rotate_left
                  ·simp only [Act.put, List.setIfInBounds_toArray, List.set_cons_zero, List.set_cons_succ, i64_w, i32_w]
                   rfl
                  refine pure_ (i := 17) (N := some 104) (v := ?_) (a' := ?_) #[true, true, false, true, false, true, false, true, false, true, false, false, false, true, false, true, false, true, false, false, false, false, false, false, false, false, false] rfl rfl (any_of HT_.out (by kernel_rfl)) (fun _ _ _ h => h) (Or.inl ⟨by rfl, ?_⟩) ?_ ?_
                  rotate_left
                  ·intro w'
                   go_simp
                   with_reducible rfl
                  rotate_left
                  ·simp only [Act.put, List.setIfInBounds_toArray, List.set_cons_zero, List.set_cons_succ, i64_w, i32_w]
                   rfl
                  refine take_ (i := 2) (N := some 89) (v := ?_) (a' := ?_) #[true, true, true, true, false, true, false, true, false, true, false, false, false, true, false, true, false, true, false, false, false, false, false, false, false, false, false] rfl rfl (take_ofW HT_.out HW_.out (by kernel_rfl)) (fun _ _ _ h => h) (Or.inl ⟨by rfl, ?_⟩) hHeld ?_ ?_
                  rotate_left
                  ·rintro w' ⟨s0, s1, s2, s3, s4, s5, s6, s7, s8, s9⟩
                   go_simp
                   with_reducible rfl
                  rotate_left
                  ·simp only [Act.put, List.setIfInBounds_toArray, List.set_cons_zero, List.set_cons_succ, i64_w, i32_w]
                   rfl
                  refine take_ (i := 4) (N := some 91) (v := ?_) (a' := ?_) #[true, true, true, true, true, true, false, true, false, true, false, false, false, true, false, true, false, true, false, false, false, false, false, false, false, false, false] rfl rfl (take_ofW HT_.out HW_.out (by kernel_rfl)) (fun _ _ _ h => h) (Or.inl ⟨by rfl, ?_⟩) hHeld ?_ ?_
                  rotate_left
                  ·rintro w' ⟨s0, s1, s2, s3, s4, s5, s6, s7, s8, s9⟩
                   go_simp
                   with_reducible rfl
                  rotate_left
                  ·simp only [Act.put, List.setIfInBounds_toArray, List.set_cons_zero, List.set_cons_succ, i64_w, i32_w]
                   rfl
                  refine take_ (i := 6) (N := some 93) (v := ?_) (a' := ?_) #[true, true, true, true, true, true, true, true, false, true, false, false, false, true, false, true, false, true, false, false, false, false, false, false, false, false, false] rfl rfl (take_ofW HT_.out HW_.out (by kernel_rfl)) (fun _ _ _ h => h) (Or.inl ⟨by rfl, ?_⟩) hHeld ?_ ?_
                  rotate_left
                  ·rintro w' ⟨s0, s1, s2, s3, s4, s5, s6, s7, s8, s9⟩
                   go_simp
                   with_reducible rfl
                  rotate_left
                  ·simp only [Act.put, List.setIfInBounds_toArray, List.set_cons_zero, List.set_cons_succ, i64_w, i32_w]
                   rfl
                  refine take_ (i := 8) (N := some 95) (v := ?_) (a' := ?_) #[true, true, true, true, true, true, true, true, true, true, false, false, false, true, false, true, false, true, false, false, false, false, false, false, false, false, false] rfl rfl (take_ofW HT_.out HW_.out (by kernel_rfl)) (fun _ _ _ h => h) (Or.inl ⟨by rfl, ?_⟩) hHeld ?_ ?_
                  rotate_left
                  ·rintro w' ⟨s0, s1, s2, s3, s4, s5, s6, s7, s8, s9⟩
                   go_simp
                   with_reducible rfl
                  rotate_left
                  ·simp only [Act.put, List.setIfInBounds_toArray, List.set_cons_zero, List.set_cons_succ, i64_w, i32_w]
                   rfl
                  refine take_ (i := 10) (N := some 97) (v := ?_) (a' := ?_) #[true, true, true, true, true, true, true, true, true, true, true, false, false, true, false, true, false, true, false, false, false, false, false, false, false, false, false] rfl rfl (take_ofW HT_.out HW_.out (by kernel_rfl)) (fun _ _ _ h => h) (Or.inl ⟨by rfl, ?_⟩) hHeld ?_ ?_
                  rotate_left
                  ·rintro w' ⟨s0, s1, s2, s3, s4, s5, s6, s7, s8, s9⟩
                   go_simp
                   with_reducible rfl
                  rotate_left
                  ·simp only [Act.put, List.setIfInBounds_toArray, List.set_cons_zero, List.set_cons_succ, i64_w, i32_w]
                   rfl
                  refine pure_ (i := 11) (N := some 98) (v := ?_) (a' := ?_) #[true, true, true, true, true, true, true, true, true, true, true, true, false, true, false, true, false, true, false, false, false, false, false, false, false, false, false] rfl rfl (any_of HT_.out (by kernel_rfl)) (fun _ _ _ h => h) (Or.inl ⟨by rfl, ?_⟩) ?_ ?_
                  rotate_left
                  ·intro w'
                   go_simp
                   with_reducible rfl
                  rotate_left
                  ·simp only [Act.put, List.setIfInBounds_toArray, List.set_cons_zero, List.set_cons_succ, i64_w, i32_w]
                   rfl
                  refine take_ (i := 14) (N := some 101) (v := ?_) (a' := ?_) #[true, true, true, true, true, true, true, true, true, true, true, true, false, true, true, true, false, true, false, false, false, false, false, false, false, false, false] rfl rfl (take_ofW HT_.out HW_.out (by kernel_rfl)) (fun _ _ _ h => h) (Or.inl ⟨by rfl, ?_⟩) hHeld ?_ ?_
                  rotate_left
                  ·rintro w' ⟨s0, s1, s2, s3, s4, s5, s6, s7, s8, s9⟩
                   go_simp
                   with_reducible rfl
                  rotate_left
                  ·simp only [Act.put, List.setIfInBounds_toArray, List.set_cons_zero, List.set_cons_succ, i64_w, i32_w]
                   rfl
                  refine take_ (i := 16) (N := some 103) (v := ?_) (a' := ?_) #[true, true, true, true, true, true, true, true, true, true, true, true, false, true, true, true, true, true, false, false, false, false, false, false, false, false, false] rfl rfl (take_ofW HT_.out HW_.out (by kernel_rfl)) (fun _ _ _ h => h) (Or.inl ⟨by rfl, ?_⟩) hHeld ?_ ?_
                  rotate_left
                  ·rintro w' ⟨s0, s1, s2, s3, s4, s5, s6, s7, s8, s9⟩
                   go_simp
                   with_reducible rfl
                  rotate_left
                  ·simp only [Act.put, List.setIfInBounds_toArray, List.set_cons_zero, List.set_cons_succ, i64_w, i32_w]
                   rfl
                  refine take_ (i := 18) (N := some 105) (v := ?_) (a' := ?_) #[true, true, true, true, true, true, true, true, true, true, true, true, false, true, true, true, true, true, true, false, false, false, false, false, false, false, false] rfl rfl (take_ofW HT_.out HW_.out (by kernel_rfl)) (fun _ _ _ h => h) (Or.inl ⟨by rfl, ?_⟩) hHeld ?_ ?_
                  rotate_left
                  ·rintro w' ⟨s0, s1, s2, s3, s4, s5, s6, s7, s8, s9⟩
                   go_simp
                   with_reducible rfl
                  rotate_left
                  ·simp only [Act.put, List.setIfInBounds_toArray, List.set_cons_zero, List.set_cons_succ, i64_w, i32_w]
                   rfl
                  refine pure_ (i := 19) (N := some 106) (v := ?_) (a' := ?_) #[true, true, true, true, true, true, true, true, true, true, true, true, false, true, true, true, true, true, true, true, false, false, false, false, false, false, false] rfl rfl (any_of HT_.out (by kernel_rfl)) (fun _ _ _ h => h) (Or.inl ⟨by rfl, ?_⟩) ?_ ?_
                  rotate_left
                  ·intro w'
                   go_simp
                   with_reducible rfl
                  rotate_left
                  ·simp only [Act.put, List.setIfInBounds_toArray, List.set_cons_zero, List.set_cons_succ, i64_w, i32_w]
                   rfl
                  refine one_ (i := 12) (N := some 99) #[true, true, true, true, true, true, true, true, true, true, true, true, true, true, true, true, true, true, true, true, false, false, false, false, false, false, false] rfl rfl (one_of HT_.out (by kernel_rfl)) (by decide) (fun K hK => ?_)
                  refine goes_ Try.func73 (by kernel_rfl) rfl #[.slice Q0d t104.length Q09, .agg #[.int .i64 ((rd_T94 l0_1 ((rd_T79 t107 x69_3).f0)).f1), .int .i64 ((rd_T94 l0_3 ((rd_T79 t107 x69_3).f1)).f1)]] (by rfl) rfl rfl aM ?_
                  with_reducible refine (api_Pair_73.calls k3 _ _ t104 ((rd_T94 l0_1 ((rd_T79 t107 x69_3).f0)).f1) ((rd_T94 l0_3 ((rd_T79 t107 x69_3).f1)).f1) t123 _ ?side1 ?side2 A65.out).mono ?_
                  (case side1 => exact cX (Kd.R_reads' Q0e.out).2.2)
                  (case side2 => exact (Kd.R_reads' Q0e.out).2.1)
                  rintro e w86 ⟨rfl, hb⟩
                  refine ⟨_, rfl, ?_⟩
                  replace Q0o := uR Q0o hb
                  replace Q0e := uR Q0e hb
                  replace Q0g := uR Q0g hb
                  replace Q0f := uR Q0f hb
                  replace Q0j := uR Q0j hb
                  replace Q00 := uB Q00 hb
                  replace Q02 := uB Q02 hb
                  replace Q01 := uB Q01 hb
                  replace Q0c := uB Q0c hb
                  replace Q0h := Aside0.mk (bB (g := Q05) (o := .cells #[.int .i64 ((rd_T94 l0_1 ((rd_T79 t107 x69_3).f0)).f0), .int .i64 ((rd_T94 l0_1 ((rd_T79 t107 x69_3).f0)).f1), .int .i64 ((rd_T94 l0_1 ((rd_T79 t107 x69_3).f0)).f2)] 94 (0, 0)) (pB Q0h) hb)
                  replace Q0i := Aside0.mk (bB (g := Q06) (o := .cells #[.int .i64 ((rd_T94 l0_3 ((rd_T79 t107 x69_3).f1)).f0), .int .i64 ((rd_T94 l0_3 ((rd_T79 t107 x69_3).f1)).f1), .int .i64 ((rd_T94 l0_3 ((rd_T79 t107 x69_3).f1)).f2)] 94 (0, 0)) (pB Q0i) hb)
                  replace HB := uH HB hb
                  (try clear hb)
                  (try clear hb2)
                  (try clear hk)
                  (try clear hi)
                  refine hK.out _ _ ⟨bC Q01 0, bC Q01 1, bC Q01 2, bC Q01 3, bC Q0h 0, bC Q0h 1, bC Q0h 2, bC Q0i 0, bC Q0i 1, bC Q0i 2⟩ (fun hHeld => ?_)
                  clear hK K
                  refine norm_ (a' := ?_) ?_ ?_
                  rotate_left
                  ·show Act.put _ (some 99) _ = _
                   simp only [Act.put, List.setIfInBounds_toArray, List.set_cons_zero, List.set_cons_succ, i64_w, i32_w]
                   rfl
                  refine one_ (i := 20) (N := some 107) #[true, true, true, true, true, true, true, true, true, true, true, true, true, true, true, true, true, true, true, true, true, false, false, false, false, false, false] rfl rfl (one_of HT_.out (by kernel_rfl)) (by decide) (fun K hK => ?_)
                  refine goes_ Try.func73 (by kernel_rfl) rfl #[.slice Q0d t104.length Q09, .agg #[.int .i64 ((rd_T94 l0_1 ((rd_T79 t107 x69_3).f0)).f2), .int .i64 ((rd_T94 l0_3 ((rd_T79 t107 x69_3).f1)).f2)]] (by rfl) rfl rfl aM ?_
                  with_reducible refine (api_Pair_73.calls k3 _ _ t104 ((rd_T94 l0_1 ((rd_T79 t107 x69_3).f0)).f2) ((rd_T94 l0_3 ((rd_T79 t107 x69_3).f1)).f2) t124 _ ?side1 ?side2 A66.out).mono ?_
                  (case side1 => exact cX (Kd.R_reads' Q0e.out).2.2)
                  (case side2 => exact (Kd.R_reads' Q0e.out).2.1)
                  rintro e w87 ⟨rfl, hb⟩
                  refine ⟨_, rfl, ?_⟩
                  replace Q0o := uR Q0o hb
                  replace Q0e := uR Q0e hb
                  replace Q0g := uR Q0g hb
                  replace Q0f := uR Q0f hb
                  replace Q0j := uR Q0j hb
                  replace Q00 := uB Q00 hb
                  replace Q02 := uB Q02 hb
                  replace Q01 := uB Q01 hb
                  replace Q0c := uB Q0c hb
                  replace Q0h := Aside0.mk (bB (g := Q05) (o := .cells #[.int .i64 ((rd_T94 l0_1 ((rd_T79 t107 x69_3).f0)).f0), .int .i64 ((rd_T94 l0_1 ((rd_T79 t107 x69_3).f0)).f1), .int .i64 ((rd_T94 l0_1 ((rd_T79 t107 x69_3).f0)).f2)] 94 (0, 0)) (pB Q0h) hb)
                  replace Q0i := Aside0.mk (bB (g := Q06) (o := .cells #[.int .i64 ((rd_T94 l0_3 ((rd_T79 t107 x69_3).f1)).f0), .int .i64 ((rd_T94 l0_3 ((rd_T79 t107 x69_3).f1)).f1), .int .i64 ((rd_T94 l0_3 ((rd_T79 t107 x69_3).f1)).f2)] 94 (0, 0)) (pB Q0i) hb)
                  replace HB := uH HB hb
                  (try clear hb)
                  (try clear hb2)
                  (try clear hk)
                  (try clear hi)
                  refine hK.out _ _ ⟨bC Q01 0, bC Q01 1, bC Q01 2, bC Q01 3, bC Q0h 0, bC Q0h 1, bC Q0h 2, bC Q0i 0, bC Q0i 1, bC Q0i 2⟩ (fun hHeld => ?_)
                  clear hK K
                  refine norm_ (a' := ?_) ?_ ?_
                  rotate_left
                  ·show Act.put _ (some 107) _ = _
                   simp only [Act.put, List.setIfInBounds_toArray, List.set_cons_zero, List.set_cons_succ, i64_w, i32_w]
                   rfl
                  refine pure_ (i := 21) (N := some 108) (v := ?_) (a' := ?_) #[true, true, true, true, true, true, true, true, true, true, true, true, true, true, true, true, true, true, true, true, true, true, false, false, false, false, false] rfl rfl (any_of HT_.out (by kernel_rfl)) (fun _ _ _ h => h) (Or.inl ⟨by rfl, ?_⟩) ?_ ?_
                  rotate_left
                  ·intro w'
                   go_simp
                   with_reducible rfl
                  rotate_left
                  ·simp only [Act.put, List.setIfInBounds_toArray, List.set_cons_zero, List.set_cons_succ, i64_w, i32_w]
                   rfl
                  refine one_ (i := 22) (N := some 109) #[true, true, true, true, true, true, true, true, true, true, true, true, true, true, true, true, true, true, true, true, true, true, true, false, false, false, false] rfl rfl (one_of HT_.out (by kernel_rfl)) (by decide) (fun K hK => ?_)
                  refine value_ (w1 := ?_) (v := ?_) (by rfl) rfl ?_ ?_
                  rotate_left 2
                  ·go_simp
                   constructor
                   ·rfl
                   ·rfl
                  refine hK.out _ _ ⟨(blk_cell (bA Q01.out _) 0).trans rfl, (blk_cell (bA Q01.out _) 1).trans rfl, (blk_cell (bA Q01.out _) 2).trans rfl, (blk_cell (bA Q01.out _) 3).trans rfl, (blk_cell (bA Q0h.out _) 0).trans rfl, (blk_cell (bA Q0h.out _) 1).trans rfl, (blk_cell (bA Q0h.out _) 2).trans rfl, (blk_cell (bA Q0i.out _) 0).trans rfl, (blk_cell (bA Q0i.out _) 1).trans rfl, (blk_cell (bA Q0i.out _) 2).trans rfl⟩ (fun hHeld => ?_)
                  clear hK K
                  refine norm_ (a' := ?_) ?_ ?_
                  rotate_left
                  ·show Act.put _ (some 109) _ = _
                   simp only [Act.put, List.setIfInBounds_toArray, List.set_cons_zero, List.set_cons_succ, i64_w, i32_w]
                   rfl
                  refine one_ (i := 23) (N := some 110) #[true, true, true, true, true, true, true, true, true, true, true, true, true, true, true, true, true, true, true, true, true, true, true, true, false, false, false] rfl rfl (one_of HT_.out (by kernel_rfl)) (by decide) (fun K hK => ?_)
                  refine Kd.R_append_step k94 (w0 := w) w.heap.size (by rfl) (.tmp 89) (.tmp 109) 23 94 (.agg #[(.int .i64 0), (.int .i64 0), (.int .i64 0)]) 24 rfl Try.underlying23 info94 rfl (by decide) (by omega) u111003 x111003_3 (⟨(rd_T94 l0_1 ((rd_T79 t107 x69_3).f0)).f0, t123, t124⟩ : S94) [.int .i64 ((rd_T94 l0_1 ((rd_T79 t107 x69_3).f0)).f0), .int .i64 t123, .int .i64 t124] (fun k_ => k_ ≠ Q05 ∧ k_ ≠ Q06) (fun _ => False) rfl rfl ?aP (fun _ hk => hk.elim) ?aF ?aO ?aB ?aS ?aL ?_
                  (case aP => exact k94_mkM _ _ _ (⟨(rd_T94 l0_1 ((rd_T79 t107 x69_3).f0)).f0, t123, t124⟩ : S94))
                  (case aB => exact (pH HB))
                  (case aF => exact (fun k_ hk => ⟨Kd.freshB (g := Q05) (o := .cells #[.int .i64 ((rd_T94 l0_1 ((rd_T79 t107 x69_3).f0)).f0), .int .i64 ((rd_T94 l0_1 ((rd_T79 t107 x69_3).f0)).f1), .int .i64 ((rd_T94 l0_1 ((rd_T79 t107 x69_3).f0)).f2)] 94 (0, 0)) (pB Q0h) k_ hk, Kd.freshB (g := Q06) (o := .cells #[.int .i64 ((rd_T94 l0_3 ((rd_T79 t107 x69_3).f1)).f0), .int .i64 ((rd_T94 l0_3 ((rd_T79 t107 x69_3).f1)).f1), .int .i64 ((rd_T94 l0_3 ((rd_T79 t107 x69_3).f1)).f2)] 94 (0, 0)) (pB Q0i) k_ hk⟩))
                  (case aO => exact (pR Q0j))
                  (case aS => exact (below_size (pH HB)))
                  (case aL => have := LMc67.out; omega)
                  intro v126 w88 ho hb hg hat
                  rw [← Ny125.out] at ho
                  replace Q0o := Aside0.mk (Kd.R_over' (pR Q0o) (Kd.R_typed (pR Q0j)) (by decide) hg)
                  replace Q0e := Aside0.mk (Kd.R_over' (pR Q0e) (Kd.R_typed (pR Q0j)) (by decide) hg)
                  replace Q0g := Aside0.mk (Kd.R_over' (pR Q0g) (Kd.R_typed (pR Q0j)) (by decide) hg)
                  replace Q0f := Aside0.mk (Kd.R_over' (pR Q0f) (Kd.R_typed (pR Q0j)) (by decide) hg)
                  replace Q00 := Aside0.mk (bG (g := Q03) (o := .cells #[.slice A0_0 l0_0.length c0_0, .slice (some ad119) l0_1.length c0_1, .slice A0_2 l0_2.length c0_2, .slice (some ad120) l0_3.length c0_3, .slice A0_4 l0_4.length c0_4, .slice A0_5 l0_5.length c0_5, .slice A0_6 l0_6.length c0_6, .slice A0_7 l0_7.length c0_7, .slice A0_8 l0_8.length c0_8, .slice A0_9 l0_9.length c0_9] 29 (0, 0)) (pB Q00) hg (Kd.R_ne Q0j.out Q00.out (by decide)))
                  replace Q02 := Aside0.mk (bG (g := Q0b) (o := .cells #[.slice none 0 0, .slice none 0 0, .slice none 0 0, .slice none 0 0] 81 (0, 0)) (pB Q02) hg (Kd.R_ne Q0j.out Q02.out (by decide)))
                  replace Q01 := Aside0.mk (bG (g := Q04) (o := .cells #[.slice Q0d t104.length Q09, .slice (some ad117) t107.length Q0a, u111002, u111003] 81 (0, 0)) (pB Q01) hg (Kd.R_ne Q0j.out Q01.out (by decide)))
                  replace Q0c := Aside0.mk (bG (g := Q07) (o := .cells #[.int .i64 ((rd_T79 t107 x69_3).f0), .int .i64 ((rd_T79 t107 x69_3).f1)] 79 (0, 0)) (pB Q0c) hg (Kd.R_ne Q0j.out Q0c.out (by decide)))
                  replace Q0h := Aside0.mk (bG (g := Q05) (o := .cells #[.int .i64 ((rd_T94 l0_1 ((rd_T79 t107 x69_3).f0)).f0), .int .i64 ((rd_T94 l0_1 ((rd_T79 t107 x69_3).f0)).f1), .int .i64 ((rd_T94 l0_1 ((rd_T79 t107 x69_3).f0)).f2)] 94 (0, 0)) (pB Q0h) hg (Kd.R_away Q0j.out (fun _ hk => hk.1)))
                  replace Q0i := Aside0.mk (bG (g := Q06) (o := .cells #[.int .i64 ((rd_T94 l0_3 ((rd_T79 t107 x69_3).f1)).f0), .int .i64 ((rd_T94 l0_3 ((rd_T79 t107 x69_3).f1)).f1), .int .i64 ((rd_T94 l0_3 ((rd_T79 t107 x69_3).f1)).f2)] 94 (0, 0)) (pB Q0i) hg (Kd.R_away Q0j.out (fun _ hk => hk.2)))
                  replace HB := Aside0.mk (hb)
                  have Q3t := Aside0.mk (ho)
                  clear Q0j
                  clear ho hb hg hat
                  obtain ⟨Q1h, Q1i, Q3u⟩ := Kd.R_slice Q3t.out
                  (first | subst Q3u | (injection Q3u with f1_ f2_ f3_; have f4_ := f1_.symm; have f5_ := f3_.symm; clear f1_ f2_ f3_; subst f4_; subst f5_))
                  refine hK.out _ _ ⟨bC Q01 0, bC Q01 1, bC Q01 2, bC Q01 3, bC Q0h 0, bC Q0h 1, bC Q0h 2, bC Q0i 0, bC Q0i 1, bC Q0i 2⟩ (fun hHeld => ?_)
                  clear hK K
                  refine norm_ (a' := ?_) ?_ ?_
                  rotate_left
                  ·show Act.put _ (some 110) _ = _
                   simp only [Act.put, List.setIfInBounds_toArray, List.set_cons_zero, List.set_cons_succ, i64_w, i32_w]
                   rfl
                  refine pure_ (i := 24) (N := some 111) (v := ?_) (a' := ?_) #[true, true, true, true, true, true, true, true, true, true, true, true, true, true, true, true, true, true, true, true, true, true, true, true, true, false, false] rfl rfl (any_of HT_.out (by kernel_rfl)) (fun _ _ _ h => h) (Or.inl ⟨by rfl, ?_⟩) ?_ ?_
                  rotate_left
                  ·intro w'
                   go_simp
                   with_reducible rfl
                  rotate_left
                  ·simp only [Act.put, List.setIfInBounds_toArray, List.set_cons_zero, List.set_cons_succ, i64_w, i32_w]
                   rfl
                  refine pure_ (i := 25) (N := some 112) (v := ?_) (a' := ?_) #[true, true, true, true, true, true, true, true, true, true, true, true, true, true, true, true, true, true, true, true, true, true, true, true, true, true, false] rfl rfl (any_of HT_.out (by kernel_rfl)) (fun _ _ _ h => h) (Or.inl ⟨by rfl, ?_⟩) ?_ ?_
                  rotate_left
                  ·intro w'
                   go_simp
                   with_reducible rfl
                  rotate_left
                  ·simp only [Act.put, List.setIfInBounds_toArray, List.set_cons_zero, List.set_cons_succ, i64_w, i32_w]
                   rfl
                  refine last_ (i := 26) (N := none) #[true, true, true, true, true, true, true, true, true, true, true, true, true, true, true, true, true, true, true, true, true, true, true, true, true, true, true] rfl rfl (one_of HT_.out (by kernel_rfl)) (by decide) (fun K hK => ?_)
                  have Q8j : w88.cell? ⟨Q04, 3, none⟩ = some (u111003) := bC Q01 3
                  have Q8k := blk_frozen Q01.out 3
                  have Q8l := Q08.out
                  have Q8m := Q0p.out
                  have Q8n := Q3s.out
                  have Q8o := Q18.out
                  have Q8p := Q19.out
                  have Q8q := Q0v.out
                  have Q8r := Q0u.out
                  have Q8s := Q1x.out
                  have Q8t := Q12.out
                  have Q8u := Q13.out
                  refine skip_ (w1 := ?_) (by rfl) rfl ?_ ?_
                  rotate_left
                  ·go_simp
                   rfl
                  refine hK.out _ _ ?_
                  clear hK K
                  refine done_ (done_of HT_.out (by kernel_rfl)) ?_
                  try go_wp2
                  go_roundg k3
                  case measure => have := HJ5.out; have := HK2.out; have := HK3.out; omega
                  case rel => exact ⟨(wrap64 (x69_3 + 1)), (y125), (.slice Q1h y125.length Q1i), rS, H', ⟨by have := HJ5.out; have := HK2.out; have := HK3.out; omega⟩, ⟨by (with_reducible repeat (first | apply rA | apply rN | apply rD)); exact Kd.R_mono (Kd.R_far (p := ⟨Q04, 3, none⟩) (Kd.R_types Q0o.out Q01.out (by decide)) (fun _ hk => hk.2) (.slice Q1h y125.length Q1i)) (fun _ hk => hk.1.1)⟩, ⟨by (with_reducible repeat (first | apply rA | apply rN | apply rD)); exact Kd.R_mono (Kd.R_far (p := ⟨Q04, 3, none⟩) (Kd.R_types Q0e.out Q01.out (by decide)) (fun _ hk => hk.2) (.slice Q1h y125.length Q1i)) (fun _ hk => ⟨hk.1.1, hk.1.2.1⟩)⟩, ⟨by (with_reducible repeat (first | apply rA | apply rN | apply rD)); exact Kd.R_mono (Kd.R_far (p := ⟨Q04, 3, none⟩) (Kd.R_types Q0g.out Q01.out (by decide)) (fun _ hk => hk.2) (.slice Q1h y125.length Q1i)) (fun _ hk => hk.1.1)⟩, ⟨by (with_reducible repeat (first | apply rA | apply rN | apply rD)); exact Kd.R_mono (Kd.R_far (p := ⟨Q04, 3, none⟩) (Kd.R_types Q0f.out Q01.out (by decide)) (fun _ hk => hk.2) (.slice Q1h y125.length Q1i)) (fun _ hk => trivial)⟩, ⟨by (with_reducible repeat (first | apply rA | apply rN | apply rD)); exact Kd.R_mono (Kd.R_far (p := ⟨Q04, 3, none⟩) (Kd.R_types Q3t.out Q01.out (by decide)) (fun _ hk => hk.2) (.slice Q1h y125.length Q1i)) (fun _ hk => trivial)⟩, ⟨by (with_reducible repeat (first | refine bN ?_ _ | refine bD ?_ | refine bA ?_ _)); refine blk_far ?_ Q08.out _; (with_reducible repeat (first | refine bN ?_ _ | refine bD ?_ | refine bA ?_ _)); exact Q00.out⟩, ⟨by (with_reducible repeat (first | refine bN ?_ _ | refine bD ?_ | refine bA ?_ _)); refine blk_far ?_ Q0p.out _; (with_reducible repeat (first | refine bN ?_ _ | refine bD ?_ | refine bA ?_ _)); exact Q02.out⟩, ⟨by (with_reducible repeat (first | refine bN ?_ _ | refine bD ?_ | refine bA ?_ _)); refine blk_put (cs := #[.slice Q0d t104.length Q09, .slice (some ad117) t107.length Q0a, u111002, u111003]) ?_ 3 _ rfl; (with_reducible repeat (first | refine bN ?_ _ | refine bD ?_ | refine bA ?_ _)); exact Q01.out⟩, ⟨pH HB⟩⟩
                 ·rw [if_neg c67] at H
                  exact absurd H (by simp)
                ·rw [if_neg c64] at H
                 exact absurd H (by simp)
               ·rw [if_neg c63] at H
                exact absurd H (by simp)
              ·rw [if_neg c62] at H
               exact absurd H (by simp)
             ·rw [if_neg c61] at H
              exact absurd H (by simp)
            ·rw [if_neg c60] at H
             exact absurd H (by simp)
           ·rw [if_neg c59] at H
            exact absurd H (by simp)
          ·rw [if_neg c58] at H
           have c58b0 : decide (x69_3 < (t107.length : Int)) = false := decide_eq_false c58
           clear c58
           simp only [Option.some.injEq, Prod.mk.injEq] at H
           obtain ⟨rfl, rfl, rfl, rfl, rfl⟩ := H
           have Q8v := Q0v.out
           have Q8w := Q08.out
           have Q8x := Q0u.out
           have Q8y := Q0p.out
           have Q8z : wr.cell? ⟨Q04, 0, none⟩ = some (.slice Q0d t104.length Q09) := bC Q01 0
           have Q90 : wr.cell? ⟨Q04, 1, none⟩ = some (.slice Q0n t107.length Q0a) := bC Q01 1
           have Q91 : wr.cell? ⟨Q04, 2, none⟩ = some (u111002) := bC Q01 2
           have Q92 : wr.cell? ⟨Q04, 3, none⟩ = some (u111003) := bC Q01 3
           have Q93 := blk_frozen Q01.out 0
           have Q94 := blk_frozen Q01.out 1
           have Q95 := blk_frozen Q01.out 2
           have Q96 := blk_frozen Q01.out 3
           have Q97 := Q1m.out
           have Q98 := Q1l.out
           have Q99 : wr.cell? ⟨Q0b, 0, none⟩ = some (.slice none 0 0) := bC Q02 0
           have Q9a : wr.cell? ⟨Q0b, 1, none⟩ = some (.slice none 0 0) := bC Q02 1
           have Q9b : wr.cell? ⟨Q0b, 2, none⟩ = some (.slice none 0 0) := bC Q02 2
           have Q9c : wr.cell? ⟨Q0b, 3, none⟩ = some (.slice none 0 0) := bC Q02 3
           have Q9d := blk_frozen Q02.out 0
           have Q9e := blk_frozen Q02.out 1
           have Q9f := blk_frozen Q02.out 2
           have Q9g := blk_frozen Q02.out 3
           obtain ⟨Q1j, Q1k, Q4f⟩ := Kd.R_slice Q0f.out
           subst Q4f
           obtain ⟨Q1s, Q1t, Q4g⟩ := Kd.R_slice Q0j.out
           subst Q4g
           go_wp2
           refine bodyPost_ret (results_ct rfl _ _ Q0b 81 #[.slice Q0d t104.length Q09, .slice Q0n t107.length Q0a, .slice Q1j x111002_2.length Q1k, .slice Q1s x111003_3.length Q1t] (0, 0) _ rfl (by (with_reducible repeat (first | refine bN ?_ _ | refine bD ?_ | refine bA ?_ _)); refine blk_put (cs := #[.slice Q0d t104.length Q09, .slice Q0n t107.length Q0a, .slice Q1j x111002_2.length Q1k, .slice none 0 0]) ?_ 3 _ rfl; (with_reducible repeat (first | refine bN ?_ _ | refine bD ?_ | refine bA ?_ _)); refine blk_put (cs := #[.slice Q0d t104.length Q09, .slice Q0n t107.length Q0a, .slice none 0 0, .slice none 0 0]) ?_ 2 _ rfl; (with_reducible repeat (first | refine bN ?_ _ | refine bD ?_ | refine bA ?_ _)); refine blk_put (cs := #[.slice Q0d t104.length Q09, .slice none 0 0, .slice none 0 0, .slice none 0 0]) ?_ 1 _ rfl; (with_reducible repeat (first | refine bN ?_ _ | refine bD ?_ | refine bA ?_ _)); refine blk_put (cs := #[.slice none 0 0, .slice none 0 0, .slice none 0 0, .slice none 0 0]) ?_ 0 _ rfl; (with_reducible repeat (first | refine bN ?_ _ | refine bD ?_ | refine bA ?_ _)); exact Q02.out) Try.underlying81 rfl (by kernel_rfl)) rfl ?_
           exact ⟨_, _, _, _, by first | rfl | (simp [errW_none, errW_some] <;> rfl) | (simp [*, errW_none, errW_some] <;> rfl), by (with_reducible repeat (first | apply rA | apply rN | apply rD)); exact Kd.R_mono (Kd.R_far (p := ⟨Q0b, 3, none⟩) (Kd.R_far (p := ⟨Q0b, 2, none⟩) (Kd.R_far (p := ⟨Q0b, 1, none⟩) (Kd.R_far (p := ⟨Q0b, 0, none⟩) (Kd.R_types Q0e.out Q02.out (by decide)) (fun _ hk => hk.2) (.slice Q0d t104.length Q09)) (fun _ hk => hk.2) (.slice Q0n t107.length Q0a)) (fun _ hk => hk.2) (.slice Q1j x111002_2.length Q1k)) (fun _ hk => hk.2) (.slice Q1s x111003_3.length Q1t)) (fun _ hk => hk.1.2), by (with_reducible repeat (first | apply rA | apply rN | apply rD)); exact Kd.R_mono (Kd.R_far (p := ⟨Q0b, 3, none⟩) (Kd.R_far (p := ⟨Q0b, 2, none⟩) (Kd.R_far (p := ⟨Q0b, 1, none⟩) (Kd.R_far (p := ⟨Q0b, 0, none⟩) (Kd.R_types Q0g.out Q02.out (by decide)) (fun _ hk => hk.2) (.slice Q0d t104.length Q09)) (fun _ hk => hk.2) (.slice Q0n t107.length Q0a)) (fun _ hk => hk.2) (.slice Q1j x111002_2.length Q1k)) (fun _ hk => hk.2) (.slice Q1s x111003_3.length Q1t)) (fun _ hk => hk.1), by (with_reducible repeat (first | apply rA | apply rN | apply rD)); exact Kd.R_mono (Kd.R_far (p := ⟨Q0b, 3, none⟩) (Kd.R_far (p := ⟨Q0b, 2, none⟩) (Kd.R_far (p := ⟨Q0b, 1, none⟩) (Kd.R_far (p := ⟨Q0b, 0, none⟩) (Kd.R_types Q0f.out Q02.out (by decide)) (fun _ hk => hk.2) (.slice Q0d t104.length Q09)) (fun _ hk => hk.2) (.slice Q0n t107.length Q0a)) (fun _ hk => hk.2) (.slice Q1j x111002_2.length Q1k)) (fun _ hk => hk.2) (.slice Q1s x111003_3.length Q1t)) (fun _ hk => trivial), by (with_reducible repeat (first | apply rA | apply rN | apply rD)); exact Kd.R_mono (Kd.R_far (p := ⟨Q0b, 3, none⟩) (Kd.R_far (p := ⟨Q0b, 2, none⟩) (Kd.R_far (p := ⟨Q0b, 1, none⟩) (Kd.R_far (p := ⟨Q0b, 0, none⟩) (Kd.R_types Q0j.out Q02.out (by decide)) (fun _ hk => hk.2) (.slice Q0d t104.length Q09)) (fun _ hk => hk.2) (.slice Q0n t107.length Q0a)) (fun _ hk => hk.2) (.slice Q1j x111002_2.length Q1k)) (fun _ hk => hk.2) (.slice Q1s x111003_3.length Q1t)) (fun _ hk => trivial), by repeat (first | (with_reducible first | exact HB.out | apply wA | apply wN | apply wD | refine below_set ?_ Q1u.out | refine below_set ?_ Q1v.out | refine below_set ?_ Q17.out) | exact HB.out)⟩
 ·rw [if_neg c3] at H
  have c3b0 : (t103 == 0) = false := beq_eq_false_iff_ne.mpr c3
  have c3b1 : (t103 != 0) = true := bne_iff_ne.mpr c3
  simp only [Option.some.injEq, Prod.mk.injEq] at H
  obtain ⟨rfl, rfl, rfl, rfl, rfl⟩ := H
  go_enter Try.func41, Try.ntmps41
  go_wp2_with (first | ((with_reducible refine gate_dst (N := 1) rfl ?_); (try (refine gate_guard (by rfl) ?_; dsimp only)); refine box_event ?hg (N := 1) ?hd (cs := #[.slice A0_0 l0_0.length c0_0, .slice A0_1 l0_1.length c0_1, .slice A0_2 l0_2.length c0_2, .slice A0_3 l0_3.length c0_3, .slice A0_4 l0_4.length c0_4, .slice A0_5 l0_5.length c0_5, .slice A0_6 l0_6.length c0_6, .slice A0_7 l0_7.length c0_7, .slice A0_8 l0_8.length c0_8, .slice A0_9 l0_9.length c0_9]) (t := 29) ?hr ?_; (case hd => rfl); (case hg => rfl); (case hr => first | (go_simp; done) | (go_simp; rfl)); intro Q03 hg w98 hbox hb; have Q00 := Aside0.mk (hbox); have Q3v := Aside0.mk ((by rw [hg]; exact (below_size hB) : w.heap.size ≤ Q03)); have Q1u := Aside0.mk ((by rw [hg]; exact (below_size hB) : w.heap.size ≤ Q03)); replace HB := uH HB hb; clear hb hbox hg) | ((with_reducible refine gate_dst (N := 2) rfl ?_); (try (refine gate_guard (by rfl) ?_; dsimp only)); refine box_event ?hg (N := 2) ?hd (cs := #[.slice none 0 0, .slice none 0 0, .slice none 0 0, .slice none 0 0]) (t := 81) ?hr ?_; (case hd => rfl); (case hg => rfl); (case hr => first | (go_simp; done) | (go_simp; rfl)); intro Q0b hg w99 hbox hb; have Q02 := Aside0.mk (hbox); have Q3w := uS HB hg; have Q1v := uS HB hg; replace HB := uH HB hb; have Q1l := uL Q00 hg; have Q1m := uG Q00 hg; replace Q00 := uB Q00 hb; clear hb hbox hg; have Q9h := Q1l.out; have Q9i := Q1m.out; have Q9j : w99.cell? ⟨Q03, 0, none⟩ = some (.slice A0_0 l0_0.length c0_0) := bC Q00 0; have Q9k : w99.cell? ⟨Q03, 1, none⟩ = some (.slice A0_1 l0_1.length c0_1) := bC Q00 1; have Q9l : w99.cell? ⟨Q03, 2, none⟩ = some (.slice A0_2 l0_2.length c0_2) := bC Q00 2; have Q9m : w99.cell? ⟨Q03, 3, none⟩ = some (.slice A0_3 l0_3.length c0_3) := bC Q00 3; have Q9n : w99.cell? ⟨Q03, 4, none⟩ = some (.slice A0_4 l0_4.length c0_4) := bC Q00 4; have Q9o : w99.cell? ⟨Q03, 5, none⟩ = some (.slice A0_5 l0_5.length c0_5) := bC Q00 5; have Q9p : w99.cell? ⟨Q03, 6, none⟩ = some (.slice A0_6 l0_6.length c0_6) := bC Q00 6; have Q9q : w99.cell? ⟨Q03, 7, none⟩ = some (.slice A0_7 l0_7.length c0_7) := bC Q00 7; have Q9r : w99.cell? ⟨Q03, 8, none⟩ = some (.slice A0_8 l0_8.length c0_8) := bC Q00 8; have Q9s : w99.cell? ⟨Q03, 9, none⟩ = some (.slice A0_9 l0_9.length c0_9) := bC Q00 9; have Q9t := blk_frozen Q00.out 0; have Q9u := blk_frozen Q00.out 1; have Q9v := blk_frozen Q00.out 2; have Q9w := blk_frozen Q00.out 3; have Q9x := blk_frozen Q00.out 4; have Q9y := blk_frozen Q00.out 5; have Q9z := blk_frozen Q00.out 6; have Qa0 := blk_frozen Q00.out 7; have Qa1 := blk_frozen Q00.out 8; have Qa2 := blk_frozen Q00.out 9) | ((with_reducible refine gate_callee (f := 72) rfl ?_); refine goesL_ (some 13) rfl rfl Try.func72 (by kernel_rfl) rfl #[.agg #[.slice A0_0 l0_0.length c0_0, .slice A0_1 l0_1.length c0_1, .slice A0_2 l0_2.length c0_2, .slice A0_3 l0_3.length c0_3, .slice A0_4 l0_4.length c0_4, .slice A0_5 l0_5.length c0_5, .slice A0_6 l0_6.length c0_6, .slice A0_7 l0_7.length c0_7, .slice A0_8 l0_8.length c0_8, .slice A0_9 l0_9.length c0_9]] rfl aM ?_; (with_reducible refine (pullback_given.calls _ _ l0_0 _ _ l0_1 _ _ l0_2 _ _ l0_3 _ _ l0_4 _ _ l0_5 _ _ l0_6 _ _ l0_7 _ _ l0_8 _ _ l0_9 t103 _ ?side1 ?side2 ?side3 ?side4 ?side5 ?side6 ?side7 ?side8 ?side9 ?side10 ?side11 ?side12 ?side13 ?side14 ?side15 ?side16 ?side17 ?side18 ?side19 ?side20 A2.out).mono ?_); (case side1 => exact cX (cB HR0_0.out HB.out)); (case side2 => exact HC0_0.out); (case side3 => exact cX (cB HR0_1.out HB.out)); (case side4 => exact HC0_1.out); (case side5 => exact cX (cB HR0_2.out HB.out)); (case side6 => exact HC0_2.out); (case side7 => exact cX (cB HR0_3.out HB.out)); (case side8 => exact HC0_3.out); (case side9 => exact cX (cB HR0_4.out HB.out)); (case side10 => exact HC0_4.out); (case side11 => exact cX (cB HR0_5.out HB.out)); (case side12 => exact HC0_5.out); (case side13 => exact cX (cB HR0_6.out HB.out)); (case side14 => exact HC0_6.out); (case side15 => exact cX (cB HR0_7.out HB.out)); (case side16 => exact HC0_7.out); (case side17 => exact cX (cB HR0_8.out HB.out)); (case side18 => exact HC0_8.out); (case side19 => exact cX (cB HR0_9.out HB.out)); (case side20 => exact HC0_9.out); rintro e w102 ⟨rfl, hb⟩; refine ⟨_, rfl, ?_⟩; replace Q00 := uB Q00 hb; replace Q02 := uB Q02 hb; replace HB := uH HB hb; (try clear hb); (try clear hb2); (try clear hk); (try clear hi); have Qa3 : w102.cell? ⟨Q0b, 0, none⟩ = some (.slice none 0 0) := bC Q02 0; have Qa4 : w102.cell? ⟨Q0b, 1, none⟩ = some (.slice none 0 0) := bC Q02 1; have Qa5 : w102.cell? ⟨Q0b, 2, none⟩ = some (.slice none 0 0) := bC Q02 2; have Qa6 : w102.cell? ⟨Q0b, 3, none⟩ = some (.slice none 0 0) := bC Q02 3; have Qa7 := blk_frozen Q02.out 0; have Qa8 := blk_frozen Q02.out 1; have Qa9 := blk_frozen Q02.out 2; have Qaa := blk_frozen Q02.out 3))
  refine bodyPost_ret (results_ct rfl _ _ Q0b 81 #[.slice none 0 0, .slice none 0 0, .slice none 0 0, .slice none 0 0] (0, 0) _ rfl (by (with_reducible repeat (first | refine bN ?_ _ | refine bD ?_ | refine bA ?_ _)); refine blk_put (cs := #[.slice none 0 0, .slice none 0 0, .slice none 0 0, .slice none 0 0]) ?_ 3 _ rfl; (with_reducible repeat (first | refine bN ?_ _ | refine bD ?_ | refine bA ?_ _)); refine blk_put (cs := #[.slice none 0 0, .slice none 0 0, .slice none 0 0, .slice none 0 0]) ?_ 2 _ rfl; (with_reducible repeat (first | refine bN ?_ _ | refine bD ?_ | refine bA ?_ _)); refine blk_put (cs := #[.slice none 0 0, .slice none 0 0, .slice none 0 0, .slice none 0 0]) ?_ 1 _ rfl; (with_reducible repeat (first | refine bN ?_ _ | refine bD ?_ | refine bA ?_ _)); refine blk_put (cs := #[.slice none 0 0, .slice none 0 0, .slice none 0 0, .slice none 0 0]) ?_ 0 _ rfl; (with_reducible repeat (first | refine bN ?_ _ | refine bD ?_ | refine bA ?_ _)); exact Q02.out) Try.underlying81 rfl (by kernel_rfl)) rfl ?_
  exact ⟨_, _, _, _, by first | rfl | (simp [errW_none, errW_some] <;> rfl) | (simp [*, errW_none, errW_some] <;> rfl), by first | exact Kd.R_nil _ _ _ _ _ | exact Kd.N_nil _ _ _ _ _ | exact Kd.V_nil _ _ _ _ _ | exact Kd.Q_nil _ _ _ _ _ | exact Kd.S_nil _ _ _ _ _, by first | exact Kd.R_nil _ _ _ _ _ | exact Kd.N_nil _ _ _ _ _ | exact Kd.V_nil _ _ _ _ _ | exact Kd.Q_nil _ _ _ _ _ | exact Kd.S_nil _ _ _ _ _, by first | exact Kd.R_nil _ _ _ _ _ | exact Kd.N_nil _ _ _ _ _ | exact Kd.V_nil _ _ _ _ _ | exact Kd.Q_nil _ _ _ _ _ | exact Kd.S_nil _ _ _ _ _, by first | exact Kd.R_nil _ _ _ _ _ | exact Kd.N_nil _ _ _ _ _ | exact Kd.V_nil _ _ _ _ _ | exact Kd.Q_nil _ _ _ _ _ | exact Kd.S_nil _ _ _ _ _, by repeat (first | (with_reducible first | exact HB.out | apply wA | apply wN | apply wD | refine below_set ?_ Q1u.out | refine below_set ?_ Q1v.out) | exact HB.out)⟩
/-! ### pullback_meet: function 43 -/
def pullback_meet.l0 : Nat → List (S79) → List Int → List Int → List Int → Int → Int → Option (List Int × Bool)
 | 0, _, _, _, _, _, _ => none
 | k + 1, x0, x1, x2, x8, x12, x13 => if x13 < x12 then (if 0 ≤ x13 then (if x13 < (x1.length : Int) then (if x13 < (x2.length : Int) then ((api_Pair_73.f k x0 (rd x1 x13) (rd x2 x13)).bind fun t103 => (if t103 < 0 then (some (([] : List Int), false)) else (if x8.length < 17592186044416 then (pullback_meet.l0 k x0 x1 x2 (x8 ++ [t103]) x12 (wrap64 (x13 + 1))) else (none)))) else (none)) else (none)) else (none)) else (some (x8, true))
def pullback_meet.f (k : Nat) (l0 : List (S79)) (l1 : List Int) (l2 : List Int) : Option (List Int × Bool) := pullback_meet.l0 k l0 l1 l2 ([] : List Int) (l1.length : Int) 0
theorem pullback_meet.mono_l : ∀ k, (∀ y0 y1 y2 y3 y4 y5, LeO (pullback_meet.l0 k y0 y1 y2 y3 y4 y5) (pullback_meet.l0 (k + 1) y0 y1 y2 y3 y4 y5))
 | 0 => fun _ _ _ _ _ _ r h => by simp [pullback_meet.l0] at h
 | k + 1 => by
  have ih0 := pullback_meet.mono_l k
  ·intro y0 y1 y2 y3 y4 y5
   unfold pullback_meet.l0
   repeat' first
   | (with_reducible exact ih0 _ _ _ _ _ _)
   | (with_reducible exact api_Pair_73.mono _ _ _ _)
   | (with_reducible exact LeO.refl _)
   | (with_reducible exact LeO.none _)
   | (with_reducible refine LeO.ite ?_ ?_)
   | (with_reducible refine LeO.bind ?_ (fun _ => ?_))
   | exact ih0 _ _ _ _ _ _
   | exact api_Pair_73.mono _ _ _ _
   | exact LeO.none _
   | refine LeO.ite ?_ ?_
   | refine LeO.bind ?_ (fun _ => ?_)
theorem pullback_meet.mono : ∀ a0 a1 a2 k, LeO (pullback_meet.f k a0 a1 a2) (pullback_meet.f (k + 1) a0 a1 a2) := by
 intro a0 a1 a2 k
 have ih0 := pullback_meet.mono_l k
 unfold pullback_meet.f
 repeat' first
   | (with_reducible exact ih0 _ _ _ _ _ _)
   | (with_reducible exact api_Pair_73.mono _ _ _ _)
   | (with_reducible exact LeO.refl _)
   | (with_reducible exact LeO.none _)
   | (with_reducible refine LeO.ite ?_ ?_)
   | (with_reducible refine LeO.bind ?_ (fun _ => ?_))
   | exact ih0 _ _ _ _ _ _
   | exact api_Pair_73.mono _ _ _ _
   | exact LeO.none _
   | refine LeO.ite ?_ ?_
   | refine LeO.bind ?_ (fun _ => ?_)
def pullback_meet.T5 : Bool × List (List Nat × List Nat) := (true, [([], []), ([], []), ([], []), ([1, 2], [1, 2]), ([3], [3]), ([], []), ([], []), ([5, 6], [5, 6]), ([7], [7]), ([4, 8], [4, 8]), ([0, 9], [0, 9]), ([10, 10, 0, 1, 2, 3, 4, 5, 6, 7, 8, 9, 10], [10])])
def pullback_meet.B5 : List Nat := [0, 0, 0, 6, 14, 0, 0, 96, 224, 510, 1023, 2047]
theorem pullback_meet.tab5 : rtab .any (opsOf Try.f43 5) = pullback_meet.T5 := by kernel_rfl
theorem pullback_meet.bits5 : waitsOk pullback_meet.T5.2 pullback_meet.B5 = true := by kernel_rfl
set_option maxHeartbeats 8000000 in
set_option maxRecDepth 100000 in
theorem pullback_meet.calls (k : Nat) (A0 : Option Addr) (c0 : Nat) (l0 : List (S79)) (A1 : Option Addr) (c1 : Nat) (l1 : List Int) (A2 : Option Addr) (c2 : Nat) (l2 : List Int) (r1 : List Int) (r2 : Bool) (w : World) (hr0 : Kd.C k79 w A0 l0.length l0) (hc0 : l0.length ≤ c0) (hr1 : Kd.C (Kd.int .i64) w A1 l1.length l1) (hc1 : l1.length ≤ c1) (hr2 : Kd.C (Kd.int .i64) w A2 l2.length l2) (hc2 : l2.length ≤ c2) (h : pullback_meet.f k l0 l1 l2 = some (r1, r2)) :
  Calls Try.prog 43 #[.slice A0 l0.length c0, .slice A1 l1.length c1, .slice A2 l2.length c2] w fun e w' => ∃ v0_ : Value, e = .returned (.tuple #[v0_, .bool r2]) ∧ Kd.R (Kd.int .i64) 3 w' w.heap.size (fun _ => True) v0_ r1 ∧ Below w.heap.size w w' := by
 have hu79 := Try.underlying79
 have HR0 := Aside0.mk hr0
 have HC0 := Aside0.mk hc0
 clear hr0 hc0
 have HR1 := Aside0.mk hr1
 have HC1 := Aside0.mk hc1
 clear hr1 hc1
 have HR2 := Aside0.mk hr2
 have HC2 := Aside0.mk hc2
 clear hr2 hc2
 have HB := Aside0.mk (Below.refl w.heap.size w)
 have H : (pullback_meet.l0 k l0 l1 l2 ([] : List Int) (l1.length : Int) 0) = some (r1, r2) := h
 clear h
 have H' := Aside0.mk H
 clear H
 go_enter Try.func43, Try.ntmps43
 go_wp2
 go_loopg [8, 13] k (fun kq v8 v13 w' => ∃ (x8_1 : List Int) (x13_1 : Int), v13 = .int .i64 x13_1 ∧ Aside0 (pullback_meet.l0 kq l0 l1 l2 x8_1 (l1.length : Int) x13_1 = some (r1, r2)) ∧ Aside0 (kq ≤ k) ∧ Aside0 (Kd.R (Kd.int .i64) 3 w' w.heap.size (fun _ => True) v8 x8_1) ∧ Aside0 (Below w.heap.size w w'))
 case atStart => exact ⟨(([] : List Int)), (0), rS, H', ⟨Nat.le_refl _⟩, ⟨by first | exact Kd.R_nil _ _ _ _ _ | exact Kd.N_nil _ _ _ _ _ | exact Kd.V_nil _ _ _ _ _ | exact Kd.Q_nil _ _ _ _ _ | exact Kd.S_nil _ _ _ _ _⟩, ⟨pH HB⟩⟩
 case round =>
  clear H'
  try clear c1; try clear c2; try clear p2
  obtain ⟨x8_1, x13_1, rfl, HA, HK1, Q00, HB⟩ := hrel
  cases gk with
  | zero => exact absurd HA.out (by simp [pullback_meet.l0])
  | succ k1 =>
   have H := HA.out
   clear HA
   simp only [pullback_meet.l0] at H
   by_cases c4 : x13_1 < (l1.length : Int)
   ·rw [if_pos c4] at H
    have c4b0 : decide (x13_1 < (l1.length : Int)) = true := decide_eq_true c4
    clear c4
    by_cases c5 : 0 ≤ x13_1
    ·rw [if_pos c5] at H
     have c5b0 : decide (0 ≤ x13_1) = true := decide_eq_true c5
     clear c5
     by_cases c6 : x13_1 < (l1.length : Int)
     ·rw [if_pos c6] at H
      have c6b0 : decide (x13_1 < (l1.length : Int)) = true := decide_eq_true c6
      clear c6
      by_cases c7 : x13_1 < (l2.length : Int)
      ·rw [if_pos c7] at H
       have c7b0 : decide (x13_1 < (l2.length : Int)) = true := decide_eq_true c7
       clear c7
       replace H := Option.bind_eq_some_iff.mp H
       obtain ⟨t103, A80, H⟩ := H
       replace H : (if t103 < 0 then (some (([] : List Int), false)) else (if x8_1.length < 17592186044416 then (pullback_meet.l0 k1 l0 l1 l2 (x8_1 ++ [t103]) (l1.length : Int) (wrap64 (x13_1 + 1))) else (none))) = some (r1, r2) := H
       have A8 := Aside0.mk A80
       clear A80
       by_cases c9 : t103 < 0
       ·rw [if_pos c9] at H
        have c9b0 : decide (t103 < 0) = true := decide_eq_true c9
        clear c9
        simp only [Option.some.injEq, Prod.mk.injEq] at H
        obtain ⟨rfl, rfl⟩ := H
        try go_wp2
        replace Q00 := Aside0.mk (rD Q00.out)
        replace HB := Aside0.mk (wD HB.out)
        have p101 : 0 ≤ (x13_1 : Int) := oT
        have q101 : x13_1 < (l1.length : Int) := oT
        obtain ⟨ad101, e101, hx101_0⟩ := Kd.at_int HR1.out x13_1 p101 q101
        have hw101_0 := hx101_0
        cases e101
        replace hx101_0 := (HB.out.cell (World.block_lt_of_cell? w _ hx101_0)).trans hx101_0
        replace p101 := eq_true p101
        replace q101 := eq_true q101
        have p102 : 0 ≤ (x13_1 : Int) := oT
        have q102 : x13_1 < (l2.length : Int) := oT
        obtain ⟨ad102, e102, hx102_0⟩ := Kd.at_int HR2.out x13_1 p102 q102
        have hw102_0 := hx102_0
        cases e102
        replace hx102_0 := (HB.out.cell (World.block_lt_of_cell? w _ hx102_0)).trans hx102_0
        replace p102 := eq_true p102
        replace q102 := eq_true q102
        refine start_ (n := 12) (S := fun w' => w'.cell? (ad101.add (x13_1).toNat) = some (.int .i64 (rd l1 x13_1)) ∧ w'.cell? (ad102.add (x13_1).toNat) = some (.int .i64 (rd l2 x13_1))) (ds := []) #[false, false, false, false, false, false, false, false, false, false, false, false] (by kernel_rfl) rfl rfl ⟨((HB.out.cell (World.block_lt_of_cell? w _ hw101_0)).trans hw101_0), ((HB.out.cell (World.block_lt_of_cell? w _ hw102_0)).trans hw102_0)⟩ (fun hHeld => ?_); refine with_tabW pullback_meet.tab5 pullback_meet.bits5 (fun HT_ HW_ => ?_)
        generalize wr.drew = w10 at Q00 HB hx101_0 hx102_0 hHeld ⊢
        refine pure_ (i := 0) (N := some 16) (v := ?_) (a' := ?_) #[true, false, false, false, false, false, false, false, false, false, false, false] rfl rfl (any_of HT_.out (by kernel_rfl)) (fun _ _ _ h => h) (Or.inl ⟨by rfl, ?_⟩) ?_ ?_
        rotate_left
        ·intro w'
         go_simp
         with_reducible rfl
        rotate_left
        ·simp only [Act.put, List.setIfInBounds_toArray, List.set_cons_zero, List.set_cons_succ, i64_w, i32_w]
         rfl
        refine pure_ (i := 1) (N := some 17) (v := ?_) (a' := ?_) #[true, true, false, false, false, false, false, false, false, false, false, false] rfl rfl (any_of HT_.out (by kernel_rfl)) (fun _ _ _ h => h) (Or.inl ⟨by rfl, ?_⟩) ?_ ?_
        rotate_left
        ·intro w'
         go_simp
         with_reducible rfl
        rotate_left
        ·simp only [Act.put, List.setIfInBounds_toArray, List.set_cons_zero, List.set_cons_succ, i64_w, i32_w]
         rfl
        refine pure_ (i := 2) (N := some 18) (v := ?_) (a' := ?_) #[true, true, true, false, false, false, false, false, false, false, false, false] rfl rfl (any_of HT_.out (by kernel_rfl)) (fun _ _ _ h => h) (Or.inl ⟨by rfl, ?_⟩) ?_ ?_
        rotate_left
        ·intro w'
         go_simp
         with_reducible rfl
        rotate_left
        ·simp only [Act.put, List.setIfInBounds_toArray, List.set_cons_zero, List.set_cons_succ, i64_w, i32_w]
         rfl
        refine pure_ (i := 3) (N := some 19) (v := ?_) (a' := ?_) #[true, true, true, true, false, false, false, false, false, false, false, false] rfl rfl (any_of HT_.out (by kernel_rfl)) (fun _ _ _ h => h) (Or.inl ⟨by rfl, ?_⟩) ?_ ?_
        rotate_left
        ·intro w'
         go_simp
         with_reducible rfl
        rotate_left
        ·simp only [Act.put, List.setIfInBounds_toArray, List.set_cons_zero, List.set_cons_succ, i64_w, i32_w]
         rfl
        refine pure_ (i := 5) (N := some 21) (v := ?_) (a' := ?_) #[true, true, true, true, false, true, false, false, false, false, false, false] rfl rfl (any_of HT_.out (by kernel_rfl)) (fun _ _ _ h => h) (Or.inl ⟨by rfl, ?_⟩) ?_ ?_
        rotate_left
        ·intro w'
         go_simp
         with_reducible rfl
        rotate_left
        ·simp only [Act.put, List.setIfInBounds_toArray, List.set_cons_zero, List.set_cons_succ, i64_w, i32_w]
         rfl
        refine pure_ (i := 6) (N := some 22) (v := ?_) (a' := ?_) #[true, true, true, true, false, true, true, false, false, false, false, false] rfl rfl (any_of HT_.out (by kernel_rfl)) (fun _ _ _ h => h) (Or.inl ⟨by rfl, ?_⟩) ?_ ?_
        rotate_left
        ·intro w'
         go_simp
         with_reducible rfl
        rotate_left
        ·simp only [Act.put, List.setIfInBounds_toArray, List.set_cons_zero, List.set_cons_succ, i64_w, i32_w]
         rfl
        refine pure_ (i := 7) (N := some 23) (v := ?_) (a' := ?_) #[true, true, true, true, false, true, true, true, false, false, false, false] rfl rfl (any_of HT_.out (by kernel_rfl)) (fun _ _ _ h => h) (Or.inl ⟨by rfl, ?_⟩) ?_ ?_
        rotate_left
        ·intro w'
         go_simp
         with_reducible rfl
        rotate_left
        ·simp only [Act.put, List.setIfInBounds_toArray, List.set_cons_zero, List.set_cons_succ, i64_w, i32_w]
         rfl
        refine take_ (i := 4) (N := some 20) (v := ?_) (a' := ?_) #[true, true, true, true, true, true, true, true, false, false, false, false] rfl rfl (take_ofW HT_.out HW_.out (by kernel_rfl)) (fun _ _ _ h => h) (Or.inl ⟨by rfl, ?_⟩) hHeld ?_ ?_
        rotate_left
        ·rintro w' ⟨s0, s1⟩
         go_simp
         with_reducible rfl
        rotate_left
        ·simp only [Act.put, List.setIfInBounds_toArray, List.set_cons_zero, List.set_cons_succ, i64_w, i32_w]
         rfl
        refine take_ (i := 8) (N := some 24) (v := ?_) (a' := ?_) #[true, true, true, true, true, true, true, true, true, false, false, false] rfl rfl (take_ofW HT_.out HW_.out (by kernel_rfl)) (fun _ _ _ h => h) (Or.inl ⟨by rfl, ?_⟩) hHeld ?_ ?_
        rotate_left
        ·rintro w' ⟨s0, s1⟩
         go_simp
         with_reducible rfl
        rotate_left
        ·simp only [Act.put, List.setIfInBounds_toArray, List.set_cons_zero, List.set_cons_succ, i64_w, i32_w]
         rfl
        refine pure_ (i := 9) (N := some 25) (v := ?_) (a' := ?_) #[true, true, true, true, true, true, true, true, true, true, false, false] rfl rfl (any_of HT_.out (by kernel_rfl)) (fun _ _ _ h => h) (Or.inl ⟨by rfl, ?_⟩) ?_ ?_
        rotate_left
        ·intro w'
         go_simp
         with_reducible rfl
        rotate_left
        ·simp only [Act.put, List.setIfInBounds_toArray, List.set_cons_zero, List.set_cons_succ, i64_w, i32_w]
         rfl
        refine one_ (i := 10) (N := some 26) #[true, true, true, true, true, true, true, true, true, true, true, false] rfl rfl (one_of HT_.out (by kernel_rfl)) (by decide) (fun K hK => ?_)
        refine goes_ Try.func73 (by kernel_rfl) rfl #[.slice A0 l0.length c0, .agg #[.int .i64 (rd l1 x13_1), .int .i64 (rd l2 x13_1)]] (by rfl) rfl rfl aM ?_
        with_reducible refine (api_Pair_73.calls k1 _ _ l0 (rd l1 x13_1) (rd l2 x13_1) t103 _ ?side1 ?side2 A8.out).mono ?_
        (case side1 => exact cX (cB HR0.out HB.out))
        (case side2 => exact HC0.out)
        rintro e w11 ⟨rfl, hb⟩
        refine ⟨_, rfl, ?_⟩
        replace Q00 := uR Q00 hb
        replace HB := uH HB hb
        (try clear hb)
        (try clear hb2)
        (try clear hk)
        (try clear hi)
        refine hK.out _ _ ⟨((HB.out.cell (World.block_lt_of_cell? w _ hw101_0)).trans hw101_0), ((HB.out.cell (World.block_lt_of_cell? w _ hw102_0)).trans hw102_0)⟩ (fun hHeld => ?_)
        clear hK K
        refine norm_ (a' := ?_) ?_ ?_
        rotate_left
        ·show Act.put _ (some 26) _ = _
         simp only [Act.put, List.setIfInBounds_toArray, List.set_cons_zero, List.set_cons_succ, i64_w, i32_w]
         rfl
        refine pure_ (i := 11) (N := some 10) (v := ?_) (a' := ?_) #[true, true, true, true, true, true, true, true, true, true, true, true] rfl rfl (any_of HT_.out (by kernel_rfl)) (fun _ _ _ h => h) (Or.inl ⟨by rfl, ?_⟩) ?_ ?_
        rotate_left
        ·intro w'
         go_simp
         with_reducible rfl
        rotate_left
        ·simp only [Act.put, List.setIfInBounds_toArray, List.set_cons_zero, List.set_cons_succ, i64_w, i32_w]
         rfl
        refine done_ (done_of HT_.out (by kernel_rfl)) ?_
        try go_wp2
        go_ret2
        exact ⟨_, by first | rfl | (simp [errW_none, errW_some] <;> rfl) | (simp [*, errW_none, errW_some] <;> rfl), by first | exact Kd.R_nil _ _ _ _ _ | exact Kd.N_nil _ _ _ _ _ | exact Kd.V_nil _ _ _ _ _ | exact Kd.Q_nil _ _ _ _ _ | exact Kd.S_nil _ _ _ _ _, by repeat (first | (with_reducible first | exact HB.out | apply wA | apply wN | apply wD) | exact HB.out)⟩
       ·rw [if_neg c9] at H
        have c9b0 : decide (t103 < 0) = false := decide_eq_false c9
        clear c9
        by_cases c12 : x8_1.length < 17592186044416
        ·rw [if_pos c12] at H
         have LMc12 := Aside0.mk c12
         clear c12
         obtain ⟨y104, hy104⟩ : ∃ y_ : List Int, y_ = (x8_1 ++ [t103]) := ⟨_, rfl⟩
         replace H : (pullback_meet.l0 k1 l0 l1 l2 y104 (l1.length : Int) (wrap64 (x13_1 + 1))) = some (r1, r2) := by first | (rw [hy104]; with_reducible exact H) | (have H2_ := (Option.bind_some _ _).symm.trans H; rw [hy104]; with_reducible exact H2_) | (have H2_ := (Option.bind_some _ _).symm.trans H; with_reducible exact H2_) | with_reducible exact H | (rw [hy104]; exact H) | exact H
         have Ny104 := Aside0.mk hy104
         clear hy104
         have H' := Aside0.mk H
         clear H
         try go_wp2
         replace Q00 := Aside0.mk (rD Q00.out)
         replace HB := Aside0.mk (wD HB.out)
         have p101 : 0 ≤ (x13_1 : Int) := oT
         have q101 : x13_1 < (l1.length : Int) := oT
         obtain ⟨ad101, e101, hx101_0⟩ := Kd.at_int HR1.out x13_1 p101 q101
         have hw101_0 := hx101_0
         cases e101
         replace hx101_0 := (HB.out.cell (World.block_lt_of_cell? w _ hx101_0)).trans hx101_0
         replace p101 := eq_true p101
         replace q101 := eq_true q101
         have p102 : 0 ≤ (x13_1 : Int) := oT
         have q102 : x13_1 < (l2.length : Int) := oT
         obtain ⟨ad102, e102, hx102_0⟩ := Kd.at_int HR2.out x13_1 p102 q102
         have hw102_0 := hx102_0
         cases e102
         replace hx102_0 := (HB.out.cell (World.block_lt_of_cell? w _ hx102_0)).trans hx102_0
         replace p102 := eq_true p102
         replace q102 := eq_true q102
         refine start_ (n := 12) (S := fun w' => w'.cell? (ad101.add (x13_1).toNat) = some (.int .i64 (rd l1 x13_1)) ∧ w'.cell? (ad102.add (x13_1).toNat) = some (.int .i64 (rd l2 x13_1))) (ds := []) #[false, false, false, false, false, false, false, false, false, false, false, false] (by kernel_rfl) rfl rfl ⟨((HB.out.cell (World.block_lt_of_cell? w _ hw101_0)).trans hw101_0), ((HB.out.cell (World.block_lt_of_cell? w _ hw102_0)).trans hw102_0)⟩ (fun hHeld => ?_); refine with_tabW pullback_meet.tab5 pullback_meet.bits5 (fun HT_ HW_ => ?_)
         generalize wr.drew = w13 at Q00 HB hx101_0 hx102_0 hHeld ⊢
         refine pure_ (i := 0) (N := some 16) (v := ?_) (a' := ?_) #[true, false, false, false, false, false, false, false, false, false, false, false] rfl rfl (any_of HT_.out (by kernel_rfl)) (fun _ _ _ h => h) (Or.inl ⟨by rfl, ?_⟩) ?_ ?_
         rotate_left
         ·intro w'
          go_simp
          with_reducible rfl
         rotate_left
         ·simp only [Act.put, List.setIfInBounds_toArray, List.set_cons_zero, List.set_cons_succ, i64_w, i32_w]
          rfl
         refine pure_ (i := 1) (N := some 17) (v := ?_) (a' := ?_) #[true, true, false, false, false, false, false, false, false, false, false, false] rfl rfl (any_of HT_.out (by kernel_rfl)) (fun _ _ _ h => h) (Or.inl ⟨by rfl, ?_⟩) ?_ ?_
         rotate_left
         ·intro w'
          go_simp
          with_reducible rfl
         rotate_left
         ·simp only [Act.put, List.setIfInBounds_toArray, List.set_cons_zero, List.set_cons_succ, i64_w, i32_w]
          rfl
         refine pure_ (i := 2) (N := some 18) (v := ?_) (a' := ?_) #[true, true, true, false, false, false, false, false, false, false, false, false] rfl rfl (any_of HT_.out (by kernel_rfl)) (fun _ _ _ h => h) (Or.inl ⟨by rfl, ?_⟩) ?_ ?_
         rotate_left
         ·intro w'
          go_simp
          with_reducible rfl
         rotate_left
         ·simp only [Act.put, List.setIfInBounds_toArray, List.set_cons_zero, List.set_cons_succ, i64_w, i32_w]
          rfl
         refine pure_ (i := 3) (N := some 19) (v := ?_) (a' := ?_) #[true, true, true, true, false, false, false, false, false, false, false, false] rfl rfl (any_of HT_.out (by kernel_rfl)) (fun _ _ _ h => h) (Or.inl ⟨by rfl, ?_⟩) ?_ ?_
         rotate_left
         ·intro w'
          go_simp
          with_reducible rfl
         rotate_left
         ·simp only [Act.put, List.setIfInBounds_toArray, List.set_cons_zero, List.set_cons_succ, i64_w, i32_w]
          rfl
         refine pure_ (i := 5) (N := some 21) (v := ?_) (a' := ?_) #[true, true, true, true, false, true, false, false, false, false, false, false] rfl rfl (any_of HT_.out (by kernel_rfl)) (fun _ _ _ h => h) (Or.inl ⟨by rfl, ?_⟩) ?_ ?_
         rotate_left
         ·intro w'
          go_simp
          with_reducible rfl
         rotate_left
         ·simp only [Act.put, List.setIfInBounds_toArray, List.set_cons_zero, List.set_cons_succ, i64_w, i32_w]
          rfl
         refine pure_ (i := 6) (N := some 22) (v := ?_) (a' := ?_) #[true, true, true, true, false, true, true, false, false, false, false, false] rfl rfl (any_of HT_.out (by kernel_rfl)) (fun _ _ _ h => h) (Or.inl ⟨by rfl, ?_⟩) ?_ ?_
         rotate_left
         ·intro w'
          go_simp
          with_reducible rfl
         rotate_left
         ·simp only [Act.put, List.setIfInBounds_toArray, List.set_cons_zero, List.set_cons_succ, i64_w, i32_w]
          rfl
         refine pure_ (i := 7) (N := some 23) (v := ?_) (a' := ?_) #[true, true, true, true, false, true, true, true, false, false, false, false] rfl rfl (any_of HT_.out (by kernel_rfl)) (fun _ _ _ h => h) (Or.inl ⟨by rfl, ?_⟩) ?_ ?_
         rotate_left
         ·intro w'
          go_simp
          with_reducible rfl
         rotate_left
         ·simp only [Act.put, List.setIfInBounds_toArray, List.set_cons_zero, List.set_cons_succ, i64_w, i32_w]
          rfl
         refine take_ (i := 4) (N := some 20) (v := ?_) (a' := ?_) #[true, true, true, true, true, true, true, true, false, false, false, false] rfl rfl (take_ofW HT_.out HW_.out (by kernel_rfl)) (fun _ _ _ h => h) (Or.inl ⟨by rfl, ?_⟩) hHeld ?_ ?_
         rotate_left
         ·rintro w' ⟨s0, s1⟩
          go_simp
          with_reducible rfl
         rotate_left
         ·simp only [Act.put, List.setIfInBounds_toArray, List.set_cons_zero, List.set_cons_succ, i64_w, i32_w]
          rfl
         refine take_ (i := 8) (N := some 24) (v := ?_) (a' := ?_) #[true, true, true, true, true, true, true, true, true, false, false, false] rfl rfl (take_ofW HT_.out HW_.out (by kernel_rfl)) (fun _ _ _ h => h) (Or.inl ⟨by rfl, ?_⟩) hHeld ?_ ?_
         rotate_left
         ·rintro w' ⟨s0, s1⟩
          go_simp
          with_reducible rfl
         rotate_left
         ·simp only [Act.put, List.setIfInBounds_toArray, List.set_cons_zero, List.set_cons_succ, i64_w, i32_w]
          rfl
         refine pure_ (i := 9) (N := some 25) (v := ?_) (a' := ?_) #[true, true, true, true, true, true, true, true, true, true, false, false] rfl rfl (any_of HT_.out (by kernel_rfl)) (fun _ _ _ h => h) (Or.inl ⟨by rfl, ?_⟩) ?_ ?_
         rotate_left
         ·intro w'
          go_simp
          with_reducible rfl
         rotate_left
         ·simp only [Act.put, List.setIfInBounds_toArray, List.set_cons_zero, List.set_cons_succ, i64_w, i32_w]
          rfl
         refine one_ (i := 10) (N := some 26) #[true, true, true, true, true, true, true, true, true, true, true, false] rfl rfl (one_of HT_.out (by kernel_rfl)) (by decide) (fun K hK => ?_)
         refine goes_ Try.func73 (by kernel_rfl) rfl #[.slice A0 l0.length c0, .agg #[.int .i64 (rd l1 x13_1), .int .i64 (rd l2 x13_1)]] (by rfl) rfl rfl aM ?_
         with_reducible refine (api_Pair_73.calls k1 _ _ l0 (rd l1 x13_1) (rd l2 x13_1) t103 _ ?side1 ?side2 A8.out).mono ?_
         (case side1 => exact cX (cB HR0.out HB.out))
         (case side2 => exact HC0.out)
         rintro e w14 ⟨rfl, hb⟩
         refine ⟨_, rfl, ?_⟩
         replace Q00 := uR Q00 hb
         replace HB := uH HB hb
         (try clear hb)
         (try clear hb2)
         (try clear hk)
         (try clear hi)
         refine hK.out _ _ ⟨((HB.out.cell (World.block_lt_of_cell? w _ hw101_0)).trans hw101_0), ((HB.out.cell (World.block_lt_of_cell? w _ hw102_0)).trans hw102_0)⟩ (fun hHeld => ?_)
         clear hK K
         refine norm_ (a' := ?_) ?_ ?_
         rotate_left
         ·show Act.put _ (some 26) _ = _
          simp only [Act.put, List.setIfInBounds_toArray, List.set_cons_zero, List.set_cons_succ, i64_w, i32_w]
          rfl
         refine pure_ (i := 11) (N := some 10) (v := ?_) (a' := ?_) #[true, true, true, true, true, true, true, true, true, true, true, true] rfl rfl (any_of HT_.out (by kernel_rfl)) (fun _ _ _ h => h) (Or.inl ⟨by rfl, ?_⟩) ?_ ?_
         rotate_left
         ·intro w'
          go_simp
          with_reducible rfl
         rotate_left
         ·simp only [Act.put, List.setIfInBounds_toArray, List.set_cons_zero, List.set_cons_succ, i64_w, i32_w]
          rfl
         refine done_ (done_of HT_.out (by kernel_rfl)) ?_
         try go_wp2_with (first | ((with_reducible refine gate_builtin (b := .append) (xs := #[.tmp 29, .tmp 31]) rfl ?_); at_builtin; refine Kd.R_append (Kd.int .i64) (w0 := w) w.heap.size rfl (.tmp 29) (.tmp 31) 22 3 (.int .i64 0) 8 rfl Try.underlying22 info3 rfl (by decide) (by omega) u8 x8_1 t103 [.int .i64 t103] (fun _ => True) (fun _ => False) rfl rfl ?aP (fun _ hk => hk.elim) ?aF ?aO ?aB ?aS ?aL ?_; (case aP => exact rfl); (case aB => exact hB); (case aF => exact (fun _ _ => trivial)); (case aO => exact (pR Q00)); (case aS => exact (below_size hB)); (case aL => have := LMc12.out; omega); intro v105 w15 ho hb hg hat; rw [← Ny104.out] at ho; replace HB := Aside0.mk (hb); have Q01 := Aside0.mk (ho); clear Q00; clear ho hb hg hat))
         go_roundg k1
         case measure => have := HK1.out; omega
         case rel => exact ⟨(y104), (wrap64 (x13_1 + 1)), rS, H', ⟨by have := HK1.out; omega⟩, ⟨pR Q01⟩, ⟨pH HB⟩⟩
        ·rw [if_neg c12] at H
         exact absurd H (by simp)
      ·rw [if_neg c7] at H
       exact absurd H (by simp)
     ·rw [if_neg c6] at H
      exact absurd H (by simp)
    ·rw [if_neg c5] at H
     exact absurd H (by simp)
   ·rw [if_neg c4] at H
    have c4b0 : decide (x13_1 < (l1.length : Int)) = false := decide_eq_false c4
    clear c4
    simp only [Option.some.injEq, Prod.mk.injEq] at H
    obtain ⟨rfl, rfl⟩ := H
    go_wp2
    go_ret2
    exact ⟨_, by first | rfl | (simp [errW_none, errW_some] <;> rfl) | (simp [*, errW_none, errW_some] <;> rfl), by (with_reducible repeat (first | apply rA | apply rN | apply rD)); exact Q00.out, by repeat (first | (with_reducible first | exact HB.out | apply wA | apply wN | apply wD) | exact HB.out)⟩
end Go.Proofs.Ytillofiphkmjjaa.X
