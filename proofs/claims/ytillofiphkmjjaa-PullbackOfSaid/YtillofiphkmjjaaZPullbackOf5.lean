/- A part of the proof that the law PullbackOf returns true at every input: contracts of the functions that it calls, and lemmas. -/
import Derived.Test.YtillofiphkmjjaaZPullbackOf4
namespace Go.Proofs.Ytillofiphkmjjaa.X
open Go.RowKit Go.Proofs.YtillofiphkmjjaaW.PrintWords Go.Proofs.YtillofiphkmjjaaW.PrintLast Go.Proofs.YtillofiphkmjjaaW.PrintMore
open Go.Proofs.YtillofiphkmjjaaW.PrintWords renaming blk_drewN → bN, blk_drew → bD, blk_alloc → bA, below_alloc → wA, pw_below_drewN → wN, below_drew1 → wD, blk_below → bB, below_step → wS, blk_at → bT, blk_grown → bG
open Go.Proofs.YtillofiphkmjjaaW.PrintWords.Kd renaming R_alloc → rA, R_drewN → rN, R_drew → rD, R_below → rB, R_grown → rG, C_below → cB, C_alloc → cA, C_drewN → cN, C_drew → cD
attribute [local go_sem] max2_int min2_int max_two min_two max_three min_three max_four min_four
set_option linter.unusedVariables false
set_option linter.unusedSimpArgs false
/-! ### scarfjointref11_Of: function 36 -/
mutual
def scarfjointref11_Of.j0 : Nat → List (S79) → List (S79) → Bool → List Int → List (S94) → List Int → List (S94) → List Int → List (S94) → List Int → List Int → List Int → List Int → Option (List Int × (List (S94)) × List Int × List Int × List Int × List Int × Int)
 | 0, _, _, _, _, _, _, _, _, _, _, _, _, _ => none
 | k + 1, x7, x8, x45, x102000, x102001, x102002, x102003, x102004, x102005, x102006, x102007, x102008, x102009 => if x45 = true then (some (([] : List Int), ([] : List (S94)), ([] : List Int), ([] : List Int), ([] : List Int), ([] : List Int), 3)) else (scarfjointref11_Of.l0 k x7 x8 0 x102000 x102001 x102002 x102003 x102004 x102005 x102006 x102007 x102008 x102009 ([] : List Int))
def scarfjointref11_Of.l0 : Nat → List (S79) → List (S79) → Int → List Int → List (S94) → List Int → List (S94) → List Int → List (S94) → List Int → List Int → List Int → List Int → List Int → Option (List Int × (List (S94)) × List Int × List Int × List Int × List Int × Int)
 | 0, _, _, _, _, _, _, _, _, _, _, _, _, _, _ => none
 | k + 1, x7, x8, x10, x102000, x102001, x102002, x102003, x102004, x102005, x102006, x102007, x102008, x102009, x113000 => if x10 < (x7.length : Int) then (if 0 ≤ x10 then (if 0 ≤ ((rd_T79 x7 x10).f0) then (if ((rd_T79 x7 x10).f0) < (x102000.length : Int) then (if x113000.length < 17592186044416 then (scarfjointref11_Of.l0 k x7 x8 (wrap64 (x10 + 1)) x102000 x102001 x102002 x102003 x102004 x102005 x102006 x102007 x102008 x102009 (x113000 ++ [rd x102000 ((rd_T79 x7 x10).f0)])) else (none)) else (none)) else (none)) else (none)) else (scarfjointref11_Of.l1 k x7 x8 0 x102000 x102001 x102002 x102003 x102004 x102005 x102006 x102007 x102008 x102009 x113000 ([] : List (S94)))
def scarfjointref11_Of.l1 : Nat → List (S79) → List (S79) → Int → List Int → List (S94) → List Int → List (S94) → List Int → List (S94) → List Int → List Int → List Int → List Int → List Int → List (S94) → Option (List Int × (List (S94)) × List Int × List Int × List Int × List Int × Int)
 | 0, _, _, _, _, _, _, _, _, _, _, _, _, _, _, _ => none
 | k + 1, x7, x8, x11, x102000, x102001, x102002, x102003, x102004, x102005, x102006, x102007, x102008, x102009, x113000, x113001 => if x11 < (x8.length : Int) then (if 0 ≤ x11 then (if 0 ≤ ((rd_T79 x8 x11).f0) then (if ((rd_T79 x8 x11).f0) < (x102001.length : Int) then (if 0 ≤ ((rd_T79 x8 x11).f1) then (if ((rd_T79 x8 x11).f1) < (x102003.length : Int) then ((scarfjointref11_place.f k x7 ((rd_T94 x102001 ((rd_T79 x8 x11).f0)).f1) ((rd_T94 x102003 ((rd_T79 x8 x11).f1)).f1)).bind fun t124 => ((scarfjointref11_place.f k x7 ((rd_T94 x102001 ((rd_T79 x8 x11).f0)).f2) ((rd_T94 x102003 ((rd_T79 x8 x11).f1)).f2)).bind fun t125 => (if x113001.length < 5864062014805 then (scarfjointref11_Of.l1 k x7 x8 (wrap64 (x11 + 1)) x102000 x102001 x102002 x102003 x102004 x102005 x102006 x102007 x102008 x102009 x113000 (x113001 ++ [(⟨(rd_T94 x102001 ((rd_T79 x8 x11).f0)).f0, t124, t125⟩ : S94)])) else (none)))) else (none)) else (none)) else (none)) else (none)) else (none)) else ((scarfjointref11_sides.f k x7).bind fun bt131 => ((scarfjointref11_sides.f k x8).bind fun bt137 => (some (x113000, x113001, bt131.1, bt137.1, bt131.2, bt137.2, 0))))
end
def scarfjointref11_Of.f (k : Nat) (l0_0 : List Int) (l0_1 : List (S94)) (l0_2 : List Int) (l0_3 : List (S94)) (l0_4 : List Int) (l0_5 : List (S94)) (l0_6 : List Int) (l0_7 : List Int) (l0_8 : List Int) (l0_9 : List Int) : Option (List Int × (List (S94)) × List Int × List Int × List Int × List Int × Int) := (scarfjointref11_Valid.f l0_0 l0_1 l0_2 l0_3 l0_4 l0_5 l0_6 l0_7 l0_8 l0_9).bind fun t105 => (if t105 = 0 then ((scarfjointref11_pairs.f k l0_6 l0_8 40).bind fun t106 => ((scarfjointref11_pairs.f k l0_7 l0_9 80).bind fun t109 => (if (t106.length : Int) > 40 then (scarfjointref11_Of.j0 k t106 t109 true l0_0 l0_1 l0_2 l0_3 l0_4 l0_5 l0_6 l0_7 l0_8 l0_9) else (scarfjointref11_Of.j0 k t106 t109 (decide ((t109.length : Int) > 80)) l0_0 l0_1 l0_2 l0_3 l0_4 l0_5 l0_6 l0_7 l0_8 l0_9)))) else (some (([] : List Int), ([] : List (S94)), ([] : List Int), ([] : List Int), ([] : List Int), ([] : List Int), t105)))
theorem scarfjointref11_Of.mono_l : ∀ k, (∀ y0 y1 y2 y3 y4 y5 y6 y7 y8 y9 y10 y11 y12, LeO (scarfjointref11_Of.j0 k y0 y1 y2 y3 y4 y5 y6 y7 y8 y9 y10 y11 y12) (scarfjointref11_Of.j0 (k + 1) y0 y1 y2 y3 y4 y5 y6 y7 y8 y9 y10 y11 y12)) ∧ (∀ y0 y1 y2 y3 y4 y5 y6 y7 y8 y9 y10 y11 y12 y13, LeO (scarfjointref11_Of.l0 k y0 y1 y2 y3 y4 y5 y6 y7 y8 y9 y10 y11 y12 y13) (scarfjointref11_Of.l0 (k + 1) y0 y1 y2 y3 y4 y5 y6 y7 y8 y9 y10 y11 y12 y13)) ∧ (∀ y0 y1 y2 y3 y4 y5 y6 y7 y8 y9 y10 y11 y12 y13 y14, LeO (scarfjointref11_Of.l1 k y0 y1 y2 y3 y4 y5 y6 y7 y8 y9 y10 y11 y12 y13 y14) (scarfjointref11_Of.l1 (k + 1) y0 y1 y2 y3 y4 y5 y6 y7 y8 y9 y10 y11 y12 y13 y14))
 | 0 => ⟨fun _ _ _ _ _ _ _ _ _ _ _ _ _ r h => by simp [scarfjointref11_Of.j0] at h, fun _ _ _ _ _ _ _ _ _ _ _ _ _ _ r h => by simp [scarfjointref11_Of.l0] at h, fun _ _ _ _ _ _ _ _ _ _ _ _ _ _ _ r h => by simp [scarfjointref11_Of.l1] at h⟩
 | k + 1 => by
  obtain ⟨ih0, ih1, ih2⟩ := scarfjointref11_Of.mono_l k
  refine ⟨?_, ?_, ?_⟩
  ·intro y0 y1 y2 y3 y4 y5 y6 y7 y8 y9 y10 y11 y12
   unfold scarfjointref11_Of.j0
   repeat' first
   | (with_reducible exact ih0 _ _ _ _ _ _ _ _ _ _ _ _ _)
   | (with_reducible exact ih1 _ _ _ _ _ _ _ _ _ _ _ _ _ _)
   | (with_reducible exact ih2 _ _ _ _ _ _ _ _ _ _ _ _ _ _ _)
   | (with_reducible exact scarfjointref11_pairs.mono _ _ _ _)
   | (with_reducible exact scarfjointref11_place.mono _ _ _ _)
   | (with_reducible exact scarfjointref11_sides.mono _ _)
   | (with_reducible exact LeO.refl _)
   | (with_reducible exact LeO.none _)
   | (with_reducible refine LeO.ite ?_ ?_)
   | (with_reducible refine LeO.bind ?_ (fun _ => ?_))
   | exact ih0 _ _ _ _ _ _ _ _ _ _ _ _ _
   | exact ih1 _ _ _ _ _ _ _ _ _ _ _ _ _ _
   | exact ih2 _ _ _ _ _ _ _ _ _ _ _ _ _ _ _
   | exact scarfjointref11_pairs.mono _ _ _ _
   | exact scarfjointref11_place.mono _ _ _ _
   | exact scarfjointref11_sides.mono _ _
   | exact LeO.none _
   | refine LeO.ite ?_ ?_
   | refine LeO.bind ?_ (fun _ => ?_)
  ·intro y0 y1 y2 y3 y4 y5 y6 y7 y8 y9 y10 y11 y12 y13
   unfold scarfjointref11_Of.l0
   repeat' first
   | (with_reducible exact ih0 _ _ _ _ _ _ _ _ _ _ _ _ _)
   | (with_reducible exact ih1 _ _ _ _ _ _ _ _ _ _ _ _ _ _)
   | (with_reducible exact ih2 _ _ _ _ _ _ _ _ _ _ _ _ _ _ _)
   | (with_reducible exact scarfjointref11_pairs.mono _ _ _ _)
   | (with_reducible exact scarfjointref11_place.mono _ _ _ _)
   | (with_reducible exact scarfjointref11_sides.mono _ _)
   | (with_reducible exact LeO.refl _)
   | (with_reducible exact LeO.none _)
   | (with_reducible refine LeO.ite ?_ ?_)
   | (with_reducible refine LeO.bind ?_ (fun _ => ?_))
   | exact ih0 _ _ _ _ _ _ _ _ _ _ _ _ _
   | exact ih1 _ _ _ _ _ _ _ _ _ _ _ _ _ _
   | exact ih2 _ _ _ _ _ _ _ _ _ _ _ _ _ _ _
   | exact scarfjointref11_pairs.mono _ _ _ _
   | exact scarfjointref11_place.mono _ _ _ _
   | exact scarfjointref11_sides.mono _ _
   | exact LeO.none _
   | refine LeO.ite ?_ ?_
   | refine LeO.bind ?_ (fun _ => ?_)
  ·intro y0 y1 y2 y3 y4 y5 y6 y7 y8 y9 y10 y11 y12 y13 y14
   unfold scarfjointref11_Of.l1
   repeat' first
   | (with_reducible exact ih0 _ _ _ _ _ _ _ _ _ _ _ _ _)
   | (with_reducible exact ih1 _ _ _ _ _ _ _ _ _ _ _ _ _ _)
   | (with_reducible exact ih2 _ _ _ _ _ _ _ _ _ _ _ _ _ _ _)
   | (with_reducible exact scarfjointref11_pairs.mono _ _ _ _)
   | (with_reducible exact scarfjointref11_place.mono _ _ _ _)
   | (with_reducible exact scarfjointref11_sides.mono _ _)
   | (with_reducible exact LeO.refl _)
   | (with_reducible exact LeO.none _)
   | (with_reducible refine LeO.ite ?_ ?_)
   | (with_reducible refine LeO.bind ?_ (fun _ => ?_))
   | exact ih0 _ _ _ _ _ _ _ _ _ _ _ _ _
   | exact ih1 _ _ _ _ _ _ _ _ _ _ _ _ _ _
   | exact ih2 _ _ _ _ _ _ _ _ _ _ _ _ _ _ _
   | exact scarfjointref11_pairs.mono _ _ _ _
   | exact scarfjointref11_place.mono _ _ _ _
   | exact scarfjointref11_sides.mono _ _
   | exact LeO.none _
   | refine LeO.ite ?_ ?_
   | refine LeO.bind ?_ (fun _ => ?_)
theorem scarfjointref11_Of.mono : ∀ a0 a1 a2 a3 a4 a5 a6 a7 a8 a9 k, LeO (scarfjointref11_Of.f k a0 a1 a2 a3 a4 a5 a6 a7 a8 a9) (scarfjointref11_Of.f (k + 1) a0 a1 a2 a3 a4 a5 a6 a7 a8 a9) := by
 intro a0 a1 a2 a3 a4 a5 a6 a7 a8 a9 k
 obtain ⟨ih0, ih1, ih2⟩ := scarfjointref11_Of.mono_l k
 unfold scarfjointref11_Of.f
 repeat' first
   | (with_reducible exact ih0 _ _ _ _ _ _ _ _ _ _ _ _ _)
   | (with_reducible exact ih1 _ _ _ _ _ _ _ _ _ _ _ _ _ _)
   | (with_reducible exact ih2 _ _ _ _ _ _ _ _ _ _ _ _ _ _ _)
   | (with_reducible exact scarfjointref11_pairs.mono _ _ _ _)
   | (with_reducible exact scarfjointref11_place.mono _ _ _ _)
   | (with_reducible exact scarfjointref11_sides.mono _ _)
   | (with_reducible exact LeO.refl _)
   | (with_reducible exact LeO.none _)
   | (with_reducible refine LeO.ite ?_ ?_)
   | (with_reducible refine LeO.bind ?_ (fun _ => ?_))
   | exact ih0 _ _ _ _ _ _ _ _ _ _ _ _ _
   | exact ih1 _ _ _ _ _ _ _ _ _ _ _ _ _ _
   | exact ih2 _ _ _ _ _ _ _ _ _ _ _ _ _ _ _
   | exact scarfjointref11_pairs.mono _ _ _ _
   | exact scarfjointref11_place.mono _ _ _ _
   | exact scarfjointref11_sides.mono _ _
   | exact LeO.none _
   | refine LeO.ite ?_ ?_
   | refine LeO.bind ?_ (fun _ => ?_)
def scarfjointref11_Of.T4 : Bool × List (List Nat × List Nat) := (true, [([], []), ([0], [0]), ([1], [1]), ([], []), ([3], [3]), ([4], [4]), ([2, 5], [2, 5]), ([], []), ([7], [7]), ([8], [8]), ([], []), ([10], [10]), ([11], [11]), ([9, 12, 6], [9, 12]), ([6, 13, 0, 1, 2, 3, 4, 5, 6], [6]), ([13, 14, 0, 1, 2, 3, 4, 5, 6, 7, 8, 9, 10, 11, 12, 13, 14], [13])])
def scarfjointref11_Of.B4 : List Nat := [0, 1, 3, 0, 8, 24, 63, 0, 128, 384, 0, 1024, 3072, 8191, 16383, 32767]
theorem scarfjointref11_Of.tab4 : rtab .any (opsOf Try.f36 4) = scarfjointref11_Of.T4 := by kernel_rfl
theorem scarfjointref11_Of.bits4 : waitsOk scarfjointref11_Of.T4.2 scarfjointref11_Of.B4 = true := by kernel_rfl
def scarfjointref11_Of.T11 : Bool × List (List Nat × List Nat) := (true, [([], []), ([0], [0]), ([], []), ([2], [2]), ([3], [3]), ([], []), ([], []), ([5, 6], [5, 6]), ([7], [7]), ([8], [8]), ([4, 9], [4, 9]), ([10], [10]), ([11], [11]), ([1, 12], [1, 12]), ([0, 1, 2, 3, 4, 5, 6, 7, 8, 9, 10, 11, 12, 13], []), ([14, 13, 13, 0, 1, 2, 3, 4, 5, 6, 7, 8, 9, 10, 11, 12, 13], [13, 14])])
def scarfjointref11_Of.B11 : List Nat := [0, 1, 0, 4, 12, 0, 0, 96, 224, 480, 1020, 2044, 4092, 8191, 16383, 32767]
theorem scarfjointref11_Of.tab11 : rtab .any (opsOf Try.f36 11) = scarfjointref11_Of.T11 := by kernel_rfl
theorem scarfjointref11_Of.bits11 : waitsOk scarfjointref11_Of.T11.2 scarfjointref11_Of.B11 = true := by kernel_rfl
def scarfjointref11_Of.T15 : Bool × List (List Nat × List Nat) := (true, [([], []), ([0], [0]), ([1], [1]), ([], []), ([], []), ([3, 4], [3, 4]), ([5], [5]), ([6], [6]), ([2, 7], [2, 7]), ([8], [8]), ([], []), ([10], [10]), ([11], [11]), ([], []), ([], []), ([13, 14], [13, 14]), ([15], [15]), ([16], [16]), ([12, 17], [12, 17]), ([18], [18]), ([], []), ([], []), ([20, 9, 0, 1, 2, 3, 4, 5, 6, 7, 8, 9, 20, 21], [9, 20]), ([21, 19, 22, 0, 1, 2, 3, 4, 5, 6, 7, 8, 9, 10, 11, 12, 13, 14, 15, 16, 17, 18, 19, 20, 21, 22], [19, 21])])
def scarfjointref11_Of.B15 : List Nat := [0, 1, 3, 0, 0, 24, 56, 120, 255, 511, 0, 1024, 3072, 0, 0, 24576, 57344, 122880, 261120, 523264, 0, 0, 3146751, 8388607]
theorem scarfjointref11_Of.tab15 : rtab .any (opsOf Try.f36 15) = scarfjointref11_Of.T15 := by kernel_rfl
theorem scarfjointref11_Of.bits15 : waitsOk scarfjointref11_Of.T15.2 scarfjointref11_Of.B15 = true := by kernel_rfl
def scarfjointref11_Of.T16 : Bool × List (List Nat × List Nat) := (true, [([], []), ([0], [0]), ([], []), ([2], [2]), ([], []), ([], []), ([5], [5]), ([], []), ([7], [7]), ([4, 6, 8], [4, 6, 8]), ([], []), ([], []), ([11], [11]), ([], []), ([13], [13]), ([10, 12, 14, 9], [10, 12, 14]), ([3, 9, 15], [3, 9, 15]), ([16], [16]), ([1, 17, 15], [1, 17]), ([0, 1, 2, 3, 4, 5, 6, 7, 8, 9, 10, 11, 12, 13, 14, 15, 16, 17, 18], []), ([19, 18, 18, 0, 1, 2, 3, 4, 5, 6, 7, 8, 9, 10, 11, 12, 13, 14, 15, 16, 17, 18], [18, 19])])
def scarfjointref11_Of.B16 : List Nat := [0, 1, 0, 4, 0, 0, 32, 0, 128, 496, 0, 0, 2048, 0, 8192, 32752, 65532, 131068, 262143, 524287, 1048575]
theorem scarfjointref11_Of.tab16 : rtab .any (opsOf Try.f36 16) = scarfjointref11_Of.T16 := by kernel_rfl
theorem scarfjointref11_Of.bits16 : waitsOk scarfjointref11_Of.T16.2 scarfjointref11_Of.B16 = true := by kernel_rfl
set_option maxHeartbeats 8000000 in
set_option maxRecDepth 100000 in
theorem scarfjointref11_Of.calls (k : Nat) (A0_0 : Option Addr) (c0_0 : Nat) (l0_0 : List Int) (A0_1 : Option Addr) (c0_1 : Nat) (l0_1 : List (S94)) (A0_2 : Option Addr) (c0_2 : Nat) (l0_2 : List Int) (A0_3 : Option Addr) (c0_3 : Nat) (l0_3 : List (S94)) (A0_4 : Option Addr) (c0_4 : Nat) (l0_4 : List Int) (A0_5 : Option Addr) (c0_5 : Nat) (l0_5 : List (S94)) (A0_6 : Option Addr) (c0_6 : Nat) (l0_6 : List Int) (A0_7 : Option Addr) (c0_7 : Nat) (l0_7 : List Int) (A0_8 : Option Addr) (c0_8 : Nat) (l0_8 : List Int) (A0_9 : Option Addr) (c0_9 : Nat) (l0_9 : List Int) (r1 : List Int) (r2 : List (S94)) (r3 : List Int) (r4 : List Int) (r5 : List Int) (r6 : List Int) (r7 : Int) (w : World) (hr0_0 : Kd.C (Kd.int .i64) w A0_0 l0_0.length l0_0) (hc0_0 : l0_0.length ≤ c0_0) (hr0_1 : Kd.C k94 w A0_1 l0_1.length l0_1) (hc0_1 : l0_1.length ≤ c0_1) (hr0_2 : Kd.C (Kd.int .i64) w A0_2 l0_2.length l0_2) (hc0_2 : l0_2.length ≤ c0_2) (hr0_3 : Kd.C k94 w A0_3 l0_3.length l0_3) (hc0_3 : l0_3.length ≤ c0_3) (hr0_4 : Kd.C (Kd.int .i64) w A0_4 l0_4.length l0_4) (hc0_4 : l0_4.length ≤ c0_4) (hr0_5 : Kd.C k94 w A0_5 l0_5.length l0_5) (hc0_5 : l0_5.length ≤ c0_5) (hr0_6 : Kd.C (Kd.int .i64) w A0_6 l0_6.length l0_6) (hc0_6 : l0_6.length ≤ c0_6) (hr0_7 : Kd.C (Kd.int .i64) w A0_7 l0_7.length l0_7) (hc0_7 : l0_7.length ≤ c0_7) (hr0_8 : Kd.C (Kd.int .i64) w A0_8 l0_8.length l0_8) (hc0_8 : l0_8.length ≤ c0_8) (hr0_9 : Kd.C (Kd.int .i64) w A0_9 l0_9.length l0_9) (hc0_9 : l0_9.length ≤ c0_9) (h : scarfjointref11_Of.f k l0_0 l0_1 l0_2 l0_3 l0_4 l0_5 l0_6 l0_7 l0_8 l0_9 = some (r1, r2, r3, r4, r5, r6, r7)) :
  Calls Try.prog 36 #[.agg #[.slice A0_0 l0_0.length c0_0, .slice A0_1 l0_1.length c0_1, .slice A0_2 l0_2.length c0_2, .slice A0_3 l0_3.length c0_3, .slice A0_4 l0_4.length c0_4, .slice A0_5 l0_5.length c0_5, .slice A0_6 l0_6.length c0_6, .slice A0_7 l0_7.length c0_7, .slice A0_8 l0_8.length c0_8, .slice A0_9 l0_9.length c0_9]] w fun e w' => ∃ v0_ v1_ v2_ v3_ v4_ v5_ : Value, e = .returned (.tuple #[.agg #[v0_, v1_], .agg #[v2_, v3_], .agg #[v4_, v5_], .int .i64 r7]) ∧ Kd.R (Kd.int .i64) 3 w' w.heap.size (fun k_ => some k_ ≠ (v2_ : Value).ownBlock ∧ some k_ ≠ (v3_ : Value).ownBlock ∧ some k_ ≠ (v4_ : Value).ownBlock ∧ some k_ ≠ (v5_ : Value).ownBlock) v0_ r1 ∧ Kd.R k94 94 w' w.heap.size (fun _ => True) v1_ r2 ∧ Kd.R (Kd.int .i64) 3 w' w.heap.size (fun k_ => some k_ ≠ (v0_ : Value).ownBlock ∧ some k_ ≠ (v3_ : Value).ownBlock ∧ some k_ ≠ (v4_ : Value).ownBlock ∧ some k_ ≠ (v5_ : Value).ownBlock) v2_ r3 ∧ Kd.R (Kd.int .i64) 3 w' w.heap.size (fun k_ => some k_ ≠ (v0_ : Value).ownBlock ∧ some k_ ≠ (v2_ : Value).ownBlock ∧ some k_ ≠ (v4_ : Value).ownBlock ∧ some k_ ≠ (v5_ : Value).ownBlock) v3_ r4 ∧ Kd.R (Kd.int .i64) 3 w' w.heap.size (fun k_ => some k_ ≠ (v0_ : Value).ownBlock ∧ some k_ ≠ (v2_ : Value).ownBlock ∧ some k_ ≠ (v3_ : Value).ownBlock ∧ some k_ ≠ (v5_ : Value).ownBlock) v4_ r5 ∧ Kd.R (Kd.int .i64) 3 w' w.heap.size (fun k_ => some k_ ≠ (v0_ : Value).ownBlock ∧ some k_ ≠ (v2_ : Value).ownBlock ∧ some k_ ≠ (v3_ : Value).ownBlock ∧ some k_ ≠ (v4_ : Value).ownBlock) v5_ r6 ∧ Below w.heap.size w w' := by
 have hu29 := Try.underlying29
 have hu25 := Try.underlying25
 have hu27 := Try.underlying27
 have hu94 := Try.underlying94
 have HR0_0 := Aside0.mk hr0_0
 have HC0_0 := Aside0.mk hc0_0
 clear hr0_0 hc0_0
 have HR0_1 := Aside0.mk hr0_1
 have HC0_1 := Aside0.mk hc0_1
 clear hr0_1 hc0_1
 have HR0_2 := Aside0.mk hr0_2
 have HC0_2 := Aside0.mk hc0_2
 clear hr0_2 hc0_2
 have HR0_3 := Aside0.mk hr0_3
 have HC0_3 := Aside0.mk hc0_3
 clear hr0_3 hc0_3
 have HR0_4 := Aside0.mk hr0_4
 have HC0_4 := Aside0.mk hc0_4
 clear hr0_4 hc0_4
 have HR0_5 := Aside0.mk hr0_5
 have HC0_5 := Aside0.mk hc0_5
 clear hr0_5 hc0_5
 have HR0_6 := Aside0.mk hr0_6
 have HC0_6 := Aside0.mk hc0_6
 clear hr0_6 hc0_6
 have HR0_7 := Aside0.mk hr0_7
 have HC0_7 := Aside0.mk hc0_7
 clear hr0_7 hc0_7
 have HR0_8 := Aside0.mk hr0_8
 have HC0_8 := Aside0.mk hc0_8
 clear hr0_8 hc0_8
 have HR0_9 := Aside0.mk hr0_9
 have HC0_9 := Aside0.mk hc0_9
 clear hr0_9 hc0_9
 have HB := Aside0.mk (Below.refl w.heap.size w)
 have H : ((scarfjointref11_Valid.f l0_0 l0_1 l0_2 l0_3 l0_4 l0_5 l0_6 l0_7 l0_8 l0_9).bind fun t105 => (if t105 = 0 then ((scarfjointref11_pairs.f k l0_6 l0_8 40).bind fun t106 => ((scarfjointref11_pairs.f k l0_7 l0_9 80).bind fun t109 => (if (t106.length : Int) > 40 then (scarfjointref11_Of.j0 k t106 t109 true l0_0 l0_1 l0_2 l0_3 l0_4 l0_5 l0_6 l0_7 l0_8 l0_9) else (scarfjointref11_Of.j0 k t106 t109 (decide ((t109.length : Int) > 80)) l0_0 l0_1 l0_2 l0_3 l0_4 l0_5 l0_6 l0_7 l0_8 l0_9)))) else (some (([] : List Int), ([] : List (S94)), ([] : List Int), ([] : List Int), ([] : List Int), ([] : List Int), t105)))) = some (r1, r2, r3, r4, r5, r6, r7) := h
 clear h
 replace H := Option.bind_eq_some_iff.mp H
 obtain ⟨t105, A20, H⟩ := H
 replace H : (if t105 = 0 then ((scarfjointref11_pairs.f k l0_6 l0_8 40).bind fun t106 => ((scarfjointref11_pairs.f k l0_7 l0_9 80).bind fun t109 => (if (t106.length : Int) > 40 then (scarfjointref11_Of.j0 k t106 t109 true l0_0 l0_1 l0_2 l0_3 l0_4 l0_5 l0_6 l0_7 l0_8 l0_9) else (scarfjointref11_Of.j0 k t106 t109 (decide ((t109.length : Int) > 80)) l0_0 l0_1 l0_2 l0_3 l0_4 l0_5 l0_6 l0_7 l0_8 l0_9)))) else (some (([] : List Int), ([] : List (S94)), ([] : List Int), ([] : List Int), ([] : List Int), ([] : List Int), t105))) = some (r1, r2, r3, r4, r5, r6, r7) := H
 have A2 := Aside0.mk A20
 clear A20
 by_cases c3 : t105 = 0
 ·rw [if_pos c3] at H
  have c3b0 : (t105 == 0) = true := beq_iff_eq.mpr c3
  have c3b1 : (t105 != 0) = false := bne_eq_false_iff_eq.mpr c3
  clear c3
  replace H := Option.bind_eq_some_iff.mp H
  obtain ⟨t106, A40, H⟩ := H
  replace H : ((scarfjointref11_pairs.f k l0_7 l0_9 80).bind fun t109 => (if (t106.length : Int) > 40 then (scarfjointref11_Of.j0 k t106 t109 true l0_0 l0_1 l0_2 l0_3 l0_4 l0_5 l0_6 l0_7 l0_8 l0_9) else (scarfjointref11_Of.j0 k t106 t109 (decide ((t109.length : Int) > 80)) l0_0 l0_1 l0_2 l0_3 l0_4 l0_5 l0_6 l0_7 l0_8 l0_9))) = some (r1, r2, r3, r4, r5, r6, r7) := H
  have A4 := Aside0.mk A40
  clear A40
  replace H := Option.bind_eq_some_iff.mp H
  obtain ⟨t109, A50, H⟩ := H
  replace H : (if (t106.length : Int) > 40 then (scarfjointref11_Of.j0 k t106 t109 true l0_0 l0_1 l0_2 l0_3 l0_4 l0_5 l0_6 l0_7 l0_8 l0_9) else (scarfjointref11_Of.j0 k t106 t109 (decide ((t109.length : Int) > 80)) l0_0 l0_1 l0_2 l0_3 l0_4 l0_5 l0_6 l0_7 l0_8 l0_9)) = some (r1, r2, r3, r4, r5, r6, r7) := H
  have A5 := Aside0.mk A50
  clear A50
  have HC6 := Aside0.mk H
  clear H
  go_enter Try.func36, Try.ntmps36
  try go_wp2_with (first | ((with_reducible refine gate_dst (N := 1) rfl ?_); (try (refine gate_guard (by rfl) ?_; dsimp only)); refine box_event ?hg (N := 1) ?hd (cs := #[.slice A0_0 l0_0.length c0_0, .slice A0_1 l0_1.length c0_1, .slice A0_2 l0_2.length c0_2, .slice A0_3 l0_3.length c0_3, .slice A0_4 l0_4.length c0_4, .slice A0_5 l0_5.length c0_5, .slice A0_6 l0_6.length c0_6, .slice A0_7 l0_7.length c0_7, .slice A0_8 l0_8.length c0_8, .slice A0_9 l0_9.length c0_9]) (t := 29) ?hr ?_; (case hd => rfl); (case hg => rfl); (case hr => first | (go_simp; done) | (go_simp; rfl)); intro Q04 hg w7 hbox hb; have Q00 := Aside0.mk (hbox); have Q4b := Aside0.mk ((by rw [hg]; exact (below_size hB) : w.heap.size ≤ Q04)); have Q2q := Aside0.mk ((by rw [hg]; exact (below_size hB) : w.heap.size ≤ Q04)); replace HB := uH HB hb; clear hb hbox hg) | ((with_reducible refine gate_dst (N := 2) rfl ?_); (try (refine gate_guard (by rfl) ?_; dsimp only)); refine box_event ?hg (N := 2) ?hd (cs := #[.slice none 0 0, .slice none 0 0]) (t := 25) ?hr ?_; (case hd => rfl); (case hg => rfl); (case hr => first | (go_simp; done) | (go_simp; rfl)); intro Q0i hg w8 hbox hb; have Q01 := Aside0.mk (hbox); have Q4c := uS HB hg; have Q2r := uS HB hg; replace HB := uH HB hb; have Q28 := uL Q00 hg; have Q29 := uG Q00 hg; replace Q00 := uB Q00 hb; clear hb hbox hg) | ((with_reducible refine gate_dst (N := 3) rfl ?_); (try (refine gate_guard (by rfl) ?_; dsimp only)); refine box_event ?hg (N := 3) ?hd (cs := #[.slice none 0 0, .slice none 0 0]) (t := 27) ?hr ?_; (case hd => rfl); (case hg => rfl); (case hr => first | (go_simp; done) | (go_simp; rfl)); intro Q0j hg w9 hbox hb; have Q02 := Aside0.mk (hbox); have Q4d := uS HB hg; have Q2s := uS HB hg; replace HB := uH HB hb; have Q2a := uL Q00 hg; have Q2b := uG Q00 hg; replace Q00 := uB Q00 hb; have Q10 := uL Q01 hg; have Q11 := uG Q01 hg; replace Q01 := uB Q01 hb; clear hb hbox hg) | ((with_reducible refine gate_dst (N := 4) rfl ?_); (try (refine gate_guard (by rfl) ?_; dsimp only)); refine box_event ?hg (N := 4) ?hd (cs := #[.slice none 0 0, .slice none 0 0]) (t := 27) ?hr ?_; (case hd => rfl); (case hg => rfl); (case hr => first | (go_simp; done) | (go_simp; rfl)); intro Q0k hg w10 hbox hb; have Q03 := Aside0.mk (hbox); have Q4e := uS HB hg; have Q2t := uS HB hg; replace HB := uH HB hb; have Q2c := uL Q00 hg; have Q2d := uG Q00 hg; replace Q00 := uB Q00 hb; have Q12 := uL Q01 hg; have Q13 := uG Q01 hg; replace Q01 := uB Q01 hb; have Q14 := uL Q02 hg; have Q15 := uG Q02 hg; replace Q02 := uB Q02 hb; clear hb hbox hg; have Q4x := Q28.out; have Q4y := Q29.out; have Q4z := Q2a.out; have Q50 := Q2b.out; have Q51 := Q2c.out; have Q52 := Q2d.out; have Q30 : w10.cell? ⟨Q04, 0, none⟩ = some (.slice A0_0 l0_0.length c0_0) := bC Q00 0; have Q31 : w10.cell? ⟨Q04, 1, none⟩ = some (.slice A0_1 l0_1.length c0_1) := bC Q00 1; have Q32 : w10.cell? ⟨Q04, 2, none⟩ = some (.slice A0_2 l0_2.length c0_2) := bC Q00 2; have Q33 : w10.cell? ⟨Q04, 3, none⟩ = some (.slice A0_3 l0_3.length c0_3) := bC Q00 3; have Q34 : w10.cell? ⟨Q04, 4, none⟩ = some (.slice A0_4 l0_4.length c0_4) := bC Q00 4; have Q35 : w10.cell? ⟨Q04, 5, none⟩ = some (.slice A0_5 l0_5.length c0_5) := bC Q00 5; have Q36 : w10.cell? ⟨Q04, 6, none⟩ = some (.slice A0_6 l0_6.length c0_6) := bC Q00 6; have Q37 : w10.cell? ⟨Q04, 7, none⟩ = some (.slice A0_7 l0_7.length c0_7) := bC Q00 7; have Q38 : w10.cell? ⟨Q04, 8, none⟩ = some (.slice A0_8 l0_8.length c0_8) := bC Q00 8; have Q39 : w10.cell? ⟨Q04, 9, none⟩ = some (.slice A0_9 l0_9.length c0_9) := bC Q00 9; have Q3a := blk_frozen Q00.out 0; have Q3b := blk_frozen Q00.out 1; have Q3c := blk_frozen Q00.out 2; have Q3d := blk_frozen Q00.out 3; have Q3e := blk_frozen Q00.out 4; have Q3f := blk_frozen Q00.out 5; have Q3g := blk_frozen Q00.out 6; have Q3h := blk_frozen Q00.out 7; have Q3i := blk_frozen Q00.out 8; have Q3j := blk_frozen Q00.out 9) | ((with_reducible refine gate_callee (f := 68) rfl ?_); refine goesL_ (some 17) rfl rfl Try.func68 (by kernel_rfl) rfl #[.agg #[.slice A0_0 l0_0.length c0_0, .slice A0_1 l0_1.length c0_1, .slice A0_2 l0_2.length c0_2, .slice A0_3 l0_3.length c0_3, .slice A0_4 l0_4.length c0_4, .slice A0_5 l0_5.length c0_5, .slice A0_6 l0_6.length c0_6, .slice A0_7 l0_7.length c0_7, .slice A0_8 l0_8.length c0_8, .slice A0_9 l0_9.length c0_9]] rfl aM ?_; (with_reducible refine (scarfjointref11_Valid.calls _ _ l0_0 _ _ l0_1 _ _ l0_2 _ _ l0_3 _ _ l0_4 _ _ l0_5 _ _ l0_6 _ _ l0_7 _ _ l0_8 _ _ l0_9 t105 _ ?side1 ?side2 ?side3 ?side4 ?side5 ?side6 ?side7 ?side8 ?side9 ?side10 ?side11 ?side12 ?side13 ?side14 ?side15 ?side16 ?side17 ?side18 ?side19 ?side20 A2.out).mono ?_); (case side1 => exact cX (cB HR0_0.out HB.out)); (case side2 => exact HC0_0.out); (case side3 => exact cX (cB HR0_1.out HB.out)); (case side4 => exact HC0_1.out); (case side5 => exact cX (cB HR0_2.out HB.out)); (case side6 => exact HC0_2.out); (case side7 => exact cX (cB HR0_3.out HB.out)); (case side8 => exact HC0_3.out); (case side9 => exact cX (cB HR0_4.out HB.out)); (case side10 => exact HC0_4.out); (case side11 => exact cX (cB HR0_5.out HB.out)); (case side12 => exact HC0_5.out); (case side13 => exact cX (cB HR0_6.out HB.out)); (case side14 => exact HC0_6.out); (case side15 => exact cX (cB HR0_7.out HB.out)); (case side16 => exact HC0_7.out); (case side17 => exact cX (cB HR0_8.out HB.out)); (case side18 => exact HC0_8.out); (case side19 => exact cX (cB HR0_9.out HB.out)); (case side20 => exact HC0_9.out); rintro e w15 ⟨rfl, hb⟩; refine ⟨_, rfl, ?_⟩; replace Q00 := uB Q00 hb; replace Q01 := uB Q01 hb; replace Q02 := uB Q02 hb; replace Q03 := uB Q03 hb; replace HB := uH HB hb; (try clear hb); (try clear hb2); (try clear hk); (try clear hi)))
  replace Q00 := Aside0.mk (bD Q00.out)
  replace Q01 := Aside0.mk (bD Q01.out)
  replace Q02 := Aside0.mk (bD Q02.out)
  replace Q03 := Aside0.mk (bD Q03.out)
  replace HB := Aside0.mk (wD HB.out)
  refine start_ (n := 16) (S := fun w' => w'.cell? ⟨Q04, 0, none⟩ = some (.slice A0_0 l0_0.length c0_0) ∧ w'.cell? ⟨Q04, 1, none⟩ = some (.slice A0_1 l0_1.length c0_1) ∧ w'.cell? ⟨Q04, 2, none⟩ = some (.slice A0_2 l0_2.length c0_2) ∧ w'.cell? ⟨Q04, 3, none⟩ = some (.slice A0_3 l0_3.length c0_3) ∧ w'.cell? ⟨Q04, 4, none⟩ = some (.slice A0_4 l0_4.length c0_4) ∧ w'.cell? ⟨Q04, 5, none⟩ = some (.slice A0_5 l0_5.length c0_5) ∧ w'.cell? ⟨Q04, 6, none⟩ = some (.slice A0_6 l0_6.length c0_6) ∧ w'.cell? ⟨Q04, 7, none⟩ = some (.slice A0_7 l0_7.length c0_7) ∧ w'.cell? ⟨Q04, 8, none⟩ = some (.slice A0_8 l0_8.length c0_8) ∧ w'.cell? ⟨Q04, 9, none⟩ = some (.slice A0_9 l0_9.length c0_9)) (ds := []) #[false, false, false, false, false, false, false, false, false, false, false, false, false, false, false, false] (by kernel_rfl) rfl rfl ⟨bC Q00 0, bC Q00 1, bC Q00 2, bC Q00 3, bC Q00 4, bC Q00 5, bC Q00 6, bC Q00 7, bC Q00 8, bC Q00 9⟩ (fun hHeld => ?_); refine with_tabW scarfjointref11_Of.tab4 scarfjointref11_Of.bits4 (fun HT_ HW_ => ?_)
  generalize w15.drew = w16 at Q00 Q01 Q02 Q03 HB hHeld ⊢
  refine pure_ (i := 0) (N := some 24) (v := ?_) (a' := ?_) #[true, false, false, false, false, false, false, false, false, false, false, false, false, false, false, false] rfl rfl (any_of HT_.out (by kernel_rfl)) (fun _ _ _ h => h) (Or.inl ⟨by rfl, ?_⟩) ?_ ?_
  rotate_left
  ·intro w'
   go_simp
   with_reducible rfl
  rotate_left
  ·simp only [Act.put, List.setIfInBounds_toArray, List.set_cons_zero, List.set_cons_succ, i64_w, i32_w]
   rfl
  refine pure_ (i := 1) (N := some 25) (v := ?_) (a' := ?_) #[true, true, false, false, false, false, false, false, false, false, false, false, false, false, false, false] rfl rfl (any_of HT_.out (by kernel_rfl)) (fun _ _ _ h => h) (Or.inl ⟨by rfl, ?_⟩) ?_ ?_
  rotate_left
  ·intro w'
   go_simp
   with_reducible rfl
  rotate_left
  ·simp only [Act.put, List.setIfInBounds_toArray, List.set_cons_zero, List.set_cons_succ, i64_w, i32_w]
   rfl
  refine pure_ (i := 3) (N := some 27) (v := ?_) (a' := ?_) #[true, true, false, true, false, false, false, false, false, false, false, false, false, false, false, false] rfl rfl (any_of HT_.out (by kernel_rfl)) (fun _ _ _ h => h) (Or.inl ⟨by rfl, ?_⟩) ?_ ?_
  rotate_left
  ·intro w'
   go_simp
   with_reducible rfl
  rotate_left
  ·simp only [Act.put, List.setIfInBounds_toArray, List.set_cons_zero, List.set_cons_succ, i64_w, i32_w]
   rfl
  refine pure_ (i := 4) (N := some 28) (v := ?_) (a' := ?_) #[true, true, false, true, true, false, false, false, false, false, false, false, false, false, false, false] rfl rfl (any_of HT_.out (by kernel_rfl)) (fun _ _ _ h => h) (Or.inl ⟨by rfl, ?_⟩) ?_ ?_
  rotate_left
  ·intro w'
   go_simp
   with_reducible rfl
  rotate_left
  ·simp only [Act.put, List.setIfInBounds_toArray, List.set_cons_zero, List.set_cons_succ, i64_w, i32_w]
   rfl
  refine pure_ (i := 7) (N := some 31) (v := ?_) (a' := ?_) #[true, true, false, true, true, false, false, true, false, false, false, false, false, false, false, false] rfl rfl (any_of HT_.out (by kernel_rfl)) (fun _ _ _ h => h) (Or.inl ⟨by rfl, ?_⟩) ?_ ?_
  rotate_left
  ·intro w'
   go_simp
   with_reducible rfl
  rotate_left
  ·simp only [Act.put, List.setIfInBounds_toArray, List.set_cons_zero, List.set_cons_succ, i64_w, i32_w]
   rfl
  refine pure_ (i := 8) (N := some 32) (v := ?_) (a' := ?_) #[true, true, false, true, true, false, false, true, true, false, false, false, false, false, false, false] rfl rfl (any_of HT_.out (by kernel_rfl)) (fun _ _ _ h => h) (Or.inl ⟨by rfl, ?_⟩) ?_ ?_
  rotate_left
  ·intro w'
   go_simp
   with_reducible rfl
  rotate_left
  ·simp only [Act.put, List.setIfInBounds_toArray, List.set_cons_zero, List.set_cons_succ, i64_w, i32_w]
   rfl
  refine pure_ (i := 10) (N := some 34) (v := ?_) (a' := ?_) #[true, true, false, true, true, false, false, true, true, false, true, false, false, false, false, false] rfl rfl (any_of HT_.out (by kernel_rfl)) (fun _ _ _ h => h) (Or.inl ⟨by rfl, ?_⟩) ?_ ?_
  rotate_left
  ·intro w'
   go_simp
   with_reducible rfl
  rotate_left
  ·simp only [Act.put, List.setIfInBounds_toArray, List.set_cons_zero, List.set_cons_succ, i64_w, i32_w]
   rfl
  refine pure_ (i := 11) (N := some 35) (v := ?_) (a' := ?_) #[true, true, false, true, true, false, false, true, true, false, true, true, false, false, false, false] rfl rfl (any_of HT_.out (by kernel_rfl)) (fun _ _ _ h => h) (Or.inl ⟨by rfl, ?_⟩) ?_ ?_
  rotate_left
  ·intro w'
   go_simp
   with_reducible rfl
  rotate_left
  ·simp only [Act.put, List.setIfInBounds_toArray, List.set_cons_zero, List.set_cons_succ, i64_w, i32_w]
   rfl
  refine take_ (i := 2) (N := some 26) (v := ?_) (a' := ?_) #[true, true, true, true, true, false, false, true, true, false, true, true, false, false, false, false] rfl rfl (take_ofW HT_.out HW_.out (by kernel_rfl)) (fun _ _ _ h => h) (Or.inl ⟨by rfl, ?_⟩) hHeld ?_ ?_
  rotate_left
  ·rintro w' ⟨s0, s1, s2, s3, s4, s5, s6, s7, s8, s9⟩
   go_simp
   with_reducible rfl
  rotate_left
  ·simp only [Act.put, List.setIfInBounds_toArray, List.set_cons_zero, List.set_cons_succ, i64_w, i32_w]
   rfl
  refine take_ (i := 5) (N := some 29) (v := ?_) (a' := ?_) #[true, true, true, true, true, true, false, true, true, false, true, true, false, false, false, false] rfl rfl (take_ofW HT_.out HW_.out (by kernel_rfl)) (fun _ _ _ h => h) (Or.inl ⟨by rfl, ?_⟩) hHeld ?_ ?_
  rotate_left
  ·rintro w' ⟨s0, s1, s2, s3, s4, s5, s6, s7, s8, s9⟩
   go_simp
   with_reducible rfl
  rotate_left
  ·simp only [Act.put, List.setIfInBounds_toArray, List.set_cons_zero, List.set_cons_succ, i64_w, i32_w]
   rfl
  refine take_ (i := 9) (N := some 33) (v := ?_) (a' := ?_) #[true, true, true, true, true, true, false, true, true, true, true, true, false, false, false, false] rfl rfl (take_ofW HT_.out HW_.out (by kernel_rfl)) (fun _ _ _ h => h) (Or.inl ⟨by rfl, ?_⟩) hHeld ?_ ?_
  rotate_left
  ·rintro w' ⟨s0, s1, s2, s3, s4, s5, s6, s7, s8, s9⟩
   go_simp
   with_reducible rfl
  rotate_left
  ·simp only [Act.put, List.setIfInBounds_toArray, List.set_cons_zero, List.set_cons_succ, i64_w, i32_w]
   rfl
  refine take_ (i := 12) (N := some 36) (v := ?_) (a' := ?_) #[true, true, true, true, true, true, false, true, true, true, true, true, true, false, false, false] rfl rfl (take_ofW HT_.out HW_.out (by kernel_rfl)) (fun _ _ _ h => h) (Or.inl ⟨by rfl, ?_⟩) hHeld ?_ ?_
  rotate_left
  ·rintro w' ⟨s0, s1, s2, s3, s4, s5, s6, s7, s8, s9⟩
   go_simp
   with_reducible rfl
  rotate_left
  ·simp only [Act.put, List.setIfInBounds_toArray, List.set_cons_zero, List.set_cons_succ, i64_w, i32_w]
   rfl
  refine one_ (i := 6) (N := some 30) #[true, true, true, true, true, true, true, true, true, true, true, true, true, false, false, false] rfl rfl (one_of HT_.out (by kernel_rfl)) (by decide) (fun K hK => ?_)
  refine goes_ Try.func69 (by kernel_rfl) rfl #[.slice A0_6 l0_6.length c0_6, .slice A0_8 l0_8.length c0_8, .int .i64 40] (by rfl) rfl rfl aM ?_
  with_reducible refine (scarfjointref11_pairs.calls k _ _ l0_6 _ _ l0_8 40 t106 _ ?side1 ?side2 ?side3 ?side4 A4.out).mono ?_
  (case side1 => exact cX (cB HR0_6.out HB.out))
  (case side2 => exact HC0_6.out)
  (case side3 => exact cX (cB HR0_8.out HB.out))
  (case side4 => exact HC0_8.out)
  rintro e w17 ⟨v107, rfl, ho0, hb⟩
  refine ⟨_, rfl, ?_⟩
  have Q1t := Aside0.mk (Kd.R_lower ho0 (below_size (pH HB)))
  replace Q00 := uB Q00 hb
  replace Q01 := uB Q01 hb
  replace Q02 := uB Q02 hb
  replace Q03 := uB Q03 hb
  replace HB := uH HB hb
  (try clear hb)
  (try clear hb2)
  (try clear hk)
  (try clear hi)
  (try clear ho0)
  refine hK.out _ _ ⟨bC Q00 0, bC Q00 1, bC Q00 2, bC Q00 3, bC Q00 4, bC Q00 5, bC Q00 6, bC Q00 7, bC Q00 8, bC Q00 9⟩ (fun hHeld => ?_)
  clear hK K
  refine norm_ (a' := ?_) ?_ ?_
  rotate_left
  ·show Act.put _ (some 30) _ = _
   simp only [Act.put, List.setIfInBounds_toArray, List.set_cons_zero, List.set_cons_succ, i64_w, i32_w]
   rfl
  refine one_ (i := 13) (N := some 37) #[true, true, true, true, true, true, true, true, true, true, true, true, true, true, false, false] rfl rfl (one_of HT_.out (by kernel_rfl)) (by decide) (fun K hK => ?_)
  refine goes_ Try.func69 (by kernel_rfl) rfl #[.slice A0_7 l0_7.length c0_7, .slice A0_9 l0_9.length c0_9, .int .i64 80] (by rfl) rfl rfl aM ?_
  with_reducible refine (scarfjointref11_pairs.calls k _ _ l0_7 _ _ l0_9 80 t109 _ ?side1 ?side2 ?side3 ?side4 A5.out).mono ?_
  (case side1 => exact cX (cB HR0_7.out HB.out))
  (case side2 => exact HC0_7.out)
  (case side3 => exact cX (cB HR0_9.out HB.out))
  (case side4 => exact HC0_9.out)
  rintro e w18 ⟨v110, rfl, ho0, hb⟩
  refine ⟨_, rfl, ?_⟩
  have Q3k := Aside0.mk (Kd.R_lower (Kd.R_new' ho0 (Kd.R_lt (pR Q1t))) (below_size (pH HB)))
  replace Q1t := eR Q1t (Kd.R_base ho0) hb
  replace Q00 := uB Q00 hb
  replace Q01 := uB Q01 hb
  replace Q02 := uB Q02 hb
  replace Q03 := uB Q03 hb
  replace HB := uH HB hb
  (try clear hb)
  (try clear hb2)
  (try clear hk)
  (try clear hi)
  (try clear ho0)
  refine hK.out _ _ ⟨bC Q00 0, bC Q00 1, bC Q00 2, bC Q00 3, bC Q00 4, bC Q00 5, bC Q00 6, bC Q00 7, bC Q00 8, bC Q00 9⟩ (fun hHeld => ?_)
  clear hK K
  refine norm_ (a' := ?_) ?_ ?_
  rotate_left
  ·show Act.put _ (some 37) _ = _
   simp only [Act.put, List.setIfInBounds_toArray, List.set_cons_zero, List.set_cons_succ, i64_w, i32_w]
   rfl
  refine pure_ (i := 14) (N := some 7) (v := ?_) (a' := ?_) #[true, true, true, true, true, true, true, true, true, true, true, true, true, true, true, false] rfl rfl (any_of HT_.out (by kernel_rfl)) (fun _ _ _ h => h) (Or.inl ⟨by rfl, ?_⟩) ?_ ?_
  rotate_left
  ·intro w'
   go_simp
   with_reducible rfl
  rotate_left
  ·simp only [Act.put, List.setIfInBounds_toArray, List.set_cons_zero, List.set_cons_succ, i64_w, i32_w]
   rfl
  refine pure_ (i := 15) (N := some 8) (v := ?_) (a' := ?_) #[true, true, true, true, true, true, true, true, true, true, true, true, true, true, true, true] rfl rfl (any_of HT_.out (by kernel_rfl)) (fun _ _ _ h => h) (Or.inl ⟨by rfl, ?_⟩) ?_ ?_
  rotate_left
  ·intro w'
   go_simp
   with_reducible rfl
  rotate_left
  ·simp only [Act.put, List.setIfInBounds_toArray, List.set_cons_zero, List.set_cons_succ, i64_w, i32_w]
   rfl
  refine done_ (done_of HT_.out (by kernel_rfl)) ?_
  go_upto_region 5 with (fail)
  go_cut [45] (fun v45 wc => ∃ (kq : Nat) (x45_5 : Bool), v45 = .bool x45_5 ∧ Aside0 (scarfjointref11_Of.j0 kq t106 t109 x45_5 l0_0 l0_1 l0_2 l0_3 l0_4 l0_5 l0_6 l0_7 l0_8 l0_9 = some (r1, r2, r3, r4, r5, r6, r7)) ∧ Aside0 (kq ≤ k) ∧ Aside0 (Kd.R k79 79 wc w.heap.size (fun k_ => some k_ ≠ (v110 : Value).ownBlock) v107 t106) ∧ Aside0 (Kd.R k79 79 wc w.heap.size (fun k_ => some k_ ≠ (v107 : Value).ownBlock) v110 t109) ∧ Aside0 (wc.heap[Q04]? = some (.cells #[(.slice A0_0 l0_0.length c0_0), (.slice A0_1 l0_1.length c0_1), (.slice A0_2 l0_2.length c0_2), (.slice A0_3 l0_3.length c0_3), (.slice A0_4 l0_4.length c0_4), (.slice A0_5 l0_5.length c0_5), (.slice A0_6 l0_6.length c0_6), (.slice A0_7 l0_7.length c0_7), (.slice A0_8 l0_8.length c0_8), (.slice A0_9 l0_9.length c0_9)] 29 (0, 0))) ∧ Aside0 (wc.heap[Q0i]? = some (.cells #[(.slice none 0 0), (.slice none 0 0)] 25 (0, 0))) ∧ Aside0 (wc.heap[Q0j]? = some (.cells #[(.slice none 0 0), (.slice none 0 0)] 27 (0, 0))) ∧ Aside0 (wc.heap[Q0k]? = some (.cells #[(.slice none 0 0), (.slice none 0 0)] 27 (0, 0))) ∧ Aside0 (Below w.heap.size w wc))
  case first =>
   have H := HC6.out
   clear HC6
   by_cases c19 : (t106.length : Int) > 40
   ·rw [if_pos c19] at H
    have c19b0 : decide (40 < (t106.length : Int)) = true := decide_eq_true c19
    have c19b1 : decide (40 < t106.length) = true := decide_eq_true (by omega)
    clear c19
    (first | rw [c19b0] | (simp only [i64_w, i32_w]; rw [c19b0]) | skip)
    have H' := Aside0.mk H
    clear H
    obtain ⟨Q53, Q54, Q4f⟩ := Kd.R_slice Q1t.out
    subst Q4f
    go_wp2
    go_meet
    case rel => exact ⟨_, (true), rS, H', ⟨by first | omega | exact Nat.le_refl _⟩, ⟨by (with_reducible repeat (first | apply rA | apply rN | apply rD)); exact Kd.R_mono Q1t.out (fun _ hk => hk.2)⟩, ⟨by (with_reducible repeat (first | apply rA | apply rN | apply rD)); exact Kd.R_mono Q3k.out (fun _ hk => hk.2)⟩, ⟨pB Q00⟩, ⟨pB Q01⟩, ⟨pB Q02⟩, ⟨pB Q03⟩, ⟨pH HB⟩⟩
   ·rw [if_neg c19] at H
    have c19b0 : decide (40 < (t106.length : Int)) = false := decide_eq_false c19
    have c19b1 : decide (40 < t106.length) = false := decide_eq_false (by omega)
    clear c19
    (first | rw [c19b0] | (simp only [i64_w, i32_w]; rw [c19b0]) | skip)
    have H' := Aside0.mk H
    clear H
    obtain ⟨Q55, Q56, Q4g⟩ := Kd.R_slice Q1t.out
    subst Q4g
    obtain ⟨Q57, Q58, Q4h⟩ := Kd.R_slice Q3k.out
    subst Q4h
    go_wp2
    go_meet
    case rel => exact ⟨_, (decide ((t109.length : Int) > 80)), rS, H', ⟨by first | omega | exact Nat.le_refl _⟩, ⟨by (with_reducible repeat (first | apply rA | apply rN | apply rD)); exact Kd.R_mono Q1t.out (fun _ hk => hk.2)⟩, ⟨by (with_reducible repeat (first | apply rA | apply rN | apply rD)); exact Kd.R_mono Q3k.out (fun _ hk => hk.2)⟩, ⟨pB Q00⟩, ⟨pB Q01⟩, ⟨pB Q02⟩, ⟨pB Q03⟩, ⟨pH HB⟩⟩
  case rest =>
   clear HC6
   try clear c1; try clear p2; try clear c3; try clear c3b0; try clear c3b1; try clear c6; try clear c11; try clear c12; try clear c13; try clear c19; try clear c19b0; try clear c19b1; try clear Q30; try clear Q31; try clear Q32; try clear Q33; try clear Q34; try clear Q35; try clear Q36; try clear Q37; try clear Q38; try clear Q39; try clear Q3a; try clear Q3b; try clear Q3c; try clear Q3d; try clear Q3e; try clear Q3f; try clear Q3g; try clear Q3h; try clear Q3i; try clear Q3j
   obtain ⟨kq, x45_5, rfl, HA, HJ5, Q09, Q08, Q00, Q01, Q02, Q03, HB⟩ := hcut
   cases kq with
   | zero => exact absurd HA.out (by simp [scarfjointref11_Of.j0])
   | succ kj5 =>
    have H := HA.out
    clear HA
    simp only [scarfjointref11_Of.j0] at H
    by_cases c23 : x45_5 = true
    ·subst c23
     have H1 : (some (([] : List Int), ([] : List (S94)), ([] : List Int), ([] : List Int), ([] : List Int), ([] : List Int), 3)) = some (r1, r2, r3, r4, r5, r6, r7) := by rw [if_pos rfl] at H; exact H
     clear H
     have H := H1
     clear H1
     simp only [Option.some.injEq, Prod.mk.injEq] at H
     obtain ⟨rfl, rfl, rfl, rfl, rfl, rfl, rfl⟩ := H
     have Q59 := Q29.out
     have Q5a := Q28.out
     have Q5b := Q10.out
     have Q5c := Q11.out
     have Q5d := Q12.out
     have Q5e := Q13.out
     have Q3s : wc.cell? ⟨Q0i, 0, none⟩ = some (.slice none 0 0) := bC Q01 0
     have Q3t : wc.cell? ⟨Q0i, 1, none⟩ = some (.slice none 0 0) := bC Q01 1
     have Q3u := blk_frozen Q01.out 0
     have Q3v := blk_frozen Q01.out 1
     have Q5f := Q2b.out
     have Q5g := Q2a.out
     have Q5h := Q14.out
     have Q5i := Q15.out
     have Q3w : wc.cell? ⟨Q0j, 0, none⟩ = some (.slice none 0 0) := bC Q02 0
     have Q3x : wc.cell? ⟨Q0j, 1, none⟩ = some (.slice none 0 0) := bC Q02 1
     have Q3y := blk_frozen Q02.out 0
     have Q3z := blk_frozen Q02.out 1
     have Q5j := Q2d.out
     have Q5k := Q2c.out
     have Q40 : wc.cell? ⟨Q0k, 0, none⟩ = some (.slice none 0 0) := bC Q03 0
     have Q41 : wc.cell? ⟨Q0k, 1, none⟩ = some (.slice none 0 0) := bC Q03 1
     have Q42 := blk_frozen Q03.out 0
     have Q43 := blk_frozen Q03.out 1
     go_wp2
     refine bodyPost_ret (results_list (rs := [.cell 2 25, .cell 3 27, .cell 4 27, .tmp 5]) rfl (by simp) (.cell Q0i 25 #[.slice none 0 0, .slice none 0 0] (0, 0) _ rfl (by (with_reducible repeat (first | refine bN ?_ _ | refine bD ?_ | refine bA ?_ _)); refine blk_far ?_ Q12.out _; (with_reducible repeat (first | refine bN ?_ _ | refine bD ?_ | refine bA ?_ _)); refine blk_far ?_ Q12.out _; (with_reducible repeat (first | refine bN ?_ _ | refine bD ?_ | refine bA ?_ _)); refine blk_far ?_ Q10.out _; (with_reducible repeat (first | refine bN ?_ _ | refine bD ?_ | refine bA ?_ _)); refine blk_far ?_ Q10.out _; (with_reducible repeat (first | refine bN ?_ _ | refine bD ?_ | refine bA ?_ _)); refine blk_put (cs := #[.slice none 0 0, .slice none 0 0]) ?_ 1 _ rfl; (with_reducible repeat (first | refine bN ?_ _ | refine bD ?_ | refine bA ?_ _)); refine blk_put (cs := #[.slice none 0 0, .slice none 0 0]) ?_ 0 _ rfl; (with_reducible repeat (first | refine bN ?_ _ | refine bD ?_ | refine bA ?_ _)); exact Q01.out) Try.underlying25 rfl (by kernel_rfl) (.cell Q0j 27 #[.slice none 0 0, .slice none 0 0] (0, 0) _ rfl (by (with_reducible repeat (first | refine bN ?_ _ | refine bD ?_ | refine bA ?_ _)); refine blk_far ?_ Q14.out _; (with_reducible repeat (first | refine bN ?_ _ | refine bD ?_ | refine bA ?_ _)); refine blk_far ?_ Q14.out _; (with_reducible repeat (first | refine bN ?_ _ | refine bD ?_ | refine bA ?_ _)); refine blk_put (cs := #[.slice none 0 0, .slice none 0 0]) ?_ 1 _ rfl; (with_reducible repeat (first | refine bN ?_ _ | refine bD ?_ | refine bA ?_ _)); refine blk_put (cs := #[.slice none 0 0, .slice none 0 0]) ?_ 0 _ rfl; (with_reducible repeat (first | refine bN ?_ _ | refine bD ?_ | refine bA ?_ _)); refine blk_far ?_ Q11.out _; (with_reducible repeat (first | refine bN ?_ _ | refine bD ?_ | refine bA ?_ _)); refine blk_far ?_ Q11.out _; (with_reducible repeat (first | refine bN ?_ _ | refine bD ?_ | refine bA ?_ _)); exact Q02.out) Try.underlying27 rfl (by kernel_rfl) (.cell Q0k 27 #[.slice none 0 0, .slice none 0 0] (0, 0) _ rfl (by (with_reducible repeat (first | refine bN ?_ _ | refine bD ?_ | refine bA ?_ _)); refine blk_put (cs := #[.slice none 0 0, .slice none 0 0]) ?_ 1 _ rfl; (with_reducible repeat (first | refine bN ?_ _ | refine bD ?_ | refine bA ?_ _)); refine blk_put (cs := #[.slice none 0 0, .slice none 0 0]) ?_ 0 _ rfl; (with_reducible repeat (first | refine bN ?_ _ | refine bD ?_ | refine bA ?_ _)); refine blk_far ?_ Q15.out _; (with_reducible repeat (first | refine bN ?_ _ | refine bD ?_ | refine bA ?_ _)); refine blk_far ?_ Q15.out _; (with_reducible repeat (first | refine bN ?_ _ | refine bD ?_ | refine bA ?_ _)); refine blk_far ?_ Q13.out _; (with_reducible repeat (first | refine bN ?_ _ | refine bD ?_ | refine bA ?_ _)); refine blk_far ?_ Q13.out _; (with_reducible repeat (first | refine bN ?_ _ | refine bD ?_ | refine bA ?_ _)); exact Q03.out) Try.underlying27 rfl (by kernel_rfl) (.tmp .nil))))) rfl ?_
     exact ⟨_, _, _, _, _, _, by first | rfl | (simp [errW_none, errW_some] <;> rfl) | (simp [*, errW_none, errW_some] <;> rfl), by first | exact Kd.R_nil _ _ _ _ _ | exact Kd.N_nil _ _ _ _ _ | exact Kd.V_nil _ _ _ _ _ | exact Kd.Q_nil _ _ _ _ _ | exact Kd.S_nil _ _ _ _ _, by first | exact Kd.R_nil _ _ _ _ _ | exact Kd.N_nil _ _ _ _ _ | exact Kd.V_nil _ _ _ _ _ | exact Kd.Q_nil _ _ _ _ _ | exact Kd.S_nil _ _ _ _ _, by first | exact Kd.R_nil _ _ _ _ _ | exact Kd.N_nil _ _ _ _ _ | exact Kd.V_nil _ _ _ _ _ | exact Kd.Q_nil _ _ _ _ _ | exact Kd.S_nil _ _ _ _ _, by first | exact Kd.R_nil _ _ _ _ _ | exact Kd.N_nil _ _ _ _ _ | exact Kd.V_nil _ _ _ _ _ | exact Kd.Q_nil _ _ _ _ _ | exact Kd.S_nil _ _ _ _ _, by first | exact Kd.R_nil _ _ _ _ _ | exact Kd.N_nil _ _ _ _ _ | exact Kd.V_nil _ _ _ _ _ | exact Kd.Q_nil _ _ _ _ _ | exact Kd.S_nil _ _ _ _ _, by first | exact Kd.R_nil _ _ _ _ _ | exact Kd.N_nil _ _ _ _ _ | exact Kd.V_nil _ _ _ _ _ | exact Kd.Q_nil _ _ _ _ _ | exact Kd.S_nil _ _ _ _ _, by repeat (first | (with_reducible first | exact HB.out | apply wA | apply wN | apply wD | refine below_set ?_ Q2q.out | refine below_set ?_ Q2r.out | refine below_set ?_ Q2s.out | refine below_set ?_ Q2t.out) | exact HB.out)⟩
    ·replace c23 := Bool.eq_false_iff.mpr c23
     subst c23
     have H1 : (scarfjointref11_Of.l0 kj5 t106 t109 0 l0_0 l0_1 l0_2 l0_3 l0_4 l0_5 l0_6 l0_7 l0_8 l0_9 ([] : List Int)) = some (r1, r2, r3, r4, r5, r6, r7) := by rw [if_neg (show ¬ (false = true) by decide)] at H; exact H
     clear H
     have H := H1
     clear H1
     have H' := Aside0.mk H
     clear H
     go_wp2_with (first | ((with_reducible refine gate_dst (N := 9) rfl ?_); (try (refine gate_guard (by rfl) ?_; dsimp only)); refine box_event ?hg (N := 9) ?hd (cs := #[.slice none 0 0, .slice none 0 0]) (t := 25) ?hr ?_; (case hd => rfl); (case hg => rfl); (case hr => first | (go_simp; done) | (go_simp; rfl)); intro Q0r hg w33 hbox hb; replace Q09 := uR Q09 hb; replace Q08 := uR Q08 hb; have Q05 := Aside0.mk (hbox); have Q5l := uS HB hg; have Q4i := uS HB hg; replace HB := uH HB hb; have Q2u := uL Q00 hg; have Q44 := uG Q00 hg; replace Q00 := uB Q00 hb; have Q2e := uL Q01 hg; have Q1k := uG Q01 hg; replace Q01 := uB Q01 hb; have Q2f := uL Q02 hg; have Q1l := uG Q02 hg; replace Q02 := uB Q02 hb; have Q2g := uL Q03 hg; have Q1m := uG Q03 hg; replace Q03 := uB Q03 hb; clear hb hbox hg))
     go_loopg [10] kj5 (fun kq v10 w' => ∃ (x10_2 : Int) (x113000_2 : List Int) (u113000 : Value), v10 = .int .i64 x10_2 ∧ Aside0 (scarfjointref11_Of.l0 kq t106 t109 x10_2 l0_0 l0_1 l0_2 l0_3 l0_4 l0_5 l0_6 l0_7 l0_8 l0_9 x113000_2 = some (r1, r2, r3, r4, r5, r6, r7)) ∧ Aside0 (kq ≤ kj5) ∧ Aside0 (Kd.R k79 79 w' w.heap.size (fun k_ => some k_ ≠ (v110 : Value).ownBlock) v107 t106) ∧ Aside0 (Kd.R k79 79 w' w.heap.size (fun k_ => some k_ ≠ (v107 : Value).ownBlock) v110 t109) ∧ Aside0 (Kd.R (Kd.int .i64) 3 w' w.heap.size (fun _ => True) u113000 x113000_2) ∧ Aside0 (w'.heap[Q04]? = some (.cells #[(.slice A0_0 l0_0.length c0_0), (.slice A0_1 l0_1.length c0_1), (.slice A0_2 l0_2.length c0_2), (.slice A0_3 l0_3.length c0_3), (.slice A0_4 l0_4.length c0_4), (.slice A0_5 l0_5.length c0_5), (.slice A0_6 l0_6.length c0_6), (.slice A0_7 l0_7.length c0_7), (.slice A0_8 l0_8.length c0_8), (.slice A0_9 l0_9.length c0_9)] 29 (0, 0))) ∧ Aside0 (w'.heap[Q0i]? = some (.cells #[(.slice none 0 0), (.slice none 0 0)] 25 (0, 0))) ∧ Aside0 (w'.heap[Q0j]? = some (.cells #[(.slice none 0 0), (.slice none 0 0)] 27 (0, 0))) ∧ Aside0 (w'.heap[Q0k]? = some (.cells #[(.slice none 0 0), (.slice none 0 0)] 27 (0, 0))) ∧ Aside0 (w'.heap[Q0r]? = some (.cells #[u113000, (.slice none 0 0)] 25 (0, 0))) ∧ Aside0 (Below w.heap.size w w'))
     case atStart => exact ⟨(0), (([] : List Int)), (.slice none 0 0), rS, H', ⟨Nat.le_refl _⟩, ⟨pR Q09⟩, ⟨pR Q08⟩, ⟨by first | exact Kd.R_nil _ _ _ _ _ | exact Kd.N_nil _ _ _ _ _ | exact Kd.V_nil _ _ _ _ _ | exact Kd.Q_nil _ _ _ _ _ | exact Kd.S_nil _ _ _ _ _⟩, ⟨pB Q00⟩, ⟨pB Q01⟩, ⟨pB Q02⟩, ⟨pB Q03⟩, ⟨pB Q05⟩, ⟨pH HB⟩⟩
     case round =>
      clear H'
      try clear c1; try clear c2; try clear p2; try clear c3; try clear c3b0; try clear c3b1; try clear c6; try clear c11; try clear c12; try clear c13; try clear c19; try clear c19b0; try clear c19b1; try clear c23; try clear c24; try clear c25; try clear c26; try clear c28; try clear c29; try clear c31; try clear Q30; try clear Q31; try clear Q32; try clear Q33; try clear Q34; try clear Q35; try clear Q36; try clear Q37; try clear Q38; try clear Q39; try clear Q3s; try clear Q3t; try clear Q3w; try clear Q3x; try clear Q40; try clear Q41; try clear Q3a; try clear Q3b; try clear Q3c; try clear Q3d; try clear Q3e; try clear Q3f; try clear Q3g; try clear Q3h; try clear Q3i; try clear Q3j; try clear Q3u; try clear Q3v; try clear Q3y; try clear Q3z; try clear Q42; try clear Q43; try clear p2
      obtain ⟨x10_2, x113000_2, u113000, rfl, HA, HK2, Q09, Q08, Q0a, Q00, Q01, Q02, Q03, Q05, HB⟩ := hrel
      cases gk with
      | zero => exact absurd HA.out (by simp [scarfjointref11_Of.l0])
      | succ k2 =>
       have H := HA.out
       clear HA
       simp only [scarfjointref11_Of.l0] at H
       by_cases c34 : x10_2 < (t106.length : Int)
       ·rw [if_pos c34] at H
        have c34b0 : decide (x10_2 < (t106.length : Int)) = true := decide_eq_true c34
        clear c34
        by_cases c35 : 0 ≤ x10_2
        ·rw [if_pos c35] at H
         have c35b0 : decide (0 ≤ x10_2) = true := decide_eq_true c35
         clear c35
         by_cases c36 : 0 ≤ ((rd_T79 t106 x10_2).f0)
         ·rw [if_pos c36] at H
          have c36b0 : decide (0 ≤ ((rd_T79 t106 x10_2).f0)) = true := decide_eq_true c36
          clear c36
          by_cases c37 : ((rd_T79 t106 x10_2).f0) < (l0_0.length : Int)
          ·rw [if_pos c37] at H
           have c37b0 : decide (((rd_T79 t106 x10_2).f0) < (l0_0.length : Int)) = true := decide_eq_true c37
           clear c37
           by_cases c38 : x113000_2.length < 17592186044416
           ·rw [if_pos c38] at H
            have LMc38 := Aside0.mk c38
            clear c38
            obtain ⟨y115, hy115⟩ : ∃ y_ : List Int, y_ = (x113000_2 ++ [rd l0_0 ((rd_T79 t106 x10_2).f0)]) := ⟨_, rfl⟩
            replace H : (scarfjointref11_Of.l0 k2 t106 t109 (wrap64 (x10_2 + 1)) l0_0 l0_1 l0_2 l0_3 l0_4 l0_5 l0_6 l0_7 l0_8 l0_9 y115) = some (r1, r2, r3, r4, r5, r6, r7) := by first | (rw [hy115]; with_reducible exact H) | (have H2_ := (Option.bind_some _ _).symm.trans H; rw [hy115]; with_reducible exact H2_) | (have H2_ := (Option.bind_some _ _).symm.trans H; with_reducible exact H2_) | with_reducible exact H | (rw [hy115]; exact H) | exact H
            have Ny115 := Aside0.mk hy115
            clear hy115
            have H' := Aside0.mk H
            clear H
            obtain ⟨Q5m, Q5n, Q4j⟩ := Kd.R_slice Q09.out
            subst Q4j
            try go_wp2
            replace Q09 := Aside0.mk (rD Q09.out)
            replace Q08 := Aside0.mk (rD Q08.out)
            replace Q0a := Aside0.mk (rD Q0a.out)
            replace Q00 := Aside0.mk (bD Q00.out)
            replace Q01 := Aside0.mk (bD Q01.out)
            replace Q02 := Aside0.mk (bD Q02.out)
            replace Q03 := Aside0.mk (bD Q03.out)
            replace Q05 := Aside0.mk (bD Q05.out)
            replace HB := Aside0.mk (wD HB.out)
            have p113 : 0 ≤ (x10_2 : Int) := oT
            have q113 : x10_2 < (t106.length : Int) := oT
            obtain ⟨ad113, e113, hx113_0, hx113_1⟩ := at_T79 (Kd.R_reads' Q09.out).2.2 x10_2 p113 q113
            cases e113
            replace p113 := eq_true p113
            replace q113 := eq_true q113
            have p114 : 0 ≤ (((rd_T79 t106 x10_2).f0) : Int) := oT
            have q114 : ((rd_T79 t106 x10_2).f0) < (l0_0.length : Int) := oT
            obtain ⟨ad114, e114, hx114_0⟩ := Kd.at_int HR0_0.out ((rd_T79 t106 x10_2).f0) p114 q114
            have hw114_0 := hx114_0
            cases e114
            replace hx114_0 := (HB.out.cell (World.block_lt_of_cell? w _ hx114_0)).trans hx114_0
            replace p114 := eq_true p114
            replace q114 := eq_true q114
            refine start_ (n := 16) (S := fun w' => w'.cell? ⟨Q0r, 0, none⟩ = some (u113000) ∧ w'.cell? ⟨Q0r, 1, none⟩ = some (.slice none 0 0) ∧ w'.cell? ⟨Q04, 0, none⟩ = some (.slice (some ad114) l0_0.length c0_0) ∧ w'.cell? ⟨Q04, 1, none⟩ = some (.slice A0_1 l0_1.length c0_1) ∧ w'.cell? ⟨Q04, 2, none⟩ = some (.slice A0_2 l0_2.length c0_2) ∧ w'.cell? ⟨Q04, 3, none⟩ = some (.slice A0_3 l0_3.length c0_3) ∧ w'.cell? ⟨Q04, 4, none⟩ = some (.slice A0_4 l0_4.length c0_4) ∧ w'.cell? ⟨Q04, 5, none⟩ = some (.slice A0_5 l0_5.length c0_5) ∧ w'.cell? ⟨Q04, 6, none⟩ = some (.slice A0_6 l0_6.length c0_6) ∧ w'.cell? ⟨Q04, 7, none⟩ = some (.slice A0_7 l0_7.length c0_7) ∧ w'.cell? ⟨Q04, 8, none⟩ = some (.slice A0_8 l0_8.length c0_8) ∧ w'.cell? ⟨Q04, 9, none⟩ = some (.slice A0_9 l0_9.length c0_9) ∧ w'.cell? (ad113.add ((x10_2).toNat * 2)) = some (.int .i64 ((rd_T79 t106 x10_2).f0)) ∧ w'.cell? ⟨(ad113.add ((x10_2).toNat * 2)).block, (ad113.add ((x10_2).toNat * 2)).off + 1, none⟩ = some (.int .i64 ((rd_T79 t106 x10_2).f1)) ∧ w'.cell? (ad114.add (((rd_T79 t106 x10_2).f0)).toNat) = some (.int .i64 (rd l0_0 ((rd_T79 t106 x10_2).f0)))) (ds := [13, 15]) #[false, false, false, false, false, false, false, false, false, false, false, false, false, false, false, false] (by kernel_rfl) rfl rfl ⟨bC Q05 0, bC Q05 1, bC Q00 0, bC Q00 1, bC Q00 2, bC Q00 3, bC Q00 4, bC Q00 5, bC Q00 6, bC Q00 7, bC Q00 8, bC Q00 9, hx113_0, hx113_1, ((HB.out.cell (World.block_lt_of_cell? w _ hw114_0)).trans hw114_0)⟩ (fun hHeld => ?_); refine with_tabW scarfjointref11_Of.tab11 scarfjointref11_Of.bits11 (fun HT_ HW_ => ?_)
            generalize wr.drew = w40 at Q09 Q08 Q0a Q00 Q01 Q02 Q03 Q05 HB hx113_0 hx113_1 hx114_0 hHeld ⊢
            refine pure_ (i := 0) (N := some 55) (v := ?_) (a' := ?_) #[true, false, false, false, false, false, false, false, false, false, false, false, false, false, false, false] rfl rfl (any_of HT_.out (by kernel_rfl)) (fun _ _ _ h => h) (Or.inl ⟨by rfl, ?_⟩) ?_ ?_
            rotate_left
            ·intro w'
             go_simp
             with_reducible rfl
            rotate_left
            ·simp only [Act.put, List.setIfInBounds_toArray, List.set_cons_zero, List.set_cons_succ, i64_w, i32_w]
             rfl
            refine pure_ (i := 2) (N := some 57) (v := ?_) (a' := ?_) #[true, false, true, false, false, false, false, false, false, false, false, false, false, false, false, false] rfl rfl (any_of HT_.out (by kernel_rfl)) (fun _ _ _ h => h) (Or.inl ⟨by rfl, ?_⟩) ?_ ?_
            rotate_left
            ·intro w'
             go_simp
             with_reducible rfl
            rotate_left
            ·simp only [Act.put, List.setIfInBounds_toArray, List.set_cons_zero, List.set_cons_succ, i64_w, i32_w]
             rfl
            refine pure_ (i := 3) (N := some 58) (v := ?_) (a' := ?_) #[true, false, true, true, false, false, false, false, false, false, false, false, false, false, false, false] rfl rfl (any_of HT_.out (by kernel_rfl)) (fun _ _ _ h => h) (Or.inl ⟨by rfl, ?_⟩) ?_ ?_
            rotate_left
            ·intro w'
             go_simp
             with_reducible rfl
            rotate_left
            ·simp only [Act.put, List.setIfInBounds_toArray, List.set_cons_zero, List.set_cons_succ, i64_w, i32_w]
             rfl
            refine pure_ (i := 5) (N := some 60) (v := ?_) (a' := ?_) #[true, false, true, true, false, true, false, false, false, false, false, false, false, false, false, false] rfl rfl (any_of HT_.out (by kernel_rfl)) (fun _ _ _ h => h) (Or.inl ⟨by rfl, ?_⟩) ?_ ?_
            rotate_left
            ·intro w'
             go_simp
             with_reducible rfl
            rotate_left
            ·simp only [Act.put, List.setIfInBounds_toArray, List.set_cons_zero, List.set_cons_succ, i64_w, i32_w]
             rfl
            refine pure_ (i := 6) (N := some 61) (v := ?_) (a' := ?_) #[true, false, true, true, false, true, true, false, false, false, false, false, false, false, false, false] rfl rfl (any_of HT_.out (by kernel_rfl)) (fun _ _ _ h => h) (Or.inl ⟨by rfl, ?_⟩) ?_ ?_
            rotate_left
            ·intro w'
             go_simp
             with_reducible rfl
            rotate_left
            ·simp only [Act.put, List.setIfInBounds_toArray, List.set_cons_zero, List.set_cons_succ, i64_w, i32_w]
             rfl
            refine pure_ (i := 7) (N := some 62) (v := ?_) (a' := ?_) #[true, false, true, true, false, true, true, true, false, false, false, false, false, false, false, false] rfl rfl (any_of HT_.out (by kernel_rfl)) (fun _ _ _ h => h) (Or.inl ⟨by rfl, ?_⟩) ?_ ?_
            rotate_left
            ·intro w'
             go_simp
             with_reducible rfl
            rotate_left
            ·simp only [Act.put, List.setIfInBounds_toArray, List.set_cons_zero, List.set_cons_succ, i64_w, i32_w]
             rfl
            refine pure_ (i := 8) (N := some 63) (v := ?_) (a' := ?_) #[true, false, true, true, false, true, true, true, true, false, false, false, false, false, false, false] rfl rfl (any_of HT_.out (by kernel_rfl)) (fun _ _ _ h => h) (Or.inl ⟨by rfl, ?_⟩) ?_ ?_
            rotate_left
            ·intro w'
             go_simp
             with_reducible rfl
            rotate_left
            ·simp only [Act.put, List.setIfInBounds_toArray, List.set_cons_zero, List.set_cons_succ, i64_w, i32_w]
             rfl
            refine take_ (i := 1) (N := some 56) (v := ?_) (a' := ?_) #[true, true, true, true, false, true, true, true, true, false, false, false, false, false, false, false] rfl rfl (take_ofW HT_.out HW_.out (by kernel_rfl)) (fun _ _ _ h => h) (Or.inl ⟨by rfl, ?_⟩) hHeld ?_ ?_
            rotate_left
            ·rintro w' ⟨s0, s1, s2, s3, s4, s5, s6, s7, s8, s9, s10, s11, s12, s13, s14⟩
             go_simp
             with_reducible rfl
            rotate_left
            ·simp only [Act.put, List.setIfInBounds_toArray, List.set_cons_zero, List.set_cons_succ, i64_w, i32_w]
             rfl
            refine take_ (i := 4) (N := some 59) (v := ?_) (a' := ?_) #[true, true, true, true, true, true, true, true, true, false, false, false, false, false, false, false] rfl rfl (take_ofW HT_.out HW_.out (by kernel_rfl)) (fun _ _ _ h => h) (Or.inl ⟨by rfl, ?_⟩) hHeld ?_ ?_
            rotate_left
            ·rintro w' ⟨s0, s1, s2, s3, s4, s5, s6, s7, s8, s9, s10, s11, s12, s13, s14⟩
             go_simp
             with_reducible rfl
            rotate_left
            ·simp only [Act.put, List.setIfInBounds_toArray, List.set_cons_zero, List.set_cons_succ, i64_w, i32_w]
             rfl
            refine take_ (i := 9) (N := some 64) (v := ?_) (a' := ?_) #[true, true, true, true, true, true, true, true, true, true, false, false, false, false, false, false] rfl rfl (take_ofW HT_.out HW_.out (by kernel_rfl)) (fun _ _ _ h => h) (Or.inl ⟨by rfl, ?_⟩) hHeld ?_ ?_
            rotate_left
            ·rintro w' ⟨s0, s1, s2, s3, s4, s5, s6, s7, s8, s9, s10, s11, s12, s13, s14⟩
             go_simp
             with_reducible rfl
            rotate_left
            ·simp only [Act.put, List.setIfInBounds_toArray, List.set_cons_zero, List.set_cons_succ, i64_w, i32_w]
             rfl
            refine pure_ (i := 10) (N := some 65) (v := ?_) (a' := ?_) #[true, true, true, true, true, true, true, true, true, true, true, false, false, false, false, false] rfl rfl (any_of HT_.out (by kernel_rfl)) (fun _ _ _ h => h) (Or.inl ⟨by rfl, ?_⟩) ?_ ?_
            rotate_left
            ·intro w'
             go_simp
             with_reducible rfl
            rotate_left
            ·simp only [Act.put, List.setIfInBounds_toArray, List.set_cons_zero, List.set_cons_succ, i64_w, i32_w]
             rfl
            refine take_ (i := 11) (N := some 66) (v := ?_) (a' := ?_) #[true, true, true, true, true, true, true, true, true, true, true, true, false, false, false, false] rfl rfl (take_ofW HT_.out HW_.out (by kernel_rfl)) (fun _ _ _ h => h) (Or.inl ⟨by rfl, ?_⟩) hHeld ?_ ?_
            rotate_left
            ·rintro w' ⟨s0, s1, s2, s3, s4, s5, s6, s7, s8, s9, s10, s11, s12, s13, s14⟩
             go_simp
             with_reducible rfl
            rotate_left
            ·simp only [Act.put, List.setIfInBounds_toArray, List.set_cons_zero, List.set_cons_succ, i64_w, i32_w]
             rfl
            refine one_ (i := 12) (N := some 67) #[true, true, true, true, true, true, true, true, true, true, true, true, true, false, false, false] rfl rfl (one_of HT_.out (by kernel_rfl)) (by decide) (fun K hK => ?_)
            refine value_ (w1 := ?_) (v := ?_) (by rfl) rfl ?_ ?_
            rotate_left 2
            ·go_simp
             constructor
             ·rfl
             ·rfl
            refine hK.out _ _ ⟨(blk_cell (bA Q05.out _) 0).trans rfl, (blk_cell (bA Q05.out _) 1).trans rfl, (blk_cell (bA Q00.out _) 0).trans rfl, (blk_cell (bA Q00.out _) 1).trans rfl, (blk_cell (bA Q00.out _) 2).trans rfl, (blk_cell (bA Q00.out _) 3).trans rfl, (blk_cell (bA Q00.out _) 4).trans rfl, (blk_cell (bA Q00.out _) 5).trans rfl, (blk_cell (bA Q00.out _) 6).trans rfl, (blk_cell (bA Q00.out _) 7).trans rfl, (blk_cell (bA Q00.out _) 8).trans rfl, (blk_cell (bA Q00.out _) 9).trans rfl, (World.cell?_alloc_lt _ _ _ (World.block_lt_of_cell? _ _ (hHeld.2.2.2.2.2.2.2.2.2.2.2.2.1))).trans (hHeld.2.2.2.2.2.2.2.2.2.2.2.2.1), (World.cell?_alloc_lt _ _ _ (World.block_lt_of_cell? _ _ (hHeld.2.2.2.2.2.2.2.2.2.2.2.2.2.1))).trans (hHeld.2.2.2.2.2.2.2.2.2.2.2.2.2.1), (World.cell?_alloc_lt _ _ _ (World.block_lt_of_cell? _ _ (((HB.out.cell (World.block_lt_of_cell? w _ hw114_0)).trans hw114_0)))).trans (((HB.out.cell (World.block_lt_of_cell? w _ hw114_0)).trans hw114_0))⟩ (fun hHeld => ?_)
            clear hK K
            refine norm_ (a' := ?_) ?_ ?_
            rotate_left
            ·show Act.put _ (some 67) _ = _
             simp only [Act.put, List.setIfInBounds_toArray, List.set_cons_zero, List.set_cons_succ, i64_w, i32_w]
             rfl
            refine last_ (i := 13) (N := some 68) #[true, true, true, true, true, true, true, true, true, true, true, true, true, true, false, false] rfl rfl (one_of HT_.out (by kernel_rfl)) (by decide) (fun K hK => ?_)
            refine Kd.R_append_step (Kd.int .i64) (w0 := w) w.heap.size (by rfl) (.tmp 56) (.tmp 67) 22 3 (.int .i64 0) 8 rfl Try.underlying22 info3 rfl (by decide) (by omega) u113000 x113000_2 (rd l0_0 ((rd_T79 t106 x10_2).f0)) [.int .i64 (rd l0_0 ((rd_T79 t106 x10_2).f0))] (fun _ => True) (fun _ => False) rfl rfl ?aP (fun _ hk => hk.elim) ?aF ?aO ?aB ?aS ?aL ?_
            (case aP => exact rfl)
            (case aB => exact (pH HB))
            (case aF => exact (fun _ _ => trivial))
            (case aO => exact (pR Q0a))
            (case aS => exact (below_size (pH HB)))
            (case aL => have := LMc38.out; omega)
            intro v116 w41 ho hb hg hat
            rw [← Ny115.out] at ho
            replace Q09 := Aside0.mk (Kd.R_over' (pR Q09) (Kd.R_typed (pR Q0a)) (by decide) hg)
            replace Q08 := Aside0.mk (Kd.R_over' (pR Q08) (Kd.R_typed (pR Q0a)) (by decide) hg)
            replace Q00 := Aside0.mk (bG (g := Q04) (o := .cells #[.slice (some ad114) l0_0.length c0_0, .slice A0_1 l0_1.length c0_1, .slice A0_2 l0_2.length c0_2, .slice A0_3 l0_3.length c0_3, .slice A0_4 l0_4.length c0_4, .slice A0_5 l0_5.length c0_5, .slice A0_6 l0_6.length c0_6, .slice A0_7 l0_7.length c0_7, .slice A0_8 l0_8.length c0_8, .slice A0_9 l0_9.length c0_9] 29 (0, 0)) (pB Q00) hg (Kd.R_ne Q0a.out Q00.out (by decide)))
            replace Q01 := Aside0.mk (bG (g := Q0i) (o := .cells #[.slice none 0 0, .slice none 0 0] 25 (0, 0)) (pB Q01) hg (Kd.R_ne Q0a.out Q01.out (by decide)))
            replace Q02 := Aside0.mk (bG (g := Q0j) (o := .cells #[.slice none 0 0, .slice none 0 0] 27 (0, 0)) (pB Q02) hg (Kd.R_ne Q0a.out Q02.out (by decide)))
            replace Q03 := Aside0.mk (bG (g := Q0k) (o := .cells #[.slice none 0 0, .slice none 0 0] 27 (0, 0)) (pB Q03) hg (Kd.R_ne Q0a.out Q03.out (by decide)))
            replace Q05 := Aside0.mk (bG (g := Q0r) (o := .cells #[u113000, .slice none 0 0] 25 (0, 0)) (pB Q05) hg (Kd.R_ne Q0a.out Q05.out (by decide)))
            replace HB := Aside0.mk (hb)
            have Q45 := Aside0.mk (ho)
            clear Q0a
            clear ho hb hg hat
            obtain ⟨Q2v, Q2w, Q46⟩ := Kd.R_slice Q45.out
            (first | subst Q46 | (injection Q46 with f1_ f2_ f3_; have f4_ := f1_.symm; have f5_ := f3_.symm; clear f1_ f2_ f3_; subst f4_; subst f5_))
            refine hK.out _ _ ?_
            clear hK K
            refine norm_ (a' := ?_) ?_ ?_
            rotate_left
            ·show Act.put _ (some 68) _ = _
             simp only [Act.put, List.setIfInBounds_toArray, List.set_cons_zero, List.set_cons_succ, i64_w, i32_w]
             rfl
            refine pure_ (i := 14) (N := some 69) (v := ?_) (a' := ?_) #[true, true, true, true, true, true, true, true, true, true, true, true, true, true, true, false] rfl rfl (any_of HT_.out (by kernel_rfl)) (fun _ _ _ h => h) (Or.inl ⟨by rfl, ?_⟩) ?_ ?_
            rotate_left
            ·intro w'
             go_simp
             with_reducible rfl
            rotate_left
            ·simp only [Act.put, List.setIfInBounds_toArray, List.set_cons_zero, List.set_cons_succ, i64_w, i32_w]
             rfl
            refine last_ (i := 15) (N := none) #[true, true, true, true, true, true, true, true, true, true, true, true, true, true, true, true] rfl rfl (one_of HT_.out (by kernel_rfl)) (by decide) (fun K hK => ?_)
            have Q5o : w41.cell? ⟨Q0r, 0, none⟩ = some (u113000) := bC Q05 0
            have Q5p := blk_frozen Q05.out 0
            have Q5q := Q2u.out
            have Q5r := Q2e.out
            have Q5s := Q2f.out
            have Q5t := Q2g.out
            have Q5u := Q44.out
            have Q5v := Q1k.out
            have Q5w := Q1l.out
            have Q5x := Q1m.out
            refine skip_ (w1 := ?_) (by rfl) rfl ?_ ?_
            rotate_left
            ·go_simp
             rfl
            refine hK.out _ _ ?_
            clear hK K
            refine done_ (done_of HT_.out (by kernel_rfl)) ?_
            try go_wp2
            go_roundg k2
            case measure => have := HJ5.out; have := HK2.out; omega
            case rel => exact ⟨(wrap64 (x10_2 + 1)), (y115), (.slice Q2v y115.length Q2w), rS, H', ⟨by have := HJ5.out; have := HK2.out; omega⟩, ⟨by (with_reducible repeat (first | apply rA | apply rN | apply rD)); exact Kd.R_mono (Kd.R_far (p := ⟨Q0r, 0, none⟩) (Kd.R_types Q09.out Q05.out (by decide)) (fun _ hk => hk.2) (.slice Q2v y115.length Q2w)) (fun _ hk => hk.1)⟩, ⟨by (with_reducible repeat (first | apply rA | apply rN | apply rD)); exact Kd.R_mono (Kd.R_far (p := ⟨Q0r, 0, none⟩) (Kd.R_types Q08.out Q05.out (by decide)) (fun _ hk => hk.2) (.slice Q2v y115.length Q2w)) (fun _ hk => hk.1)⟩, ⟨by (with_reducible repeat (first | apply rA | apply rN | apply rD)); exact Kd.R_mono (Kd.R_far (p := ⟨Q0r, 0, none⟩) (Kd.R_types Q45.out Q05.out (by decide)) (fun _ hk => hk.2) (.slice Q2v y115.length Q2w)) (fun _ hk => trivial)⟩, ⟨by (with_reducible repeat (first | refine bN ?_ _ | refine bD ?_ | refine bA ?_ _)); refine blk_far ?_ Q2u.out _; (with_reducible repeat (first | refine bN ?_ _ | refine bD ?_ | refine bA ?_ _)); exact Q00.out⟩, ⟨by (with_reducible repeat (first | refine bN ?_ _ | refine bD ?_ | refine bA ?_ _)); refine blk_far ?_ Q2e.out _; (with_reducible repeat (first | refine bN ?_ _ | refine bD ?_ | refine bA ?_ _)); exact Q01.out⟩, ⟨by (with_reducible repeat (first | refine bN ?_ _ | refine bD ?_ | refine bA ?_ _)); refine blk_far ?_ Q2f.out _; (with_reducible repeat (first | refine bN ?_ _ | refine bD ?_ | refine bA ?_ _)); exact Q02.out⟩, ⟨by (with_reducible repeat (first | refine bN ?_ _ | refine bD ?_ | refine bA ?_ _)); refine blk_far ?_ Q2g.out _; (with_reducible repeat (first | refine bN ?_ _ | refine bD ?_ | refine bA ?_ _)); exact Q03.out⟩, ⟨by (with_reducible repeat (first | refine bN ?_ _ | refine bD ?_ | refine bA ?_ _)); refine blk_put (cs := #[u113000, .slice none 0 0]) ?_ 0 _ rfl; (with_reducible repeat (first | refine bN ?_ _ | refine bD ?_ | refine bA ?_ _)); exact Q05.out⟩, ⟨pH HB⟩⟩
           ·rw [if_neg c38] at H
            exact absurd H (by simp)
          ·rw [if_neg c37] at H
           exact absurd H (by simp)
         ·rw [if_neg c36] at H
          exact absurd H (by simp)
        ·rw [if_neg c35] at H
         exact absurd H (by simp)
       ·rw [if_neg c34] at H
        have c34b0 : decide (x10_2 < (t106.length : Int)) = false := decide_eq_false c34
        clear c34
        have H' := Aside0.mk H
        clear H
        obtain ⟨Q0y, Q0z, Q4k⟩ := Kd.R_slice Q09.out
        subst Q4k
        go_wp2
        go_loopg [11] k2 (fun kq v11 w' => ∃ (x11_3 : Int) (x113001_3 : List (S94)) (u113001 : Value), v11 = .int .i64 x11_3 ∧ Aside0 (scarfjointref11_Of.l1 kq t106 t109 x11_3 l0_0 l0_1 l0_2 l0_3 l0_4 l0_5 l0_6 l0_7 l0_8 l0_9 x113000_2 x113001_3 = some (r1, r2, r3, r4, r5, r6, r7)) ∧ Aside0 (kq ≤ k2) ∧ Aside0 (Kd.R k79 79 w' w.heap.size (fun k_ => some k_ ≠ (v110 : Value).ownBlock) (.slice Q0y t106.length Q0z) t106) ∧ Aside0 (Kd.R k79 79 w' w.heap.size (fun k_ => some k_ ≠ ((.slice Q0y t106.length Q0z) : Value).ownBlock) v110 t109) ∧ Aside0 (Kd.R (Kd.int .i64) 3 w' w.heap.size (fun _ => True) u113000 x113000_2) ∧ Aside0 (Kd.R k94 94 w' w.heap.size (fun _ => True) u113001 x113001_3) ∧ Aside0 (w'.heap[Q04]? = some (.cells #[(.slice A0_0 l0_0.length c0_0), (.slice A0_1 l0_1.length c0_1), (.slice A0_2 l0_2.length c0_2), (.slice A0_3 l0_3.length c0_3), (.slice A0_4 l0_4.length c0_4), (.slice A0_5 l0_5.length c0_5), (.slice A0_6 l0_6.length c0_6), (.slice A0_7 l0_7.length c0_7), (.slice A0_8 l0_8.length c0_8), (.slice A0_9 l0_9.length c0_9)] 29 (0, 0))) ∧ Aside0 (w'.heap[Q0i]? = some (.cells #[(.slice none 0 0), (.slice none 0 0)] 25 (0, 0))) ∧ Aside0 (w'.heap[Q0j]? = some (.cells #[(.slice none 0 0), (.slice none 0 0)] 27 (0, 0))) ∧ Aside0 (w'.heap[Q0k]? = some (.cells #[(.slice none 0 0), (.slice none 0 0)] 27 (0, 0))) ∧ Aside0 (w'.heap[Q0r]? = some (.cells #[u113000, u113001] 25 (0, 0))) ∧ Aside0 (Below w.heap.size w w'))
        case atStart => exact ⟨(0), (([] : List (S94))), (.slice none 0 0), rS, H', ⟨Nat.le_refl _⟩, ⟨pR Q09⟩, ⟨pR Q08⟩, ⟨pR Q0a⟩, ⟨by first | exact Kd.R_nil _ _ _ _ _ | exact Kd.N_nil _ _ _ _ _ | exact Kd.V_nil _ _ _ _ _ | exact Kd.Q_nil _ _ _ _ _ | exact Kd.S_nil _ _ _ _ _⟩, ⟨pB Q00⟩, ⟨pB Q01⟩, ⟨pB Q02⟩, ⟨pB Q03⟩, ⟨pB Q05⟩, ⟨pH HB⟩⟩
        case round =>
         clear H'
         try clear c1; try clear c2; try clear p2; try clear c3; try clear c3b0; try clear c3b1; try clear p3; try clear q3; try clear hx3; try clear c6; try clear p6; try clear c11; try clear c12; try clear c13; try clear c19; try clear c19b0; try clear c19b1; try clear c23; try clear c24; try clear c25; try clear c26; try clear c28; try clear c29; try clear c31; try clear c34; try clear c34b0; try clear c35; try clear c35b0; try clear c36; try clear c36b0; try clear p36; try clear q36; try clear hx36; try clear c37; try clear c37b0; try clear c38; try clear Q30; try clear Q31; try clear Q32; try clear Q33; try clear Q34; try clear Q35; try clear Q36; try clear Q37; try clear Q38; try clear Q39; try clear Q3s; try clear Q3t; try clear Q3w; try clear Q3x; try clear Q40; try clear Q41; try clear Q3a; try clear Q3b; try clear Q3c; try clear Q3d; try clear Q3e; try clear Q3f; try clear Q3g; try clear Q3h; try clear Q3i; try clear Q3j; try clear Q3u; try clear Q3v; try clear Q3y; try clear Q3z; try clear Q42; try clear Q43; try clear hx113_0; try clear hx113_1; try clear hx114_0; try clear p2; try clear p113; try clear p114; try clear q113; try clear q114
         obtain ⟨x11_3, x113001_3, u113001, rfl, HA, HK3, Q09, Q08, Q0a, Q0d, Q00, Q01, Q02, Q03, Q05, HB⟩ := hrel
         cases gk with
         | zero => exact absurd HA.out (by simp [scarfjointref11_Of.l1])
         | succ k3 =>
          have H := HA.out
          clear HA
          simp only [scarfjointref11_Of.l1] at H
          by_cases c45 : x11_3 < (t109.length : Int)
          ·rw [if_pos c45] at H
           have c45b0 : decide (x11_3 < (t109.length : Int)) = true := decide_eq_true c45
           clear c45
           by_cases c46 : 0 ≤ x11_3
           ·rw [if_pos c46] at H
            have c46b0 : decide (0 ≤ x11_3) = true := decide_eq_true c46
            clear c46
            by_cases c47 : 0 ≤ ((rd_T79 t109 x11_3).f0)
            ·rw [if_pos c47] at H
             have c47b0 : decide (0 ≤ ((rd_T79 t109 x11_3).f0)) = true := decide_eq_true c47
             clear c47
             by_cases c48 : ((rd_T79 t109 x11_3).f0) < (l0_1.length : Int)
             ·rw [if_pos c48] at H
              have c48b0 : decide (((rd_T79 t109 x11_3).f0) < (l0_1.length : Int)) = true := decide_eq_true c48
              clear c48
              by_cases c49 : 0 ≤ ((rd_T79 t109 x11_3).f1)
              ·rw [if_pos c49] at H
               have c49b0 : decide (0 ≤ ((rd_T79 t109 x11_3).f1)) = true := decide_eq_true c49
               clear c49
               by_cases c50 : ((rd_T79 t109 x11_3).f1) < (l0_3.length : Int)
               ·rw [if_pos c50] at H
                have c50b0 : decide (((rd_T79 t109 x11_3).f1) < (l0_3.length : Int)) = true := decide_eq_true c50
                clear c50
                replace H := Option.bind_eq_some_iff.mp H
                obtain ⟨t124, A510, H⟩ := H
                replace H : ((scarfjointref11_place.f k3 t106 ((rd_T94 l0_1 ((rd_T79 t109 x11_3).f0)).f2) ((rd_T94 l0_3 ((rd_T79 t109 x11_3).f1)).f2)).bind fun t125 => (if x113001_3.length < 5864062014805 then (scarfjointref11_Of.l1 k3 t106 t109 (wrap64 (x11_3 + 1)) l0_0 l0_1 l0_2 l0_3 l0_4 l0_5 l0_6 l0_7 l0_8 l0_9 x113000_2 (x113001_3 ++ [(⟨(rd_T94 l0_1 ((rd_T79 t109 x11_3).f0)).f0, t124, t125⟩ : S94)])) else (none))) = some (r1, r2, r3, r4, r5, r6, r7) := H
                have A51 := Aside0.mk A510
                clear A510
                replace H := Option.bind_eq_some_iff.mp H
                obtain ⟨t125, A520, H⟩ := H
                replace H : (if x113001_3.length < 5864062014805 then (scarfjointref11_Of.l1 k3 t106 t109 (wrap64 (x11_3 + 1)) l0_0 l0_1 l0_2 l0_3 l0_4 l0_5 l0_6 l0_7 l0_8 l0_9 x113000_2 (x113001_3 ++ [(⟨(rd_T94 l0_1 ((rd_T79 t109 x11_3).f0)).f0, t124, t125⟩ : S94)])) else (none)) = some (r1, r2, r3, r4, r5, r6, r7) := H
                have A52 := Aside0.mk A520
                clear A520
                by_cases c53 : x113001_3.length < 5864062014805
                ·rw [if_pos c53] at H
                 have LMc53 := Aside0.mk c53
                 clear c53
                 obtain ⟨y126, hy126⟩ : ∃ y_ : List (S94), y_ = (x113001_3 ++ [(⟨(rd_T94 l0_1 ((rd_T79 t109 x11_3).f0)).f0, t124, t125⟩ : S94)]) := ⟨_, rfl⟩
                 replace H : (scarfjointref11_Of.l1 k3 t106 t109 (wrap64 (x11_3 + 1)) l0_0 l0_1 l0_2 l0_3 l0_4 l0_5 l0_6 l0_7 l0_8 l0_9 x113000_2 y126) = some (r1, r2, r3, r4, r5, r6, r7) := by first | (rw [hy126]; with_reducible exact H) | (have H2_ := (Option.bind_some _ _).symm.trans H; rw [hy126]; with_reducible exact H2_) | (have H2_ := (Option.bind_some _ _).symm.trans H; with_reducible exact H2_) | with_reducible exact H | (rw [hy126]; exact H) | exact H
                 have Ny126 := Aside0.mk hy126
                 clear hy126
                 have H' := Aside0.mk H
                 clear H
                 obtain ⟨Q5y, Q2h, Q4l⟩ := Kd.R_slice Q08.out
                 subst Q4l
                 try go_wp2
                 replace Q09 := Aside0.mk (rD Q09.out)
                 replace Q08 := Aside0.mk (rD Q08.out)
                 replace Q0a := Aside0.mk (rD Q0a.out)
                 replace Q0d := Aside0.mk (rD Q0d.out)
                 replace Q00 := Aside0.mk (bD Q00.out)
                 replace Q01 := Aside0.mk (bD Q01.out)
                 replace Q02 := Aside0.mk (bD Q02.out)
                 replace Q03 := Aside0.mk (bD Q03.out)
                 replace Q05 := Aside0.mk (bD Q05.out)
                 replace HB := Aside0.mk (wD HB.out)
                 have p118 : 0 ≤ (x11_3 : Int) := oT
                 have q118 : x11_3 < (t109.length : Int) := oT
                 obtain ⟨ad118, e118, hx118_0, hx118_1⟩ := at_T79 (Kd.R_reads' Q08.out).2.2 x11_3 p118 q118
                 cases e118
                 replace p118 := eq_true p118
                 replace q118 := eq_true q118
                 have p119 : 0 ≤ (((rd_T79 t109 x11_3).f0) : Int) := oT
                 have q119 : ((rd_T79 t109 x11_3).f0) < (l0_1.length : Int) := oT
                 obtain ⟨ad119, e119, hx119_0, hx119_1, hx119_2⟩ := at_T94 HR0_1.out ((rd_T79 t109 x11_3).f0) p119 q119
                 have hw119_2 := hx119_2
                 have hw119_1 := hx119_1
                 have hw119_0 := hx119_0
                 cases e119
                 replace hx119_0 := (HB.out.cell (World.block_lt_of_cell? w _ hx119_0)).trans hx119_0
                 replace hx119_1 := (HB.out.cell (World.block_lt_of_cell? w _ hx119_1)).trans hx119_1
                 replace hx119_2 := (HB.out.cell (World.block_lt_of_cell? w _ hx119_2)).trans hx119_2
                 replace p119 := eq_true p119
                 replace q119 := eq_true q119
                 have p120 : 0 ≤ (x11_3 : Int) := oT
                 have q120 : x11_3 < (t109.length : Int) := oT
                 obtain ⟨ad120, e120, hx120_0, hx120_1⟩ := at_T79 (Kd.R_reads' Q08.out).2.2 x11_3 p120 q120
                 obtain rfl : ad118 = ad120 := (by injection e120)
                 replace p120 := eq_true p120
                 replace q120 := eq_true q120
                 have p121 : 0 ≤ (((rd_T79 t109 x11_3).f1) : Int) := oT
                 have q121 : ((rd_T79 t109 x11_3).f1) < (l0_3.length : Int) := oT
                 obtain ⟨ad121, e121, hx121_0, hx121_1, hx121_2⟩ := at_T94 HR0_3.out ((rd_T79 t109 x11_3).f1) p121 q121
                 have hw121_2 := hx121_2
                 have hw121_1 := hx121_1
                 have hw121_0 := hx121_0
                 cases e121
                 replace hx121_0 := (HB.out.cell (World.block_lt_of_cell? w _ hx121_0)).trans hx121_0
                 replace hx121_1 := (HB.out.cell (World.block_lt_of_cell? w _ hx121_1)).trans hx121_1
                 replace hx121_2 := (HB.out.cell (World.block_lt_of_cell? w _ hx121_2)).trans hx121_2
                 replace p121 := eq_true p121
                 replace q121 := eq_true q121
                 refine start_ (n := 24) (S := fun w' => w'.cell? ⟨Q04, 0, none⟩ = some (.slice A0_0 l0_0.length c0_0) ∧ w'.cell? ⟨Q04, 1, none⟩ = some (.slice (some ad119) l0_1.length c0_1) ∧ w'.cell? ⟨Q04, 2, none⟩ = some (.slice A0_2 l0_2.length c0_2) ∧ w'.cell? ⟨Q04, 3, none⟩ = some (.slice (some ad121) l0_3.length c0_3) ∧ w'.cell? ⟨Q04, 4, none⟩ = some (.slice A0_4 l0_4.length c0_4) ∧ w'.cell? ⟨Q04, 5, none⟩ = some (.slice A0_5 l0_5.length c0_5) ∧ w'.cell? ⟨Q04, 6, none⟩ = some (.slice A0_6 l0_6.length c0_6) ∧ w'.cell? ⟨Q04, 7, none⟩ = some (.slice A0_7 l0_7.length c0_7) ∧ w'.cell? ⟨Q04, 8, none⟩ = some (.slice A0_8 l0_8.length c0_8) ∧ w'.cell? ⟨Q04, 9, none⟩ = some (.slice A0_9 l0_9.length c0_9) ∧ w'.cell? (ad118.add ((x11_3).toNat * 2)) = some (.int .i64 ((rd_T79 t109 x11_3).f0)) ∧ w'.cell? ⟨(ad118.add ((x11_3).toNat * 2)).block, (ad118.add ((x11_3).toNat * 2)).off + 1, none⟩ = some (.int .i64 ((rd_T79 t109 x11_3).f1)) ∧ w'.cell? (ad119.add ((((rd_T79 t109 x11_3).f0)).toNat * 3)) = some (.int .i64 ((rd_T94 l0_1 ((rd_T79 t109 x11_3).f0)).f0)) ∧ w'.cell? ⟨(ad119.add ((((rd_T79 t109 x11_3).f0)).toNat * 3)).block, (ad119.add ((((rd_T79 t109 x11_3).f0)).toNat * 3)).off + 1, none⟩ = some (.int .i64 ((rd_T94 l0_1 ((rd_T79 t109 x11_3).f0)).f1)) ∧ w'.cell? ⟨(ad119.add ((((rd_T79 t109 x11_3).f0)).toNat * 3)).block, (ad119.add ((((rd_T79 t109 x11_3).f0)).toNat * 3)).off + 2, none⟩ = some (.int .i64 ((rd_T94 l0_1 ((rd_T79 t109 x11_3).f0)).f2)) ∧ w'.cell? (ad118.add ((x11_3).toNat * 2)) = some (.int .i64 ((rd_T79 t109 x11_3).f0)) ∧ w'.cell? ⟨(ad118.add ((x11_3).toNat * 2)).block, (ad118.add ((x11_3).toNat * 2)).off + 1, none⟩ = some (.int .i64 ((rd_T79 t109 x11_3).f1)) ∧ w'.cell? (ad121.add ((((rd_T79 t109 x11_3).f1)).toNat * 3)) = some (.int .i64 ((rd_T94 l0_3 ((rd_T79 t109 x11_3).f1)).f0)) ∧ w'.cell? ⟨(ad121.add ((((rd_T79 t109 x11_3).f1)).toNat * 3)).block, (ad121.add ((((rd_T79 t109 x11_3).f1)).toNat * 3)).off + 1, none⟩ = some (.int .i64 ((rd_T94 l0_3 ((rd_T79 t109 x11_3).f1)).f1)) ∧ w'.cell? ⟨(ad121.add ((((rd_T79 t109 x11_3).f1)).toNat * 3)).block, (ad121.add ((((rd_T79 t109 x11_3).f1)).toNat * 3)).off + 2, none⟩ = some (.int .i64 ((rd_T94 l0_3 ((rd_T79 t109 x11_3).f1)).f2))) (ds := []) #[false, false, false, false, false, false, false, false, false, false, false, false, false, false, false, false, false, false, false, false, false, false, false, false] (by kernel_rfl) rfl rfl ⟨bC Q00 0, bC Q00 1, bC Q00 2, bC Q00 3, bC Q00 4, bC Q00 5, bC Q00 6, bC Q00 7, bC Q00 8, bC Q00 9, hx118_0, hx118_1, ((HB.out.cell (World.block_lt_of_cell? w _ hw119_0)).trans hw119_0), ((HB.out.cell (World.block_lt_of_cell? w _ hw119_1)).trans hw119_1), ((HB.out.cell (World.block_lt_of_cell? w _ hw119_2)).trans hw119_2), hx120_0, hx120_1, ((HB.out.cell (World.block_lt_of_cell? w _ hw121_0)).trans hw121_0), ((HB.out.cell (World.block_lt_of_cell? w _ hw121_1)).trans hw121_1), ((HB.out.cell (World.block_lt_of_cell? w _ hw121_2)).trans hw121_2)⟩ (fun hHeld => ?_); refine with_tabW scarfjointref11_Of.tab15 scarfjointref11_Of.bits15 (fun HT_ HW_ => ?_)
                 generalize wr.drew = w55 at Q09 Q08 Q0a Q0d Q00 Q01 Q02 Q03 Q05 HB hx118_0 hx118_1 hx119_0 hx119_1 hx119_2 hx120_0 hx120_1 hx121_0 hx121_1 hx121_2 hHeld ⊢
                 refine pure_ (i := 0) (N := some 76) (v := ?_) (a' := ?_) #[true, false, false, false, false, false, false, false, false, false, false, false, false, false, false, false, false, false, false, false, false, false, false, false] rfl rfl (any_of HT_.out (by kernel_rfl)) (fun _ _ _ h => h) (Or.inl ⟨by rfl, ?_⟩) ?_ ?_
                 rotate_left
                 ·intro w'
                  go_simp
                  with_reducible rfl
                 rotate_left
                 ·simp only [Act.put, List.setIfInBounds_toArray, List.set_cons_zero, List.set_cons_succ, i64_w, i32_w]
                  rfl
                 refine pure_ (i := 1) (N := some 77) (v := ?_) (a' := ?_) #[true, true, false, false, false, false, false, false, false, false, false, false, false, false, false, false, false, false, false, false, false, false, false, false] rfl rfl (any_of HT_.out (by kernel_rfl)) (fun _ _ _ h => h) (Or.inl ⟨by rfl, ?_⟩) ?_ ?_
                 rotate_left
                 ·intro w'
                  go_simp
                  with_reducible rfl
                 rotate_left
                 ·simp only [Act.put, List.setIfInBounds_toArray, List.set_cons_zero, List.set_cons_succ, i64_w, i32_w]
                  rfl
                 refine pure_ (i := 3) (N := some 79) (v := ?_) (a' := ?_) #[true, true, false, true, false, false, false, false, false, false, false, false, false, false, false, false, false, false, false, false, false, false, false, false] rfl rfl (any_of HT_.out (by kernel_rfl)) (fun _ _ _ h => h) (Or.inl ⟨by rfl, ?_⟩) ?_ ?_
                 rotate_left
                 ·intro w'
                  go_simp
                  with_reducible rfl
                 rotate_left
                 ·simp only [Act.put, List.setIfInBounds_toArray, List.set_cons_zero, List.set_cons_succ, i64_w, i32_w]
                  rfl
                 refine pure_ (i := 4) (N := some 80) (v := ?_) (a' := ?_) #[true, true, false, true, true, false, false, false, false, false, false, false, false, false, false, false, false, false, false, false, false, false, false, false] rfl rfl (any_of HT_.out (by kernel_rfl)) (fun _ _ _ h => h) (Or.inl ⟨by rfl, ?_⟩) ?_ ?_
                 rotate_left
                 ·intro w'
                  go_simp
                  with_reducible rfl
                 rotate_left
                 ·simp only [Act.put, List.setIfInBounds_toArray, List.set_cons_zero, List.set_cons_succ, i64_w, i32_w]
                  rfl
                 refine pure_ (i := 5) (N := some 81) (v := ?_) (a' := ?_) #[true, true, false, true, true, true, false, false, false, false, false, false, false, false, false, false, false, false, false, false, false, false, false, false] rfl rfl (any_of HT_.out (by kernel_rfl)) (fun _ _ _ h => h) (Or.inl ⟨by rfl, ?_⟩) ?_ ?_
                 rotate_left
                 ·intro w'
                  go_simp
                  with_reducible rfl
                 rotate_left
                 ·simp only [Act.put, List.setIfInBounds_toArray, List.set_cons_zero, List.set_cons_succ, i64_w, i32_w]
                  rfl
                 refine pure_ (i := 6) (N := some 82) (v := ?_) (a' := ?_) #[true, true, false, true, true, true, true, false, false, false, false, false, false, false, false, false, false, false, false, false, false, false, false, false] rfl rfl (any_of HT_.out (by kernel_rfl)) (fun _ _ _ h => h) (Or.inl ⟨by rfl, ?_⟩) ?_ ?_
                 rotate_left
                 ·intro w'
                  go_simp
                  with_reducible rfl
                 rotate_left
                 ·simp only [Act.put, List.setIfInBounds_toArray, List.set_cons_zero, List.set_cons_succ, i64_w, i32_w]
                  rfl
                 refine pure_ (i := 10) (N := some 86) (v := ?_) (a' := ?_) #[true, true, false, true, true, true, true, false, false, false, true, false, false, false, false, false, false, false, false, false, false, false, false, false] rfl rfl (any_of HT_.out (by kernel_rfl)) (fun _ _ _ h => h) (Or.inl ⟨by rfl, ?_⟩) ?_ ?_
                 rotate_left
                 ·intro w'
                  go_simp
                  with_reducible rfl
                 rotate_left
                 ·simp only [Act.put, List.setIfInBounds_toArray, List.set_cons_zero, List.set_cons_succ, i64_w, i32_w]
                  rfl
                 refine pure_ (i := 11) (N := some 87) (v := ?_) (a' := ?_) #[true, true, false, true, true, true, true, false, false, false, true, true, false, false, false, false, false, false, false, false, false, false, false, false] rfl rfl (any_of HT_.out (by kernel_rfl)) (fun _ _ _ h => h) (Or.inl ⟨by rfl, ?_⟩) ?_ ?_
                 rotate_left
                 ·intro w'
                  go_simp
                  with_reducible rfl
                 rotate_left
                 ·simp only [Act.put, List.setIfInBounds_toArray, List.set_cons_zero, List.set_cons_succ, i64_w, i32_w]
                  rfl
                 refine pure_ (i := 13) (N := some 89) (v := ?_) (a' := ?_) #[true, true, false, true, true, true, true, false, false, false, true, true, false, true, false, false, false, false, false, false, false, false, false, false] rfl rfl (any_of HT_.out (by kernel_rfl)) (fun _ _ _ h => h) (Or.inl ⟨by rfl, ?_⟩) ?_ ?_
                 rotate_left
                 ·intro w'
                  go_simp
                  with_reducible rfl
                 rotate_left
                 ·simp only [Act.put, List.setIfInBounds_toArray, List.set_cons_zero, List.set_cons_succ, i64_w, i32_w]
                  rfl
                 refine pure_ (i := 14) (N := some 90) (v := ?_) (a' := ?_) #[true, true, false, true, true, true, true, false, false, false, true, true, false, true, true, false, false, false, false, false, false, false, false, false] rfl rfl (any_of HT_.out (by kernel_rfl)) (fun _ _ _ h => h) (Or.inl ⟨by rfl, ?_⟩) ?_ ?_
                 rotate_left
                 ·intro w'
                  go_simp
                  with_reducible rfl
                 rotate_left
                 ·simp only [Act.put, List.setIfInBounds_toArray, List.set_cons_zero, List.set_cons_succ, i64_w, i32_w]
                  rfl
                 refine pure_ (i := 15) (N := some 91) (v := ?_) (a' := ?_) #[true, true, false, true, true, true, true, false, false, false, true, true, false, true, true, true, false, false, false, false, false, false, false, false] rfl rfl (any_of HT_.out (by kernel_rfl)) (fun _ _ _ h => h) (Or.inl ⟨by rfl, ?_⟩) ?_ ?_
                 rotate_left
                 ·intro w'
                  go_simp
                  with_reducible rfl
                 rotate_left
                 ·simp only [Act.put, List.setIfInBounds_toArray, List.set_cons_zero, List.set_cons_succ, i64_w, i32_w]
                  rfl
                 refine pure_ (i := 16) (N := some 92) (v := ?_) (a' := ?_) #[true, true, false, true, true, true, true, false, false, false, true, true, false, true, true, true, true, false, false, false, false, false, false, false] rfl rfl (any_of HT_.out (by kernel_rfl)) (fun _ _ _ h => h) (Or.inl ⟨by rfl, ?_⟩) ?_ ?_
                 rotate_left
                 ·intro w'
                  go_simp
                  with_reducible rfl
                 rotate_left
                 ·simp only [Act.put, List.setIfInBounds_toArray, List.set_cons_zero, List.set_cons_succ, i64_w, i32_w]
                  rfl
                 refine take_ (i := 2) (N := some 78) (v := ?_) (a' := ?_) #[true, true, true, true, true, true, true, false, false, false, true, true, false, true, true, true, true, false, false, false, false, false, false, false] rfl rfl (take_ofW HT_.out HW_.out (by kernel_rfl)) (fun _ _ _ h => h) (Or.inl ⟨by rfl, ?_⟩) hHeld ?_ ?_
                 rotate_left
                 ·rintro w' ⟨s0, s1, s2, s3, s4, s5, s6, s7, s8, s9, s10, s11, s12, s13, s14, s15, s16, s17, s18, s19⟩
                  go_simp
                  with_reducible rfl
                 rotate_left
                 ·simp only [Act.put, List.setIfInBounds_toArray, List.set_cons_zero, List.set_cons_succ, i64_w, i32_w]
                  rfl
                 refine take_ (i := 7) (N := some 83) (v := ?_) (a' := ?_) #[true, true, true, true, true, true, true, true, false, false, true, true, false, true, true, true, true, false, false, false, false, false, false, false] rfl rfl (take_ofW HT_.out HW_.out (by kernel_rfl)) (fun _ _ _ h => h) (Or.inl ⟨by rfl, ?_⟩) hHeld ?_ ?_
                 rotate_left
                 ·rintro w' ⟨s0, s1, s2, s3, s4, s5, s6, s7, s8, s9, s10, s11, s12, s13, s14, s15, s16, s17, s18, s19⟩
                  go_simp
                  with_reducible rfl
                 rotate_left
                 ·simp only [Act.put, List.setIfInBounds_toArray, List.set_cons_zero, List.set_cons_succ, i64_w, i32_w]
                  rfl
                 refine pure_ (i := 8) (N := some 84) (v := ?_) (a' := ?_) #[true, true, true, true, true, true, true, true, true, false, true, true, false, true, true, true, true, false, false, false, false, false, false, false] rfl rfl (any_of HT_.out (by kernel_rfl)) (fun _ _ _ h => h) (Or.inl ⟨by rfl, ?_⟩) ?_ ?_
                 rotate_left
                 ·intro w'
                  go_simp
                  with_reducible rfl
                 rotate_left
                 ·simp only [Act.put, List.setIfInBounds_toArray, List.set_cons_zero, List.set_cons_succ, i64_w, i32_w]
                  rfl
                 refine take_ (i := 9) (N := some 85) (v := ?_) (a' := ?_) #[true, true, true, true, true, true, true, true, true, true, true, true, false, true, true, true, true, false, false, false, false, false, false, false] rfl rfl (take_ofW HT_.out HW_.out (by kernel_rfl)) (fun _ _ _ h => h) (Or.inl ⟨by rfl, ?_⟩) hHeld ?_ ?_
                 rotate_left
                 ·rintro w' ⟨s0, s1, s2, s3, s4, s5, s6, s7, s8, s9, s10, s11, s12, s13, s14, s15, s16, s17, s18, s19⟩
                  go_simp
                  with_reducible rfl
                 rotate_left
                 ·simp only [Act.put, List.setIfInBounds_toArray, List.set_cons_zero, List.set_cons_succ, i64_w, i32_w]
                  rfl
                 refine take_ (i := 12) (N := some 88) (v := ?_) (a' := ?_) #[true, true, true, true, true, true, true, true, true, true, true, true, true, true, true, true, true, false, false, false, false, false, false, false] rfl rfl (take_ofW HT_.out HW_.out (by kernel_rfl)) (fun _ _ _ h => h) (Or.inl ⟨by rfl, ?_⟩) hHeld ?_ ?_
                 rotate_left
                 ·rintro w' ⟨s0, s1, s2, s3, s4, s5, s6, s7, s8, s9, s10, s11, s12, s13, s14, s15, s16, s17, s18, s19⟩
                  go_simp
                  with_reducible rfl
                 rotate_left
                 ·simp only [Act.put, List.setIfInBounds_toArray, List.set_cons_zero, List.set_cons_succ, i64_w, i32_w]
                  rfl
                 refine take_ (i := 17) (N := some 93) (v := ?_) (a' := ?_) #[true, true, true, true, true, true, true, true, true, true, true, true, true, true, true, true, true, true, false, false, false, false, false, false] rfl rfl (take_ofW HT_.out HW_.out (by kernel_rfl)) (fun _ _ _ h => h) (Or.inl ⟨by rfl, ?_⟩) hHeld ?_ ?_
                 rotate_left
                 ·rintro w' ⟨s0, s1, s2, s3, s4, s5, s6, s7, s8, s9, s10, s11, s12, s13, s14, s15, s16, s17, s18, s19⟩
                  go_simp
                  with_reducible rfl
                 rotate_left
                 ·simp only [Act.put, List.setIfInBounds_toArray, List.set_cons_zero, List.set_cons_succ, i64_w, i32_w]
                  rfl
                 refine pure_ (i := 18) (N := some 94) (v := ?_) (a' := ?_) #[true, true, true, true, true, true, true, true, true, true, true, true, true, true, true, true, true, true, true, false, false, false, false, false] rfl rfl (any_of HT_.out (by kernel_rfl)) (fun _ _ _ h => h) (Or.inl ⟨by rfl, ?_⟩) ?_ ?_
                 rotate_left
                 ·intro w'
                  go_simp
                  with_reducible rfl
                 rotate_left
                 ·simp only [Act.put, List.setIfInBounds_toArray, List.set_cons_zero, List.set_cons_succ, i64_w, i32_w]
                  rfl
                 refine take_ (i := 19) (N := some 95) (v := ?_) (a' := ?_) #[true, true, true, true, true, true, true, true, true, true, true, true, true, true, true, true, true, true, true, true, false, false, false, false] rfl rfl (take_ofW HT_.out HW_.out (by kernel_rfl)) (fun _ _ _ h => h) (Or.inl ⟨by rfl, ?_⟩) hHeld ?_ ?_
                 rotate_left
                 ·rintro w' ⟨s0, s1, s2, s3, s4, s5, s6, s7, s8, s9, s10, s11, s12, s13, s14, s15, s16, s17, s18, s19⟩
                  go_simp
                  with_reducible rfl
                 rotate_left
                 ·simp only [Act.put, List.setIfInBounds_toArray, List.set_cons_zero, List.set_cons_succ, i64_w, i32_w]
                  rfl
                 refine join_ (σ := Nat × Nat) 2 #[true, true, true, true, true, true, true, true, true, true, true, true, true, true, true, true, true, true, true, true, true, true, false, false] (fun s_ => [(12, .pointer (some ⟨s_.1, 0, none⟩)), (13, .pointer (some ⟨s_.2, 0, none⟩))]) (fun s_ w' => (w'.cell? ⟨Q04, 0, none⟩ = some (.slice A0_0 l0_0.length c0_0) ∧ w'.cell? ⟨Q04, 1, none⟩ = some (.slice (some ad119) l0_1.length c0_1) ∧ w'.cell? ⟨Q04, 2, none⟩ = some (.slice A0_2 l0_2.length c0_2) ∧ w'.cell? ⟨Q04, 3, none⟩ = some (.slice (some ad121) l0_3.length c0_3) ∧ w'.cell? ⟨Q04, 4, none⟩ = some (.slice A0_4 l0_4.length c0_4) ∧ w'.cell? ⟨Q04, 5, none⟩ = some (.slice A0_5 l0_5.length c0_5) ∧ w'.cell? ⟨Q04, 6, none⟩ = some (.slice A0_6 l0_6.length c0_6) ∧ w'.cell? ⟨Q04, 7, none⟩ = some (.slice A0_7 l0_7.length c0_7) ∧ w'.cell? ⟨Q04, 8, none⟩ = some (.slice A0_8 l0_8.length c0_8) ∧ w'.cell? ⟨Q04, 9, none⟩ = some (.slice A0_9 l0_9.length c0_9) ∧ w'.cell? (ad118.add ((x11_3).toNat * 2)) = some (.int .i64 ((rd_T79 t109 x11_3).f0)) ∧ w'.cell? ⟨(ad118.add ((x11_3).toNat * 2)).block, (ad118.add ((x11_3).toNat * 2)).off + 1, none⟩ = some (.int .i64 ((rd_T79 t109 x11_3).f1)) ∧ w'.cell? (ad119.add ((((rd_T79 t109 x11_3).f0)).toNat * 3)) = some (.int .i64 ((rd_T94 l0_1 ((rd_T79 t109 x11_3).f0)).f0)) ∧ w'.cell? ⟨(ad119.add ((((rd_T79 t109 x11_3).f0)).toNat * 3)).block, (ad119.add ((((rd_T79 t109 x11_3).f0)).toNat * 3)).off + 1, none⟩ = some (.int .i64 ((rd_T94 l0_1 ((rd_T79 t109 x11_3).f0)).f1)) ∧ w'.cell? ⟨(ad119.add ((((rd_T79 t109 x11_3).f0)).toNat * 3)).block, (ad119.add ((((rd_T79 t109 x11_3).f0)).toNat * 3)).off + 2, none⟩ = some (.int .i64 ((rd_T94 l0_1 ((rd_T79 t109 x11_3).f0)).f2)) ∧ w'.cell? (ad118.add ((x11_3).toNat * 2)) = some (.int .i64 ((rd_T79 t109 x11_3).f0)) ∧ w'.cell? ⟨(ad118.add ((x11_3).toNat * 2)).block, (ad118.add ((x11_3).toNat * 2)).off + 1, none⟩ = some (.int .i64 ((rd_T79 t109 x11_3).f1)) ∧ w'.cell? (ad121.add ((((rd_T79 t109 x11_3).f1)).toNat * 3)) = some (.int .i64 ((rd_T94 l0_3 ((rd_T79 t109 x11_3).f1)).f0)) ∧ w'.cell? ⟨(ad121.add ((((rd_T79 t109 x11_3).f1)).toNat * 3)).block, (ad121.add ((((rd_T79 t109 x11_3).f1)).toNat * 3)).off + 1, none⟩ = some (.int .i64 ((rd_T94 l0_3 ((rd_T79 t109 x11_3).f1)).f1)) ∧ w'.cell? ⟨(ad121.add ((((rd_T79 t109 x11_3).f1)).toNat * 3)).block, (ad121.add ((((rd_T79 t109 x11_3).f1)).toNat * 3)).off + 2, none⟩ = some (.int .i64 ((rd_T94 l0_3 ((rd_T79 t109 x11_3).f1)).f2))) ∧ (Kd.R (Kd.int .i64) 3 w' w.heap.size (fun _ => True) u113000 x113000_2) ∧ (Kd.R k94 94 w' w.heap.size (fun k_ => k_ ≠ s_.1 ∧ k_ ≠ s_.2) u113001 x113001_3) ∧ (Kd.R k79 79 w' w.heap.size (fun k_ => some k_ ≠ (.slice (some ad118) t109.length Q2h : Value).ownBlock) (.slice Q0y t106.length Q0z) t106) ∧ (Kd.R k79 79 w' w.heap.size (fun k_ => some k_ ≠ (.slice Q0y t106.length Q0z : Value).ownBlock) (.slice (some ad118) t109.length Q2h) t109) ∧ (w'.heap[Q04]? = some (.cells #[.slice A0_0 l0_0.length c0_0, .slice (some ad119) l0_1.length c0_1, .slice A0_2 l0_2.length c0_2, .slice (some ad121) l0_3.length c0_3, .slice A0_4 l0_4.length c0_4, .slice A0_5 l0_5.length c0_5, .slice A0_6 l0_6.length c0_6, .slice A0_7 l0_7.length c0_7, .slice A0_8 l0_8.length c0_8, .slice A0_9 l0_9.length c0_9] 29 (0, 0))) ∧ (w'.heap[Q0i]? = some (.cells #[.slice none 0 0, .slice none 0 0] 25 (0, 0))) ∧ (w'.heap[Q0j]? = some (.cells #[.slice none 0 0, .slice none 0 0] 27 (0, 0))) ∧ (w'.heap[Q0k]? = some (.cells #[.slice none 0 0, .slice none 0 0] 27 (0, 0))) ∧ (w'.heap[Q0r]? = some (.cells #[u113000, u113001] 25 (0, 0))) ∧ (w'.heap[s_.1]? = some (.cells #[.int .i64 0, .int .i64 0, .int .i64 0] 94 (0, 0))) ∧ (w'.heap[s_.2]? = some (.cells #[.int .i64 0, .int .i64 0, .int .i64 0] 94 (0, 0))) ∧ (w.heap.size ≤ s_.1) ∧ (w.heap.size ≤ s_.1) ∧ (Q04 ≠ s_.1) ∧ (s_.1 ≠ Q04) ∧ (Q0i ≠ s_.1) ∧ (s_.1 ≠ Q0i) ∧ (Q0j ≠ s_.1) ∧ (s_.1 ≠ Q0j) ∧ (Q0k ≠ s_.1) ∧ (s_.1 ≠ Q0k) ∧ (Q0r ≠ s_.1) ∧ (s_.1 ≠ Q0r) ∧ (s_.2 ≠ s_.1) ∧ (s_.1 ≠ s_.2) ∧ (w.heap.size ≤ s_.2) ∧ (w.heap.size ≤ s_.2) ∧ (Q04 ≠ s_.2) ∧ (s_.2 ≠ Q04) ∧ (Q0i ≠ s_.2) ∧ (s_.2 ≠ Q0i) ∧ (Q0j ≠ s_.2) ∧ (s_.2 ≠ Q0j) ∧ (Q0k ≠ s_.2) ∧ (s_.2 ≠ Q0k) ∧ (Q0r ≠ s_.2) ∧ (s_.2 ≠ Q0r) ∧ (Below w.heap.size w w')) ?_ ?_
                 rotate_left
                 ·intro hCont
                  refine two_ (i := 20) (j := 21) (Ni := some 12) (Nj := some 13) #[true, true, true, true, true, true, true, true, true, true, true, true, true, true, true, true, true, true, true, true, true, false, false, false] #[true, true, true, true, true, true, true, true, true, true, true, true, true, true, true, true, true, true, true, true, false, true, false, false] rfl rfl rfl rfl (two_of HT_.out (by kernel_rfl)) (by decide) (by decide) (fun K hK => ?_) (fun K hK => ?_)
                  ·skip
                   refine box_step ?hg (N := 12) ?hd (cs := #[.int .i64 0, .int .i64 0, .int .i64 0]) (t := 94) ?hr ?_; (case hd => rfl); (case hg => rfl); (case hr => first | (go_simp; done) | (go_simp; rfl))
                   intro Q06 hg w56 hbox hb
                   have HS10_ := (hb.cell (World.block_lt_of_cell? _ _ (hHeld.2.2.2.2.2.2.2.2.2.2.1))).trans (hHeld.2.2.2.2.2.2.2.2.2.2.1)
                   have HS11_ := (hb.cell (World.block_lt_of_cell? _ _ (hHeld.2.2.2.2.2.2.2.2.2.2.2.1))).trans (hHeld.2.2.2.2.2.2.2.2.2.2.2.1)
                   have HS15_ := (hb.cell (World.block_lt_of_cell? _ _ (hHeld.2.2.2.2.2.2.2.2.2.2.2.2.2.2.2.1))).trans (hHeld.2.2.2.2.2.2.2.2.2.2.2.2.2.2.2.1)
                   have HS16_ := (hb.cell (World.block_lt_of_cell? _ _ (hHeld.2.2.2.2.2.2.2.2.2.2.2.2.2.2.2.2.1))).trans (hHeld.2.2.2.2.2.2.2.2.2.2.2.2.2.2.2.2.1)
                   replace Q09 := uR Q09 hb
                   replace Q08 := uR Q08 hb
                   replace Q0a := uR Q0a hb
                   replace Q0d := gR Q0d Q06 hg hb
                   have Q0b := Aside0.mk (hbox)
                   have Q0w := uS HB hg
                   have Q2x := uS HB hg
                   replace HB := uH HB hb
                   have Q0l := uL Q00 hg
                   have Q1u := uG Q00 hg
                   replace Q00 := uB Q00 hb
                   have Q1c := uL Q01 hg
                   have Q1v := uG Q01 hg
                   replace Q01 := uB Q01 hb
                   have Q1d := uL Q02 hg
                   have Q1w := uG Q02 hg
                   replace Q02 := uB Q02 hb
                   have Q1e := uL Q03 hg
                   have Q1x := uG Q03 hg
                   replace Q03 := uB Q03 hb
                   have Q1a := uL Q05 hg
                   have Q1n := uG Q05 hg
                   replace Q05 := uB Q05 hb
                   clear hb hbox hg
                   refine hK.out _ _ ⟨bC Q00 0, bC Q00 1, bC Q00 2, bC Q00 3, bC Q00 4, bC Q00 5, bC Q00 6, bC Q00 7, bC Q00 8, bC Q00 9, HS10_, HS11_, ((HB.out.cell (World.block_lt_of_cell? w _ hw119_0)).trans hw119_0), ((HB.out.cell (World.block_lt_of_cell? w _ hw119_1)).trans hw119_1), ((HB.out.cell (World.block_lt_of_cell? w _ hw119_2)).trans hw119_2), HS15_, HS16_, ((HB.out.cell (World.block_lt_of_cell? w _ hw121_0)).trans hw121_0), ((HB.out.cell (World.block_lt_of_cell? w _ hw121_1)).trans hw121_1), ((HB.out.cell (World.block_lt_of_cell? w _ hw121_2)).trans hw121_2)⟩ (fun hHeld => ?_)
                   clear hK K
                   refine norm_ (a' := ?_) ?_ ?_
                   rotate_left
                   ·show Act.put _ (some 12) _ = _
                    simp only [Act.put, List.setIfInBounds_toArray, List.set_cons_zero, List.set_cons_succ, i64_w, i32_w]
                    rfl
                   refine one_ (i := 21) (N := some 13) #[true, true, true, true, true, true, true, true, true, true, true, true, true, true, true, true, true, true, true, true, true, true, false, false] rfl rfl (one_of HT_.out (by kernel_rfl)) (by decide) (fun K hK => ?_)
                   refine box_step ?hg (N := 13) ?hd (cs := #[.int .i64 0, .int .i64 0, .int .i64 0]) (t := 94) ?hr ?_; (case hd => rfl); (case hg => rfl); (case hr => first | (go_simp; done) | (go_simp; rfl))
                   intro Q07 hg w57 hbox hb
                   have HS10_ := (hb.cell (World.block_lt_of_cell? _ _ (hHeld.2.2.2.2.2.2.2.2.2.2.1))).trans (hHeld.2.2.2.2.2.2.2.2.2.2.1)
                   have HS11_ := (hb.cell (World.block_lt_of_cell? _ _ (hHeld.2.2.2.2.2.2.2.2.2.2.2.1))).trans (hHeld.2.2.2.2.2.2.2.2.2.2.2.1)
                   have HS15_ := (hb.cell (World.block_lt_of_cell? _ _ (hHeld.2.2.2.2.2.2.2.2.2.2.2.2.2.2.2.1))).trans (hHeld.2.2.2.2.2.2.2.2.2.2.2.2.2.2.2.1)
                   have HS16_ := (hb.cell (World.block_lt_of_cell? _ _ (hHeld.2.2.2.2.2.2.2.2.2.2.2.2.2.2.2.2.1))).trans (hHeld.2.2.2.2.2.2.2.2.2.2.2.2.2.2.2.2.1)
                   replace Q09 := uR Q09 hb
                   replace Q08 := uR Q08 hb
                   replace Q0a := uR Q0a hb
                   replace Q0d := gR Q0d Q07 hg hb
                   have Q0c := Aside0.mk (hbox)
                   have Q0x := uS HB hg
                   have Q2y := uS HB hg
                   replace HB := uH HB hb
                   have Q0m := uL Q00 hg
                   have Q1y := uG Q00 hg
                   replace Q00 := uB Q00 hb
                   have Q1f := uL Q01 hg
                   have Q1z := uG Q01 hg
                   replace Q01 := uB Q01 hb
                   have Q1g := uL Q02 hg
                   have Q20 := uG Q02 hg
                   replace Q02 := uB Q02 hb
                   have Q1h := uL Q03 hg
                   have Q21 := uG Q03 hg
                   replace Q03 := uB Q03 hb
                   have Q1b := uL Q05 hg
                   have Q1o := uG Q05 hg
                   replace Q05 := uB Q05 hb
                   have Q16 := uL Q0b hg
                   have Q17 := uG Q0b hg
                   replace Q0b := uB Q0b hb
                   clear hb hbox hg
                   refine hK.out _ _ ⟨bC Q00 0, bC Q00 1, bC Q00 2, bC Q00 3, bC Q00 4, bC Q00 5, bC Q00 6, bC Q00 7, bC Q00 8, bC Q00 9, HS10_, HS11_, ((HB.out.cell (World.block_lt_of_cell? w _ hw119_0)).trans hw119_0), ((HB.out.cell (World.block_lt_of_cell? w _ hw119_1)).trans hw119_1), ((HB.out.cell (World.block_lt_of_cell? w _ hw119_2)).trans hw119_2), HS15_, HS16_, ((HB.out.cell (World.block_lt_of_cell? w _ hw121_0)).trans hw121_0), ((HB.out.cell (World.block_lt_of_cell? w _ hw121_1)).trans hw121_1), ((HB.out.cell (World.block_lt_of_cell? w _ hw121_2)).trans hw121_2)⟩ (fun hHeld => ?_)
                   clear hK K
                   refine norm_ (a' := ?_) ?_ ?_
                   rotate_left
                   ·show Act.put _ (some 13) _ = _
                    simp only [Act.put, List.setIfInBounds_toArray, List.set_cons_zero, List.set_cons_succ, i64_w, i32_w]
                    rfl
                   exact norm_ (by simp only [putAll, Act.put, List.setIfInBounds_toArray, List.set_cons_zero, List.set_cons_succ]) (hCont (Q06, Q07) _ ⟨hHeld, (pR Q0a), (by (with_reducible repeat (first | apply rA | apply rN | apply rD)); exact Kd.R_mono Q0d.out (fun _ hk => ⟨hk.1.2, hk.2⟩)), (pR Q09), (pR Q08), (pB Q00), (pB Q01), (pB Q02), (pB Q03), (pB Q05), (pB Q0b), (pB Q0c), Q0w.out, Q2x.out, Q0l.out, Q1u.out, Q1c.out, Q1v.out, Q1d.out, Q1w.out, Q1e.out, Q1x.out, Q1a.out, Q1n.out, Q17.out, Q16.out, Q0x.out, Q2y.out, Q0m.out, Q1y.out, Q1f.out, Q1z.out, Q1g.out, Q20.out, Q1h.out, Q21.out, Q1b.out, Q1o.out, (pH HB)⟩)
                  ·skip
                   refine box_step ?hg (N := 13) ?hd (cs := #[.int .i64 0, .int .i64 0, .int .i64 0]) (t := 94) ?hr ?_; (case hd => rfl); (case hg => rfl); (case hr => first | (go_simp; done) | (go_simp; rfl))
                   intro Q07 hg w56 hbox hb
                   have HS10_ := (hb.cell (World.block_lt_of_cell? _ _ (hHeld.2.2.2.2.2.2.2.2.2.2.1))).trans (hHeld.2.2.2.2.2.2.2.2.2.2.1)
                   have HS11_ := (hb.cell (World.block_lt_of_cell? _ _ (hHeld.2.2.2.2.2.2.2.2.2.2.2.1))).trans (hHeld.2.2.2.2.2.2.2.2.2.2.2.1)
                   have HS15_ := (hb.cell (World.block_lt_of_cell? _ _ (hHeld.2.2.2.2.2.2.2.2.2.2.2.2.2.2.2.1))).trans (hHeld.2.2.2.2.2.2.2.2.2.2.2.2.2.2.2.1)
                   have HS16_ := (hb.cell (World.block_lt_of_cell? _ _ (hHeld.2.2.2.2.2.2.2.2.2.2.2.2.2.2.2.2.1))).trans (hHeld.2.2.2.2.2.2.2.2.2.2.2.2.2.2.2.2.1)
                   replace Q09 := uR Q09 hb
                   replace Q08 := uR Q08 hb
                   replace Q0a := uR Q0a hb
                   replace Q0d := gR Q0d Q07 hg hb
                   have Q0c := Aside0.mk (hbox)
                   have Q0x := uS HB hg
                   have Q2y := uS HB hg
                   replace HB := uH HB hb
                   have Q0m := uL Q00 hg
                   have Q1y := uG Q00 hg
                   replace Q00 := uB Q00 hb
                   have Q1f := uL Q01 hg
                   have Q1z := uG Q01 hg
                   replace Q01 := uB Q01 hb
                   have Q1g := uL Q02 hg
                   have Q20 := uG Q02 hg
                   replace Q02 := uB Q02 hb
                   have Q1h := uL Q03 hg
                   have Q21 := uG Q03 hg
                   replace Q03 := uB Q03 hb
                   have Q1b := uL Q05 hg
                   have Q1o := uG Q05 hg
                   replace Q05 := uB Q05 hb
                   clear hb hbox hg
                   refine hK.out _ _ ⟨bC Q00 0, bC Q00 1, bC Q00 2, bC Q00 3, bC Q00 4, bC Q00 5, bC Q00 6, bC Q00 7, bC Q00 8, bC Q00 9, HS10_, HS11_, ((HB.out.cell (World.block_lt_of_cell? w _ hw119_0)).trans hw119_0), ((HB.out.cell (World.block_lt_of_cell? w _ hw119_1)).trans hw119_1), ((HB.out.cell (World.block_lt_of_cell? w _ hw119_2)).trans hw119_2), HS15_, HS16_, ((HB.out.cell (World.block_lt_of_cell? w _ hw121_0)).trans hw121_0), ((HB.out.cell (World.block_lt_of_cell? w _ hw121_1)).trans hw121_1), ((HB.out.cell (World.block_lt_of_cell? w _ hw121_2)).trans hw121_2)⟩ (fun hHeld => ?_)
                   clear hK K
                   refine norm_ (a' := ?_) ?_ ?_
                   rotate_left
                   ·show Act.put _ (some 13) _ = _
                    simp only [Act.put, List.setIfInBounds_toArray, List.set_cons_zero, List.set_cons_succ, i64_w, i32_w]
                    rfl
                   refine one_ (i := 20) (N := some 12) #[true, true, true, true, true, true, true, true, true, true, true, true, true, true, true, true, true, true, true, true, true, true, false, false] rfl rfl (one_of HT_.out (by kernel_rfl)) (by decide) (fun K hK => ?_)
                   refine box_step ?hg (N := 12) ?hd (cs := #[.int .i64 0, .int .i64 0, .int .i64 0]) (t := 94) ?hr ?_; (case hd => rfl); (case hg => rfl); (case hr => first | (go_simp; done) | (go_simp; rfl))
                   intro Q06 hg w57 hbox hb
                   have HS10_ := (hb.cell (World.block_lt_of_cell? _ _ (hHeld.2.2.2.2.2.2.2.2.2.2.1))).trans (hHeld.2.2.2.2.2.2.2.2.2.2.1)
                   have HS11_ := (hb.cell (World.block_lt_of_cell? _ _ (hHeld.2.2.2.2.2.2.2.2.2.2.2.1))).trans (hHeld.2.2.2.2.2.2.2.2.2.2.2.1)
                   have HS15_ := (hb.cell (World.block_lt_of_cell? _ _ (hHeld.2.2.2.2.2.2.2.2.2.2.2.2.2.2.2.1))).trans (hHeld.2.2.2.2.2.2.2.2.2.2.2.2.2.2.2.1)
                   have HS16_ := (hb.cell (World.block_lt_of_cell? _ _ (hHeld.2.2.2.2.2.2.2.2.2.2.2.2.2.2.2.2.1))).trans (hHeld.2.2.2.2.2.2.2.2.2.2.2.2.2.2.2.2.1)
                   replace Q09 := uR Q09 hb
                   replace Q08 := uR Q08 hb
                   replace Q0a := uR Q0a hb
                   replace Q0d := gR Q0d Q06 hg hb
                   have Q0b := Aside0.mk (hbox)
                   have Q0w := uS HB hg
                   have Q2x := uS HB hg
                   replace HB := uH HB hb
                   have Q0l := uL Q00 hg
                   have Q1u := uG Q00 hg
                   replace Q00 := uB Q00 hb
                   have Q1c := uL Q01 hg
                   have Q1v := uG Q01 hg
                   replace Q01 := uB Q01 hb
                   have Q1d := uL Q02 hg
                   have Q1w := uG Q02 hg
                   replace Q02 := uB Q02 hb
                   have Q1e := uL Q03 hg
                   have Q1x := uG Q03 hg
                   replace Q03 := uB Q03 hb
                   have Q1a := uL Q05 hg
                   have Q1n := uG Q05 hg
                   replace Q05 := uB Q05 hb
                   have Q17 := uL Q0c hg
                   have Q16 := uG Q0c hg
                   replace Q0c := uB Q0c hb
                   clear hb hbox hg
                   refine hK.out _ _ ⟨bC Q00 0, bC Q00 1, bC Q00 2, bC Q00 3, bC Q00 4, bC Q00 5, bC Q00 6, bC Q00 7, bC Q00 8, bC Q00 9, HS10_, HS11_, ((HB.out.cell (World.block_lt_of_cell? w _ hw119_0)).trans hw119_0), ((HB.out.cell (World.block_lt_of_cell? w _ hw119_1)).trans hw119_1), ((HB.out.cell (World.block_lt_of_cell? w _ hw119_2)).trans hw119_2), HS15_, HS16_, ((HB.out.cell (World.block_lt_of_cell? w _ hw121_0)).trans hw121_0), ((HB.out.cell (World.block_lt_of_cell? w _ hw121_1)).trans hw121_1), ((HB.out.cell (World.block_lt_of_cell? w _ hw121_2)).trans hw121_2)⟩ (fun hHeld => ?_)
                   clear hK K
                   refine norm_ (a' := ?_) ?_ ?_
                   rotate_left
                   ·show Act.put _ (some 12) _ = _
                    simp only [Act.put, List.setIfInBounds_toArray, List.set_cons_zero, List.set_cons_succ, i64_w, i32_w]
                    rfl
                   exact norm_ (by simp only [putAll, Act.put, List.setIfInBounds_toArray, List.set_cons_zero, List.set_cons_succ]) (hCont (Q06, Q07) _ ⟨hHeld, (pR Q0a), (by (with_reducible repeat (first | apply rA | apply rN | apply rD)); exact Kd.R_mono Q0d.out (fun _ hk => ⟨hk.2, hk.1.2⟩)), (pR Q09), (pR Q08), (pB Q00), (pB Q01), (pB Q02), (pB Q03), (pB Q05), (pB Q0b), (pB Q0c), Q0w.out, Q2x.out, Q0l.out, Q1u.out, Q1c.out, Q1v.out, Q1d.out, Q1w.out, Q1e.out, Q1x.out, Q1a.out, Q1n.out, Q17.out, Q16.out, Q0x.out, Q2y.out, Q0m.out, Q1y.out, Q1f.out, Q1z.out, Q1g.out, Q20.out, Q1h.out, Q21.out, Q1b.out, Q1o.out, (pH HB)⟩)
                 rintro ⟨Q06, Q07⟩ w58 ⟨hS_, h0_, h1_, h2_, h3_, h4_, h5_, h6_, h7_, h8_, h9_, h10_, h11_, h12_, h13_, h14_, h15_, h16_, h17_, h18_, h19_, h20_, h21_, h22_, h23_, h24_, h25_, h26_, h27_, h28_, h29_, h30_, h31_, h32_, h33_, h34_, h35_, h36_, h37_⟩
                 have n0_ : Aside0 (Kd.R (Kd.int .i64) 3 w58 w.heap.size (fun _ => True) u113000 x113000_2) := ⟨h0_⟩
                 have n1_ : Aside0 (Kd.R k94 94 w58 w.heap.size (fun k_ => k_ ≠ Q06 ∧ k_ ≠ Q07) u113001 x113001_3) := ⟨h1_⟩
                 have n2_ : Aside0 (Kd.R k79 79 w58 w.heap.size (fun k_ => some k_ ≠ (.slice (some ad118) t109.length Q2h : Value).ownBlock) (.slice Q0y t106.length Q0z) t106) := ⟨h2_⟩
                 have n3_ : Aside0 (Kd.R k79 79 w58 w.heap.size (fun k_ => some k_ ≠ (.slice Q0y t106.length Q0z : Value).ownBlock) (.slice (some ad118) t109.length Q2h) t109) := ⟨h3_⟩
                 have n4_ : Aside0 (w58.heap[Q04]? = some (.cells #[.slice A0_0 l0_0.length c0_0, .slice (some ad119) l0_1.length c0_1, .slice A0_2 l0_2.length c0_2, .slice (some ad121) l0_3.length c0_3, .slice A0_4 l0_4.length c0_4, .slice A0_5 l0_5.length c0_5, .slice A0_6 l0_6.length c0_6, .slice A0_7 l0_7.length c0_7, .slice A0_8 l0_8.length c0_8, .slice A0_9 l0_9.length c0_9] 29 (0, 0))) := ⟨h4_⟩
                 have n5_ : Aside0 (w58.heap[Q0i]? = some (.cells #[.slice none 0 0, .slice none 0 0] 25 (0, 0))) := ⟨h5_⟩
                 have n6_ : Aside0 (w58.heap[Q0j]? = some (.cells #[.slice none 0 0, .slice none 0 0] 27 (0, 0))) := ⟨h6_⟩
                 have n7_ : Aside0 (w58.heap[Q0k]? = some (.cells #[.slice none 0 0, .slice none 0 0] 27 (0, 0))) := ⟨h7_⟩
                 have n8_ : Aside0 (w58.heap[Q0r]? = some (.cells #[u113000, u113001] 25 (0, 0))) := ⟨h8_⟩
                 have n9_ : Aside0 (w58.heap[Q06]? = some (.cells #[.int .i64 0, .int .i64 0, .int .i64 0] 94 (0, 0))) := ⟨h9_⟩
                 have n10_ : Aside0 (w58.heap[Q07]? = some (.cells #[.int .i64 0, .int .i64 0, .int .i64 0] 94 (0, 0))) := ⟨h10_⟩
                 have n11_ : Aside0 (w.heap.size ≤ Q06) := ⟨h11_⟩
                 have n12_ : Aside0 (w.heap.size ≤ Q06) := ⟨h12_⟩
                 have n13_ : Aside0 (Q04 ≠ Q06) := ⟨h13_⟩
                 have n14_ : Aside0 (Q06 ≠ Q04) := ⟨h14_⟩
                 have n15_ : Aside0 (Q0i ≠ Q06) := ⟨h15_⟩
                 have n16_ : Aside0 (Q06 ≠ Q0i) := ⟨h16_⟩
                 have n17_ : Aside0 (Q0j ≠ Q06) := ⟨h17_⟩
                 have n18_ : Aside0 (Q06 ≠ Q0j) := ⟨h18_⟩
                 have n19_ : Aside0 (Q0k ≠ Q06) := ⟨h19_⟩
                 have n20_ : Aside0 (Q06 ≠ Q0k) := ⟨h20_⟩
                 have n21_ : Aside0 (Q0r ≠ Q06) := ⟨h21_⟩
                 have n22_ : Aside0 (Q06 ≠ Q0r) := ⟨h22_⟩
                 have n23_ : Aside0 (Q07 ≠ Q06) := ⟨h23_⟩
                 have n24_ : Aside0 (Q06 ≠ Q07) := ⟨h24_⟩
                 have n25_ : Aside0 (w.heap.size ≤ Q07) := ⟨h25_⟩
                 have n26_ : Aside0 (w.heap.size ≤ Q07) := ⟨h26_⟩
                 have n27_ : Aside0 (Q04 ≠ Q07) := ⟨h27_⟩
                 have n28_ : Aside0 (Q07 ≠ Q04) := ⟨h28_⟩
                 have n29_ : Aside0 (Q0i ≠ Q07) := ⟨h29_⟩
                 have n30_ : Aside0 (Q07 ≠ Q0i) := ⟨h30_⟩
                 have n31_ : Aside0 (Q0j ≠ Q07) := ⟨h31_⟩
                 have n32_ : Aside0 (Q07 ≠ Q0j) := ⟨h32_⟩
                 have n33_ : Aside0 (Q0k ≠ Q07) := ⟨h33_⟩
                 have n34_ : Aside0 (Q07 ≠ Q0k) := ⟨h34_⟩
                 have n35_ : Aside0 (Q0r ≠ Q07) := ⟨h35_⟩
                 have n36_ : Aside0 (Q07 ≠ Q0r) := ⟨h36_⟩
                 have n37_ : Aside0 (Below w.heap.size w w58) := ⟨h37_⟩
                 clear Q09
                 clear Q08
                 clear Q0a
                 clear Q0d
                 clear Q00
                 clear Q01
                 clear Q02
                 clear Q03
                 clear Q05
                 clear HB
                 clear h0_ h1_ h2_ h3_ h4_ h5_ h6_ h7_ h8_ h9_ h10_ h11_ h12_ h13_ h14_ h15_ h16_ h17_ h18_ h19_ h20_ h21_ h22_ h23_ h24_ h25_ h26_ h27_ h28_ h29_ h30_ h31_ h32_ h33_ h34_ h35_ h36_ h37_
                 have Q0a := n0_
                 have Q0d := n1_
                 have Q09 := n2_
                 have Q08 := n3_
                 have Q00 := n4_
                 have Q01 := n5_
                 have Q02 := n6_
                 have Q03 := n7_
                 have Q05 := n8_
                 have Q0b := n9_
                 have Q0c := n10_
                 have Q0w := n11_
                 have Q2x := n12_
                 have Q0l := n13_
                 have Q1u := n14_
                 have Q1c := n15_
                 have Q1v := n16_
                 have Q1d := n17_
                 have Q1w := n18_
                 have Q1e := n19_
                 have Q1x := n20_
                 have Q1a := n21_
                 have Q1n := n22_
                 have Q17 := n23_
                 have Q16 := n24_
                 have Q0x := n25_
                 have Q2y := n26_
                 have Q0m := n27_
                 have Q1y := n28_
                 have Q1f := n29_
                 have Q1z := n30_
                 have Q1g := n31_
                 have Q20 := n32_
                 have Q1h := n33_
                 have Q21 := n34_
                 have Q1b := n35_
                 have Q1o := n36_
                 have HB := n37_
                 clear n0_ n1_ n2_ n3_ n4_ n5_ n6_ n7_ n8_ n9_ n10_ n11_ n12_ n13_ n14_ n15_ n16_ n17_ n18_ n19_ n20_ n21_ n22_ n23_ n24_ n25_ n26_ n27_ n28_ n29_ n30_ n31_ n32_ n33_ n34_ n35_ n36_ n37_
                 have hHeld : w58.cell? ⟨Q04, 0, none⟩ = some (.slice A0_0 l0_0.length c0_0) ∧ w58.cell? ⟨Q04, 1, none⟩ = some (.slice (some ad119) l0_1.length c0_1) ∧ w58.cell? ⟨Q04, 2, none⟩ = some (.slice A0_2 l0_2.length c0_2) ∧ w58.cell? ⟨Q04, 3, none⟩ = some (.slice (some ad121) l0_3.length c0_3) ∧ w58.cell? ⟨Q04, 4, none⟩ = some (.slice A0_4 l0_4.length c0_4) ∧ w58.cell? ⟨Q04, 5, none⟩ = some (.slice A0_5 l0_5.length c0_5) ∧ w58.cell? ⟨Q04, 6, none⟩ = some (.slice A0_6 l0_6.length c0_6) ∧ w58.cell? ⟨Q04, 7, none⟩ = some (.slice A0_7 l0_7.length c0_7) ∧ w58.cell? ⟨Q04, 8, none⟩ = some (.slice A0_8 l0_8.length c0_8) ∧ w58.cell? ⟨Q04, 9, none⟩ = some (.slice A0_9 l0_9.length c0_9) ∧ w58.cell? (ad118.add ((x11_3).toNat * 2)) = some (.int .i64 ((rd_T79 t109 x11_3).f0)) ∧ w58.cell? ⟨(ad118.add ((x11_3).toNat * 2)).block, (ad118.add ((x11_3).toNat * 2)).off + 1, none⟩ = some (.int .i64 ((rd_T79 t109 x11_3).f1)) ∧ w58.cell? (ad119.add ((((rd_T79 t109 x11_3).f0)).toNat * 3)) = some (.int .i64 ((rd_T94 l0_1 ((rd_T79 t109 x11_3).f0)).f0)) ∧ w58.cell? ⟨(ad119.add ((((rd_T79 t109 x11_3).f0)).toNat * 3)).block, (ad119.add ((((rd_T79 t109 x11_3).f0)).toNat * 3)).off + 1, none⟩ = some (.int .i64 ((rd_T94 l0_1 ((rd_T79 t109 x11_3).f0)).f1)) ∧ w58.cell? ⟨(ad119.add ((((rd_T79 t109 x11_3).f0)).toNat * 3)).block, (ad119.add ((((rd_T79 t109 x11_3).f0)).toNat * 3)).off + 2, none⟩ = some (.int .i64 ((rd_T94 l0_1 ((rd_T79 t109 x11_3).f0)).f2)) ∧ w58.cell? (ad118.add ((x11_3).toNat * 2)) = some (.int .i64 ((rd_T79 t109 x11_3).f0)) ∧ w58.cell? ⟨(ad118.add ((x11_3).toNat * 2)).block, (ad118.add ((x11_3).toNat * 2)).off + 1, none⟩ = some (.int .i64 ((rd_T79 t109 x11_3).f1)) ∧ w58.cell? (ad121.add ((((rd_T79 t109 x11_3).f1)).toNat * 3)) = some (.int .i64 ((rd_T94 l0_3 ((rd_T79 t109 x11_3).f1)).f0)) ∧ w58.cell? ⟨(ad121.add ((((rd_T79 t109 x11_3).f1)).toNat * 3)).block, (ad121.add ((((rd_T79 t109 x11_3).f1)).toNat * 3)).off + 1, none⟩ = some (.int .i64 ((rd_T94 l0_3 ((rd_T79 t109 x11_3).f1)).f1)) ∧ w58.cell? ⟨(ad121.add ((((rd_T79 t109 x11_3).f1)).toNat * 3)).block, (ad121.add ((((rd_T79 t109 x11_3).f1)).toNat * 3)).off + 2, none⟩ = some (.int .i64 ((rd_T94 l0_3 ((rd_T79 t109 x11_3).f1)).f2)) := hS_
                 refine norm_ (a' := ?_) ?_ ?_
                 rotate_left
                 ·simp only [putAll, Act.put, List.setIfInBounds_toArray, List.set_cons_zero, List.set_cons_succ]
                  rfl
                 refine one_ (i := 22) (N := none) #[true, true, true, true, true, true, true, true, true, true, true, true, true, true, true, true, true, true, true, true, true, true, true, false] rfl rfl (one_of HT_.out (by kernel_rfl)) (by decide) (fun K hK => ?_)
                 have Q5z : w58.cell? ⟨Q06, 0, none⟩ = some (.int .i64 0) := bC Q0b 0
                 have Q60 := blk_frozen Q0b.out 0
                 have Q61 := Q0l.out
                 have Q62 := Q1c.out
                 have Q63 := Q1d.out
                 have Q64 := Q1e.out
                 have Q65 := Q1a.out
                 have Q66 := Q17.out
                 have Q67 := Q1u.out
                 have Q68 := Q1v.out
                 have Q69 := Q1w.out
                 have Q6a := Q1x.out
                 have Q6b := Q1n.out
                 have Q6c := Q16.out
                 have Q6d : w58.cell? ⟨Q06, 1, none⟩ = some (.int .i64 0) := bC Q0b 1
                 have Q6e := blk_frozen Q0b.out 1
                 have Q6f := Q0l.out
                 have Q6g := Q1c.out
                 have Q6h := Q1d.out
                 have Q6i := Q1e.out
                 have Q6j := Q1a.out
                 have Q6k := Q17.out
                 have Q6l := Q1u.out
                 have Q6m := Q1v.out
                 have Q6n := Q1w.out
                 have Q6o := Q1x.out
                 have Q6p := Q1n.out
                 have Q6q := Q16.out
                 have Q6r : w58.cell? ⟨Q06, 2, none⟩ = some (.int .i64 0) := bC Q0b 2
                 have Q6s := blk_frozen Q0b.out 2
                 have Q6t := Q0l.out
                 have Q6u := Q1c.out
                 have Q6v := Q1d.out
                 have Q6w := Q1e.out
                 have Q6x := Q1a.out
                 have Q6y := Q17.out
                 have Q6z := Q1u.out
                 have Q70 := Q1v.out
                 have Q71 := Q1w.out
                 have Q72 := Q1x.out
                 have Q73 := Q1n.out
                 have Q74 := Q16.out
                 refine skip_ (w1 := ?_) (by rfl) rfl ?_ ?_
                 rotate_left
                 ·go_simp
                  rfl
                 refine hK.out _ _ ⟨(cG Q0l.out (cG Q0l.out (cG Q0l.out hHeld.1))), (cG Q0l.out (cG Q0l.out (cG Q0l.out hHeld.2.1))), (cG Q0l.out (cG Q0l.out (cG Q0l.out hHeld.2.2.1))), (cG Q0l.out (cG Q0l.out (cG Q0l.out hHeld.2.2.2.1))), (cG Q0l.out (cG Q0l.out (cG Q0l.out hHeld.2.2.2.2.1))), (cG Q0l.out (cG Q0l.out (cG Q0l.out hHeld.2.2.2.2.2.1))), (cG Q0l.out (cG Q0l.out (cG Q0l.out hHeld.2.2.2.2.2.2.1))), (cG Q0l.out (cG Q0l.out (cG Q0l.out hHeld.2.2.2.2.2.2.2.1))), (cG Q0l.out (cG Q0l.out (cG Q0l.out hHeld.2.2.2.2.2.2.2.2.1))), (cG Q0l.out (cG Q0l.out (cG Q0l.out hHeld.2.2.2.2.2.2.2.2.2.1))), (cG (aB (Kd.own_blk (Kd.R_ne Q08.out Q0b.out (by decide)))) (cG (aB (Kd.own_blk (Kd.R_ne Q08.out Q0b.out (by decide)))) (cG (aB (Kd.own_blk (Kd.R_ne Q08.out Q0b.out (by decide)))) hHeld.2.2.2.2.2.2.2.2.2.2.1))), (cG (aB (Kd.own_blk (Kd.R_ne Q08.out Q0b.out (by decide)))) (cG (aB (Kd.own_blk (Kd.R_ne Q08.out Q0b.out (by decide)))) (cG (aB (Kd.own_blk (Kd.R_ne Q08.out Q0b.out (by decide)))) hHeld.2.2.2.2.2.2.2.2.2.2.2.1))), (cG (aB (bL hw119_0 Q0w.out)) (cG (aB (bL hw119_0 Q0w.out)) (cG (aB (bL hw119_0 Q0w.out)) hHeld.2.2.2.2.2.2.2.2.2.2.2.2.1))), (cG (aB (bL hw119_1 Q0w.out)) (cG (aB (bL hw119_1 Q0w.out)) (cG (aB (bL hw119_1 Q0w.out)) hHeld.2.2.2.2.2.2.2.2.2.2.2.2.2.1))), (cG (aB (bL hw119_2 Q0w.out)) (cG (aB (bL hw119_2 Q0w.out)) (cG (aB (bL hw119_2 Q0w.out)) hHeld.2.2.2.2.2.2.2.2.2.2.2.2.2.2.1))), (cG (aB (Kd.own_blk (Kd.R_ne Q08.out Q0b.out (by decide)))) (cG (aB (Kd.own_blk (Kd.R_ne Q08.out Q0b.out (by decide)))) (cG (aB (Kd.own_blk (Kd.R_ne Q08.out Q0b.out (by decide)))) hHeld.2.2.2.2.2.2.2.2.2.2.2.2.2.2.2.1))), (cG (aB (Kd.own_blk (Kd.R_ne Q08.out Q0b.out (by decide)))) (cG (aB (Kd.own_blk (Kd.R_ne Q08.out Q0b.out (by decide)))) (cG (aB (Kd.own_blk (Kd.R_ne Q08.out Q0b.out (by decide)))) hHeld.2.2.2.2.2.2.2.2.2.2.2.2.2.2.2.2.1))), (cG (aB (bL hw121_0 Q0w.out)) (cG (aB (bL hw121_0 Q0w.out)) (cG (aB (bL hw121_0 Q0w.out)) hHeld.2.2.2.2.2.2.2.2.2.2.2.2.2.2.2.2.2.1))), (cG (aB (bL hw121_1 Q0w.out)) (cG (aB (bL hw121_1 Q0w.out)) (cG (aB (bL hw121_1 Q0w.out)) hHeld.2.2.2.2.2.2.2.2.2.2.2.2.2.2.2.2.2.2.1))), (cG (aB (bL hw121_2 Q0w.out)) (cG (aB (bL hw121_2 Q0w.out)) (cG (aB (bL hw121_2 Q0w.out)) hHeld.2.2.2.2.2.2.2.2.2.2.2.2.2.2.2.2.2.2.2)))⟩ (fun hHeld => ?_)
                 clear hK K
                 refine one_ (i := 23) (N := none) #[true, true, true, true, true, true, true, true, true, true, true, true, true, true, true, true, true, true, true, true, true, true, true, true] rfl rfl (one_of HT_.out (by kernel_rfl)) (by decide) (fun K hK => ?_)
                 have Q75 : w58.cell? ⟨Q07, 0, none⟩ = some (.int .i64 0) := bC Q0c 0
                 have Q76 := blk_frozen Q0c.out 0
                 have Q77 := Q0m.out
                 have Q78 := Q1f.out
                 have Q79 := Q1g.out
                 have Q7a := Q1h.out
                 have Q7b := Q1b.out
                 have Q7c := Q16.out
                 have Q7d := Q1y.out
                 have Q7e := Q1z.out
                 have Q7f := Q20.out
                 have Q7g := Q21.out
                 have Q7h := Q1o.out
                 have Q7i := Q17.out
                 have Q7j : w58.cell? ⟨Q07, 1, none⟩ = some (.int .i64 0) := bC Q0c 1
                 have Q7k := blk_frozen Q0c.out 1
                 have Q7l := Q0m.out
                 have Q7m := Q1f.out
                 have Q7n := Q1g.out
                 have Q7o := Q1h.out
                 have Q7p := Q1b.out
                 have Q7q := Q16.out
                 have Q7r := Q1y.out
                 have Q7s := Q1z.out
                 have Q7t := Q20.out
                 have Q7u := Q21.out
                 have Q7v := Q1o.out
                 have Q7w := Q17.out
                 have Q7x : w58.cell? ⟨Q07, 2, none⟩ = some (.int .i64 0) := bC Q0c 2
                 have Q7y := blk_frozen Q0c.out 2
                 have Q7z := Q0m.out
                 have Q80 := Q1f.out
                 have Q81 := Q1g.out
                 have Q82 := Q1h.out
                 have Q83 := Q1b.out
                 have Q84 := Q16.out
                 have Q85 := Q1y.out
                 have Q86 := Q1z.out
                 have Q87 := Q20.out
                 have Q88 := Q21.out
                 have Q89 := Q1o.out
                 have Q8a := Q17.out
                 refine skip_ (w1 := ?_) (by rfl) rfl ?_ ?_
                 rotate_left
                 ·go_simp
                  rfl
                 refine hK.out _ _ ⟨(cG Q0m.out (cG Q0m.out (cG Q0m.out hHeld.1))), (cG Q0m.out (cG Q0m.out (cG Q0m.out hHeld.2.1))), (cG Q0m.out (cG Q0m.out (cG Q0m.out hHeld.2.2.1))), (cG Q0m.out (cG Q0m.out (cG Q0m.out hHeld.2.2.2.1))), (cG Q0m.out (cG Q0m.out (cG Q0m.out hHeld.2.2.2.2.1))), (cG Q0m.out (cG Q0m.out (cG Q0m.out hHeld.2.2.2.2.2.1))), (cG Q0m.out (cG Q0m.out (cG Q0m.out hHeld.2.2.2.2.2.2.1))), (cG Q0m.out (cG Q0m.out (cG Q0m.out hHeld.2.2.2.2.2.2.2.1))), (cG Q0m.out (cG Q0m.out (cG Q0m.out hHeld.2.2.2.2.2.2.2.2.1))), (cG Q0m.out (cG Q0m.out (cG Q0m.out hHeld.2.2.2.2.2.2.2.2.2.1))), (cG (aB (Kd.own_blk (Kd.R_ne Q08.out Q0c.out (by decide)))) (cG (aB (Kd.own_blk (Kd.R_ne Q08.out Q0c.out (by decide)))) (cG (aB (Kd.own_blk (Kd.R_ne Q08.out Q0c.out (by decide)))) hHeld.2.2.2.2.2.2.2.2.2.2.1))), (cG (aB (Kd.own_blk (Kd.R_ne Q08.out Q0c.out (by decide)))) (cG (aB (Kd.own_blk (Kd.R_ne Q08.out Q0c.out (by decide)))) (cG (aB (Kd.own_blk (Kd.R_ne Q08.out Q0c.out (by decide)))) hHeld.2.2.2.2.2.2.2.2.2.2.2.1))), (cG (aB (bL hw119_0 Q0x.out)) (cG (aB (bL hw119_0 Q0x.out)) (cG (aB (bL hw119_0 Q0x.out)) hHeld.2.2.2.2.2.2.2.2.2.2.2.2.1))), (cG (aB (bL hw119_1 Q0x.out)) (cG (aB (bL hw119_1 Q0x.out)) (cG (aB (bL hw119_1 Q0x.out)) hHeld.2.2.2.2.2.2.2.2.2.2.2.2.2.1))), (cG (aB (bL hw119_2 Q0x.out)) (cG (aB (bL hw119_2 Q0x.out)) (cG (aB (bL hw119_2 Q0x.out)) hHeld.2.2.2.2.2.2.2.2.2.2.2.2.2.2.1))), (cG (aB (Kd.own_blk (Kd.R_ne Q08.out Q0c.out (by decide)))) (cG (aB (Kd.own_blk (Kd.R_ne Q08.out Q0c.out (by decide)))) (cG (aB (Kd.own_blk (Kd.R_ne Q08.out Q0c.out (by decide)))) hHeld.2.2.2.2.2.2.2.2.2.2.2.2.2.2.2.1))), (cG (aB (Kd.own_blk (Kd.R_ne Q08.out Q0c.out (by decide)))) (cG (aB (Kd.own_blk (Kd.R_ne Q08.out Q0c.out (by decide)))) (cG (aB (Kd.own_blk (Kd.R_ne Q08.out Q0c.out (by decide)))) hHeld.2.2.2.2.2.2.2.2.2.2.2.2.2.2.2.2.1))), (cG (aB (bL hw121_0 Q0x.out)) (cG (aB (bL hw121_0 Q0x.out)) (cG (aB (bL hw121_0 Q0x.out)) hHeld.2.2.2.2.2.2.2.2.2.2.2.2.2.2.2.2.2.1))), (cG (aB (bL hw121_1 Q0x.out)) (cG (aB (bL hw121_1 Q0x.out)) (cG (aB (bL hw121_1 Q0x.out)) hHeld.2.2.2.2.2.2.2.2.2.2.2.2.2.2.2.2.2.2.1))), (cG (aB (bL hw121_2 Q0x.out)) (cG (aB (bL hw121_2 Q0x.out)) (cG (aB (bL hw121_2 Q0x.out)) hHeld.2.2.2.2.2.2.2.2.2.2.2.2.2.2.2.2.2.2.2)))⟩ (fun hHeld => ?_)
                 clear hK K
                 refine done_ (done_of HT_.out (by kernel_rfl)) ?_
                 try go_wp2
                 have n0_ : Aside0 (Kd.R k79 79 ((((((w58.setCell ⟨Q06, 0, none⟩ (.int .i64 ((rd_T94 l0_1 ((rd_T79 t109 x11_3).f0)).f0))).setCell ⟨Q06, 1, none⟩ (.int .i64 ((rd_T94 l0_1 ((rd_T79 t109 x11_3).f0)).f1))).setCell ⟨Q06, 2, none⟩ (.int .i64 ((rd_T94 l0_1 ((rd_T79 t109 x11_3).f0)).f2))).setCell ⟨Q07, 0, none⟩ (.int .i64 ((rd_T94 l0_3 ((rd_T79 t109 x11_3).f1)).f0))).setCell ⟨Q07, 1, none⟩ (.int .i64 ((rd_T94 l0_3 ((rd_T79 t109 x11_3).f1)).f1))).setCell ⟨Q07, 2, none⟩ (.int .i64 ((rd_T94 l0_3 ((rd_T79 t109 x11_3).f1)).f2))) w.heap.size (fun k_ => some k_ ≠ (.slice (some ad118) t109.length Q2h : Value).ownBlock) (.slice Q0y t106.length Q0z) t106) := ⟨by (with_reducible repeat (first | apply rA | apply rN | apply rD)); exact Kd.R_mono (Kd.R_far (p := ⟨Q07, 2, none⟩) (Kd.R_far (p := ⟨Q07, 1, none⟩) (Kd.R_far (p := ⟨Q07, 0, none⟩) (Kd.R_far (p := ⟨Q06, 2, none⟩) (Kd.R_far (p := ⟨Q06, 1, none⟩) (Kd.R_far (p := ⟨Q06, 0, none⟩) (Kd.R_types (Kd.R_types Q09.out Q0b.out (by decide)) Q0c.out (by decide)) (fun _ hk => hk.1.2) (.int .i64 ((rd_T94 l0_1 ((rd_T79 t109 x11_3).f0)).f0))) (fun _ hk => hk.1.2) (.int .i64 ((rd_T94 l0_1 ((rd_T79 t109 x11_3).f0)).f1))) (fun _ hk => hk.1.2) (.int .i64 ((rd_T94 l0_1 ((rd_T79 t109 x11_3).f0)).f2))) (fun _ hk => hk.2) (.int .i64 ((rd_T94 l0_3 ((rd_T79 t109 x11_3).f1)).f0))) (fun _ hk => hk.2) (.int .i64 ((rd_T94 l0_3 ((rd_T79 t109 x11_3).f1)).f1))) (fun _ hk => hk.2) (.int .i64 ((rd_T94 l0_3 ((rd_T79 t109 x11_3).f1)).f2))) (fun _ hk => hk.1.1)⟩
                 have n1_ : Aside0 (Kd.R k79 79 ((((((w58.setCell ⟨Q06, 0, none⟩ (.int .i64 ((rd_T94 l0_1 ((rd_T79 t109 x11_3).f0)).f0))).setCell ⟨Q06, 1, none⟩ (.int .i64 ((rd_T94 l0_1 ((rd_T79 t109 x11_3).f0)).f1))).setCell ⟨Q06, 2, none⟩ (.int .i64 ((rd_T94 l0_1 ((rd_T79 t109 x11_3).f0)).f2))).setCell ⟨Q07, 0, none⟩ (.int .i64 ((rd_T94 l0_3 ((rd_T79 t109 x11_3).f1)).f0))).setCell ⟨Q07, 1, none⟩ (.int .i64 ((rd_T94 l0_3 ((rd_T79 t109 x11_3).f1)).f1))).setCell ⟨Q07, 2, none⟩ (.int .i64 ((rd_T94 l0_3 ((rd_T79 t109 x11_3).f1)).f2))) w.heap.size (fun k_ => some k_ ≠ (.slice Q0y t106.length Q0z : Value).ownBlock) (.slice (some ad118) t109.length Q2h) t109) := ⟨by (with_reducible repeat (first | apply rA | apply rN | apply rD)); exact Kd.R_mono (Kd.R_far (p := ⟨Q07, 2, none⟩) (Kd.R_far (p := ⟨Q07, 1, none⟩) (Kd.R_far (p := ⟨Q07, 0, none⟩) (Kd.R_far (p := ⟨Q06, 2, none⟩) (Kd.R_far (p := ⟨Q06, 1, none⟩) (Kd.R_far (p := ⟨Q06, 0, none⟩) (Kd.R_types (Kd.R_types Q08.out Q0b.out (by decide)) Q0c.out (by decide)) (fun _ hk => hk.1.2) (.int .i64 ((rd_T94 l0_1 ((rd_T79 t109 x11_3).f0)).f0))) (fun _ hk => hk.1.2) (.int .i64 ((rd_T94 l0_1 ((rd_T79 t109 x11_3).f0)).f1))) (fun _ hk => hk.1.2) (.int .i64 ((rd_T94 l0_1 ((rd_T79 t109 x11_3).f0)).f2))) (fun _ hk => hk.2) (.int .i64 ((rd_T94 l0_3 ((rd_T79 t109 x11_3).f1)).f0))) (fun _ hk => hk.2) (.int .i64 ((rd_T94 l0_3 ((rd_T79 t109 x11_3).f1)).f1))) (fun _ hk => hk.2) (.int .i64 ((rd_T94 l0_3 ((rd_T79 t109 x11_3).f1)).f2))) (fun _ hk => hk.1.1)⟩
                 have n2_ : Aside0 (Kd.R (Kd.int .i64) 3 ((((((w58.setCell ⟨Q06, 0, none⟩ (.int .i64 ((rd_T94 l0_1 ((rd_T79 t109 x11_3).f0)).f0))).setCell ⟨Q06, 1, none⟩ (.int .i64 ((rd_T94 l0_1 ((rd_T79 t109 x11_3).f0)).f1))).setCell ⟨Q06, 2, none⟩ (.int .i64 ((rd_T94 l0_1 ((rd_T79 t109 x11_3).f0)).f2))).setCell ⟨Q07, 0, none⟩ (.int .i64 ((rd_T94 l0_3 ((rd_T79 t109 x11_3).f1)).f0))).setCell ⟨Q07, 1, none⟩ (.int .i64 ((rd_T94 l0_3 ((rd_T79 t109 x11_3).f1)).f1))).setCell ⟨Q07, 2, none⟩ (.int .i64 ((rd_T94 l0_3 ((rd_T79 t109 x11_3).f1)).f2))) w.heap.size (fun _ => True) u113000 x113000_2) := ⟨by (with_reducible repeat (first | apply rA | apply rN | apply rD)); exact Kd.R_mono (Kd.R_far (p := ⟨Q07, 2, none⟩) (Kd.R_far (p := ⟨Q07, 1, none⟩) (Kd.R_far (p := ⟨Q07, 0, none⟩) (Kd.R_far (p := ⟨Q06, 2, none⟩) (Kd.R_far (p := ⟨Q06, 1, none⟩) (Kd.R_far (p := ⟨Q06, 0, none⟩) (Kd.R_types (Kd.R_types Q0a.out Q0b.out (by decide)) Q0c.out (by decide)) (fun _ hk => hk.1.2) (.int .i64 ((rd_T94 l0_1 ((rd_T79 t109 x11_3).f0)).f0))) (fun _ hk => hk.1.2) (.int .i64 ((rd_T94 l0_1 ((rd_T79 t109 x11_3).f0)).f1))) (fun _ hk => hk.1.2) (.int .i64 ((rd_T94 l0_1 ((rd_T79 t109 x11_3).f0)).f2))) (fun _ hk => hk.2) (.int .i64 ((rd_T94 l0_3 ((rd_T79 t109 x11_3).f1)).f0))) (fun _ hk => hk.2) (.int .i64 ((rd_T94 l0_3 ((rd_T79 t109 x11_3).f1)).f1))) (fun _ hk => hk.2) (.int .i64 ((rd_T94 l0_3 ((rd_T79 t109 x11_3).f1)).f2))) (fun _ hk => trivial)⟩
                 have n3_ : Aside0 (Kd.R k94 94 ((((((w58.setCell ⟨Q06, 0, none⟩ (.int .i64 ((rd_T94 l0_1 ((rd_T79 t109 x11_3).f0)).f0))).setCell ⟨Q06, 1, none⟩ (.int .i64 ((rd_T94 l0_1 ((rd_T79 t109 x11_3).f0)).f1))).setCell ⟨Q06, 2, none⟩ (.int .i64 ((rd_T94 l0_1 ((rd_T79 t109 x11_3).f0)).f2))).setCell ⟨Q07, 0, none⟩ (.int .i64 ((rd_T94 l0_3 ((rd_T79 t109 x11_3).f1)).f0))).setCell ⟨Q07, 1, none⟩ (.int .i64 ((rd_T94 l0_3 ((rd_T79 t109 x11_3).f1)).f1))).setCell ⟨Q07, 2, none⟩ (.int .i64 ((rd_T94 l0_3 ((rd_T79 t109 x11_3).f1)).f2))) w.heap.size (fun k_ => k_ ≠ Q06 ∧ k_ ≠ Q07) u113001 x113001_3) := ⟨by (with_reducible repeat (first | apply rA | apply rN | apply rD)); exact Kd.R_mono (Kd.R_far (p := ⟨Q07, 2, none⟩) (Kd.R_far (p := ⟨Q07, 1, none⟩) (Kd.R_far (p := ⟨Q07, 0, none⟩) (Kd.R_far (p := ⟨Q06, 2, none⟩) (Kd.R_far (p := ⟨Q06, 1, none⟩) (Kd.R_far (p := ⟨Q06, 0, none⟩) (Kd.R_mono (Kd.R_mono Q0d.out (fun k_ hk => (⟨hk, hk.1⟩ : _ ∧ k_ ≠ Q06))) (fun k_ hk => (⟨hk, hk.1.2⟩ : _ ∧ k_ ≠ Q07))) (fun _ hk => hk.1.2) (.int .i64 ((rd_T94 l0_1 ((rd_T79 t109 x11_3).f0)).f0))) (fun _ hk => hk.1.2) (.int .i64 ((rd_T94 l0_1 ((rd_T79 t109 x11_3).f0)).f1))) (fun _ hk => hk.1.2) (.int .i64 ((rd_T94 l0_1 ((rd_T79 t109 x11_3).f0)).f2))) (fun _ hk => hk.2) (.int .i64 ((rd_T94 l0_3 ((rd_T79 t109 x11_3).f1)).f0))) (fun _ hk => hk.2) (.int .i64 ((rd_T94 l0_3 ((rd_T79 t109 x11_3).f1)).f1))) (fun _ hk => hk.2) (.int .i64 ((rd_T94 l0_3 ((rd_T79 t109 x11_3).f1)).f2))) (fun _ hk => ⟨hk.1.1.1, hk.1.1.2⟩)⟩
                 have n4_ : Aside0 (((((((w58.setCell ⟨Q06, 0, none⟩ (.int .i64 ((rd_T94 l0_1 ((rd_T79 t109 x11_3).f0)).f0))).setCell ⟨Q06, 1, none⟩ (.int .i64 ((rd_T94 l0_1 ((rd_T79 t109 x11_3).f0)).f1))).setCell ⟨Q06, 2, none⟩ (.int .i64 ((rd_T94 l0_1 ((rd_T79 t109 x11_3).f0)).f2))).setCell ⟨Q07, 0, none⟩ (.int .i64 ((rd_T94 l0_3 ((rd_T79 t109 x11_3).f1)).f0))).setCell ⟨Q07, 1, none⟩ (.int .i64 ((rd_T94 l0_3 ((rd_T79 t109 x11_3).f1)).f1))).setCell ⟨Q07, 2, none⟩ (.int .i64 ((rd_T94 l0_3 ((rd_T79 t109 x11_3).f1)).f2))).heap[Q04]? = some (.cells #[.slice A0_0 l0_0.length c0_0, .slice (some ad119) l0_1.length c0_1, .slice A0_2 l0_2.length c0_2, .slice (some ad121) l0_3.length c0_3, .slice A0_4 l0_4.length c0_4, .slice A0_5 l0_5.length c0_5, .slice A0_6 l0_6.length c0_6, .slice A0_7 l0_7.length c0_7, .slice A0_8 l0_8.length c0_8, .slice A0_9 l0_9.length c0_9] 29 (0, 0))) := ⟨by (with_reducible repeat (first | refine bN ?_ _ | refine bD ?_ | refine bA ?_ _)); refine blk_far ?_ Q0m.out _; (with_reducible repeat (first | refine bN ?_ _ | refine bD ?_ | refine bA ?_ _)); refine blk_far ?_ Q0m.out _; (with_reducible repeat (first | refine bN ?_ _ | refine bD ?_ | refine bA ?_ _)); refine blk_far ?_ Q0m.out _; (with_reducible repeat (first | refine bN ?_ _ | refine bD ?_ | refine bA ?_ _)); refine blk_far ?_ Q0l.out _; (with_reducible repeat (first | refine bN ?_ _ | refine bD ?_ | refine bA ?_ _)); refine blk_far ?_ Q0l.out _; (with_reducible repeat (first | refine bN ?_ _ | refine bD ?_ | refine bA ?_ _)); refine blk_far ?_ Q0l.out _; (with_reducible repeat (first | refine bN ?_ _ | refine bD ?_ | refine bA ?_ _)); exact Q00.out⟩
                 have n5_ : Aside0 (((((((w58.setCell ⟨Q06, 0, none⟩ (.int .i64 ((rd_T94 l0_1 ((rd_T79 t109 x11_3).f0)).f0))).setCell ⟨Q06, 1, none⟩ (.int .i64 ((rd_T94 l0_1 ((rd_T79 t109 x11_3).f0)).f1))).setCell ⟨Q06, 2, none⟩ (.int .i64 ((rd_T94 l0_1 ((rd_T79 t109 x11_3).f0)).f2))).setCell ⟨Q07, 0, none⟩ (.int .i64 ((rd_T94 l0_3 ((rd_T79 t109 x11_3).f1)).f0))).setCell ⟨Q07, 1, none⟩ (.int .i64 ((rd_T94 l0_3 ((rd_T79 t109 x11_3).f1)).f1))).setCell ⟨Q07, 2, none⟩ (.int .i64 ((rd_T94 l0_3 ((rd_T79 t109 x11_3).f1)).f2))).heap[Q0i]? = some (.cells #[.slice none 0 0, .slice none 0 0] 25 (0, 0))) := ⟨by (with_reducible repeat (first | refine bN ?_ _ | refine bD ?_ | refine bA ?_ _)); refine blk_far ?_ Q1f.out _; (with_reducible repeat (first | refine bN ?_ _ | refine bD ?_ | refine bA ?_ _)); refine blk_far ?_ Q1f.out _; (with_reducible repeat (first | refine bN ?_ _ | refine bD ?_ | refine bA ?_ _)); refine blk_far ?_ Q1f.out _; (with_reducible repeat (first | refine bN ?_ _ | refine bD ?_ | refine bA ?_ _)); refine blk_far ?_ Q1c.out _; (with_reducible repeat (first | refine bN ?_ _ | refine bD ?_ | refine bA ?_ _)); refine blk_far ?_ Q1c.out _; (with_reducible repeat (first | refine bN ?_ _ | refine bD ?_ | refine bA ?_ _)); refine blk_far ?_ Q1c.out _; (with_reducible repeat (first | refine bN ?_ _ | refine bD ?_ | refine bA ?_ _)); exact Q01.out⟩
                 have n6_ : Aside0 (((((((w58.setCell ⟨Q06, 0, none⟩ (.int .i64 ((rd_T94 l0_1 ((rd_T79 t109 x11_3).f0)).f0))).setCell ⟨Q06, 1, none⟩ (.int .i64 ((rd_T94 l0_1 ((rd_T79 t109 x11_3).f0)).f1))).setCell ⟨Q06, 2, none⟩ (.int .i64 ((rd_T94 l0_1 ((rd_T79 t109 x11_3).f0)).f2))).setCell ⟨Q07, 0, none⟩ (.int .i64 ((rd_T94 l0_3 ((rd_T79 t109 x11_3).f1)).f0))).setCell ⟨Q07, 1, none⟩ (.int .i64 ((rd_T94 l0_3 ((rd_T79 t109 x11_3).f1)).f1))).setCell ⟨Q07, 2, none⟩ (.int .i64 ((rd_T94 l0_3 ((rd_T79 t109 x11_3).f1)).f2))).heap[Q0j]? = some (.cells #[.slice none 0 0, .slice none 0 0] 27 (0, 0))) := ⟨by (with_reducible repeat (first | refine bN ?_ _ | refine bD ?_ | refine bA ?_ _)); refine blk_far ?_ Q1g.out _; (with_reducible repeat (first | refine bN ?_ _ | refine bD ?_ | refine bA ?_ _)); refine blk_far ?_ Q1g.out _; (with_reducible repeat (first | refine bN ?_ _ | refine bD ?_ | refine bA ?_ _)); refine blk_far ?_ Q1g.out _; (with_reducible repeat (first | refine bN ?_ _ | refine bD ?_ | refine bA ?_ _)); refine blk_far ?_ Q1d.out _; (with_reducible repeat (first | refine bN ?_ _ | refine bD ?_ | refine bA ?_ _)); refine blk_far ?_ Q1d.out _; (with_reducible repeat (first | refine bN ?_ _ | refine bD ?_ | refine bA ?_ _)); refine blk_far ?_ Q1d.out _; (with_reducible repeat (first | refine bN ?_ _ | refine bD ?_ | refine bA ?_ _)); exact Q02.out⟩
                 have n7_ : Aside0 (((((((w58.setCell ⟨Q06, 0, none⟩ (.int .i64 ((rd_T94 l0_1 ((rd_T79 t109 x11_3).f0)).f0))).setCell ⟨Q06, 1, none⟩ (.int .i64 ((rd_T94 l0_1 ((rd_T79 t109 x11_3).f0)).f1))).setCell ⟨Q06, 2, none⟩ (.int .i64 ((rd_T94 l0_1 ((rd_T79 t109 x11_3).f0)).f2))).setCell ⟨Q07, 0, none⟩ (.int .i64 ((rd_T94 l0_3 ((rd_T79 t109 x11_3).f1)).f0))).setCell ⟨Q07, 1, none⟩ (.int .i64 ((rd_T94 l0_3 ((rd_T79 t109 x11_3).f1)).f1))).setCell ⟨Q07, 2, none⟩ (.int .i64 ((rd_T94 l0_3 ((rd_T79 t109 x11_3).f1)).f2))).heap[Q0k]? = some (.cells #[.slice none 0 0, .slice none 0 0] 27 (0, 0))) := ⟨by (with_reducible repeat (first | refine bN ?_ _ | refine bD ?_ | refine bA ?_ _)); refine blk_far ?_ Q1h.out _; (with_reducible repeat (first | refine bN ?_ _ | refine bD ?_ | refine bA ?_ _)); refine blk_far ?_ Q1h.out _; (with_reducible repeat (first | refine bN ?_ _ | refine bD ?_ | refine bA ?_ _)); refine blk_far ?_ Q1h.out _; (with_reducible repeat (first | refine bN ?_ _ | refine bD ?_ | refine bA ?_ _)); refine blk_far ?_ Q1e.out _; (with_reducible repeat (first | refine bN ?_ _ | refine bD ?_ | refine bA ?_ _)); refine blk_far ?_ Q1e.out _; (with_reducible repeat (first | refine bN ?_ _ | refine bD ?_ | refine bA ?_ _)); refine blk_far ?_ Q1e.out _; (with_reducible repeat (first | refine bN ?_ _ | refine bD ?_ | refine bA ?_ _)); exact Q03.out⟩
                 have n8_ : Aside0 (((((((w58.setCell ⟨Q06, 0, none⟩ (.int .i64 ((rd_T94 l0_1 ((rd_T79 t109 x11_3).f0)).f0))).setCell ⟨Q06, 1, none⟩ (.int .i64 ((rd_T94 l0_1 ((rd_T79 t109 x11_3).f0)).f1))).setCell ⟨Q06, 2, none⟩ (.int .i64 ((rd_T94 l0_1 ((rd_T79 t109 x11_3).f0)).f2))).setCell ⟨Q07, 0, none⟩ (.int .i64 ((rd_T94 l0_3 ((rd_T79 t109 x11_3).f1)).f0))).setCell ⟨Q07, 1, none⟩ (.int .i64 ((rd_T94 l0_3 ((rd_T79 t109 x11_3).f1)).f1))).setCell ⟨Q07, 2, none⟩ (.int .i64 ((rd_T94 l0_3 ((rd_T79 t109 x11_3).f1)).f2))).heap[Q0r]? = some (.cells #[u113000, u113001] 25 (0, 0))) := ⟨by (with_reducible repeat (first | refine bN ?_ _ | refine bD ?_ | refine bA ?_ _)); refine blk_far ?_ Q1b.out _; (with_reducible repeat (first | refine bN ?_ _ | refine bD ?_ | refine bA ?_ _)); refine blk_far ?_ Q1b.out _; (with_reducible repeat (first | refine bN ?_ _ | refine bD ?_ | refine bA ?_ _)); refine blk_far ?_ Q1b.out _; (with_reducible repeat (first | refine bN ?_ _ | refine bD ?_ | refine bA ?_ _)); refine blk_far ?_ Q1a.out _; (with_reducible repeat (first | refine bN ?_ _ | refine bD ?_ | refine bA ?_ _)); refine blk_far ?_ Q1a.out _; (with_reducible repeat (first | refine bN ?_ _ | refine bD ?_ | refine bA ?_ _)); refine blk_far ?_ Q1a.out _; (with_reducible repeat (first | refine bN ?_ _ | refine bD ?_ | refine bA ?_ _)); exact Q05.out⟩
                 have n9_ : Aside0 (((((((w58.setCell ⟨Q06, 0, none⟩ (.int .i64 ((rd_T94 l0_1 ((rd_T79 t109 x11_3).f0)).f0))).setCell ⟨Q06, 1, none⟩ (.int .i64 ((rd_T94 l0_1 ((rd_T79 t109 x11_3).f0)).f1))).setCell ⟨Q06, 2, none⟩ (.int .i64 ((rd_T94 l0_1 ((rd_T79 t109 x11_3).f0)).f2))).setCell ⟨Q07, 0, none⟩ (.int .i64 ((rd_T94 l0_3 ((rd_T79 t109 x11_3).f1)).f0))).setCell ⟨Q07, 1, none⟩ (.int .i64 ((rd_T94 l0_3 ((rd_T79 t109 x11_3).f1)).f1))).setCell ⟨Q07, 2, none⟩ (.int .i64 ((rd_T94 l0_3 ((rd_T79 t109 x11_3).f1)).f2))).heap[Q06]? = some (.cells #[.int .i64 ((rd_T94 l0_1 ((rd_T79 t109 x11_3).f0)).f0), .int .i64 ((rd_T94 l0_1 ((rd_T79 t109 x11_3).f0)).f1), .int .i64 ((rd_T94 l0_1 ((rd_T79 t109 x11_3).f0)).f2)] 94 (0, 0))) := ⟨by (with_reducible repeat (first | refine bN ?_ _ | refine bD ?_ | refine bA ?_ _)); refine blk_far ?_ Q16.out _; (with_reducible repeat (first | refine bN ?_ _ | refine bD ?_ | refine bA ?_ _)); refine blk_far ?_ Q16.out _; (with_reducible repeat (first | refine bN ?_ _ | refine bD ?_ | refine bA ?_ _)); refine blk_far ?_ Q16.out _; (with_reducible repeat (first | refine bN ?_ _ | refine bD ?_ | refine bA ?_ _)); refine blk_put (cs := #[.int .i64 ((rd_T94 l0_1 ((rd_T79 t109 x11_3).f0)).f0), .int .i64 ((rd_T94 l0_1 ((rd_T79 t109 x11_3).f0)).f1), .int .i64 0]) ?_ 2 _ rfl; (with_reducible repeat (first | refine bN ?_ _ | refine bD ?_ | refine bA ?_ _)); refine blk_put (cs := #[.int .i64 ((rd_T94 l0_1 ((rd_T79 t109 x11_3).f0)).f0), .int .i64 0, .int .i64 0]) ?_ 1 _ rfl; (with_reducible repeat (first | refine bN ?_ _ | refine bD ?_ | refine bA ?_ _)); refine blk_put (cs := #[.int .i64 0, .int .i64 0, .int .i64 0]) ?_ 0 _ rfl; (with_reducible repeat (first | refine bN ?_ _ | refine bD ?_ | refine bA ?_ _)); exact Q0b.out⟩
                 have n10_ : Aside0 (((((((w58.setCell ⟨Q06, 0, none⟩ (.int .i64 ((rd_T94 l0_1 ((rd_T79 t109 x11_3).f0)).f0))).setCell ⟨Q06, 1, none⟩ (.int .i64 ((rd_T94 l0_1 ((rd_T79 t109 x11_3).f0)).f1))).setCell ⟨Q06, 2, none⟩ (.int .i64 ((rd_T94 l0_1 ((rd_T79 t109 x11_3).f0)).f2))).setCell ⟨Q07, 0, none⟩ (.int .i64 ((rd_T94 l0_3 ((rd_T79 t109 x11_3).f1)).f0))).setCell ⟨Q07, 1, none⟩ (.int .i64 ((rd_T94 l0_3 ((rd_T79 t109 x11_3).f1)).f1))).setCell ⟨Q07, 2, none⟩ (.int .i64 ((rd_T94 l0_3 ((rd_T79 t109 x11_3).f1)).f2))).heap[Q07]? = some (.cells #[.int .i64 ((rd_T94 l0_3 ((rd_T79 t109 x11_3).f1)).f0), .int .i64 ((rd_T94 l0_3 ((rd_T79 t109 x11_3).f1)).f1), .int .i64 ((rd_T94 l0_3 ((rd_T79 t109 x11_3).f1)).f2)] 94 (0, 0))) := ⟨by (with_reducible repeat (first | refine bN ?_ _ | refine bD ?_ | refine bA ?_ _)); refine blk_put (cs := #[.int .i64 ((rd_T94 l0_3 ((rd_T79 t109 x11_3).f1)).f0), .int .i64 ((rd_T94 l0_3 ((rd_T79 t109 x11_3).f1)).f1), .int .i64 0]) ?_ 2 _ rfl; (with_reducible repeat (first | refine bN ?_ _ | refine bD ?_ | refine bA ?_ _)); refine blk_put (cs := #[.int .i64 ((rd_T94 l0_3 ((rd_T79 t109 x11_3).f1)).f0), .int .i64 0, .int .i64 0]) ?_ 1 _ rfl; (with_reducible repeat (first | refine bN ?_ _ | refine bD ?_ | refine bA ?_ _)); refine blk_put (cs := #[.int .i64 0, .int .i64 0, .int .i64 0]) ?_ 0 _ rfl; (with_reducible repeat (first | refine bN ?_ _ | refine bD ?_ | refine bA ?_ _)); refine blk_far ?_ Q17.out _; (with_reducible repeat (first | refine bN ?_ _ | refine bD ?_ | refine bA ?_ _)); refine blk_far ?_ Q17.out _; (with_reducible repeat (first | refine bN ?_ _ | refine bD ?_ | refine bA ?_ _)); refine blk_far ?_ Q17.out _; (with_reducible repeat (first | refine bN ?_ _ | refine bD ?_ | refine bA ?_ _)); exact Q0c.out⟩
                 have n11_ : Aside0 (Below w.heap.size w ((((((w58.setCell ⟨Q06, 0, none⟩ (.int .i64 ((rd_T94 l0_1 ((rd_T79 t109 x11_3).f0)).f0))).setCell ⟨Q06, 1, none⟩ (.int .i64 ((rd_T94 l0_1 ((rd_T79 t109 x11_3).f0)).f1))).setCell ⟨Q06, 2, none⟩ (.int .i64 ((rd_T94 l0_1 ((rd_T79 t109 x11_3).f0)).f2))).setCell ⟨Q07, 0, none⟩ (.int .i64 ((rd_T94 l0_3 ((rd_T79 t109 x11_3).f1)).f0))).setCell ⟨Q07, 1, none⟩ (.int .i64 ((rd_T94 l0_3 ((rd_T79 t109 x11_3).f1)).f1))).setCell ⟨Q07, 2, none⟩ (.int .i64 ((rd_T94 l0_3 ((rd_T79 t109 x11_3).f1)).f2)))) := ⟨pH HB⟩
                 (try clear Q09)
                 (try clear Q08)
                 (try clear Q0a)
                 (try clear Q0d)
                 (try clear Q00)
                 (try clear Q01)
                 (try clear Q02)
                 (try clear Q03)
                 (try clear Q05)
                 (try clear Q0b)
                 (try clear Q0c)
                 (try clear HB)
                 generalize ((((((w58.setCell ⟨Q06, 0, none⟩ (.int .i64 ((rd_T94 l0_1 ((rd_T79 t109 x11_3).f0)).f0))).setCell ⟨Q06, 1, none⟩ (.int .i64 ((rd_T94 l0_1 ((rd_T79 t109 x11_3).f0)).f1))).setCell ⟨Q06, 2, none⟩ (.int .i64 ((rd_T94 l0_1 ((rd_T79 t109 x11_3).f0)).f2))).setCell ⟨Q07, 0, none⟩ (.int .i64 ((rd_T94 l0_3 ((rd_T79 t109 x11_3).f1)).f0))).setCell ⟨Q07, 1, none⟩ (.int .i64 ((rd_T94 l0_3 ((rd_T79 t109 x11_3).f1)).f1))).setCell ⟨Q07, 2, none⟩ (.int .i64 ((rd_T94 l0_3 ((rd_T79 t109 x11_3).f1)).f2))) = w65 at n0_ n1_ n2_ n3_ n4_ n5_ n6_ n7_ n8_ n9_ n10_ n11_ ⊢
                 have Q09 := n0_
                 have Q08 := n1_
                 have Q0a := n2_
                 have Q0d := n3_
                 have Q00 := n4_
                 have Q01 := n5_
                 have Q02 := n6_
                 have Q03 := n7_
                 have Q05 := n8_
                 have Q0b := n9_
                 have Q0c := n10_
                 have HB := n11_
                 clear n0_ n1_ n2_ n3_ n4_ n5_ n6_ n7_ n8_ n9_ n10_ n11_
                 replace Q09 := Aside0.mk (rD Q09.out)
                 replace Q08 := Aside0.mk (rD Q08.out)
                 replace Q0a := Aside0.mk (rD Q0a.out)
                 replace Q0d := Aside0.mk (rD Q0d.out)
                 replace Q00 := Aside0.mk (bD Q00.out)
                 replace Q01 := Aside0.mk (bD Q01.out)
                 replace Q02 := Aside0.mk (bD Q02.out)
                 replace Q03 := Aside0.mk (bD Q03.out)
                 replace Q05 := Aside0.mk (bD Q05.out)
                 replace Q0b := Aside0.mk (bD Q0b.out)
                 replace Q0c := Aside0.mk (bD Q0c.out)
                 replace HB := Aside0.mk (wD HB.out)
                 refine start_ (n := 21) (S := fun w' => w'.cell? ⟨Q0r, 0, none⟩ = some (u113000) ∧ w'.cell? ⟨Q0r, 1, none⟩ = some (u113001) ∧ w'.cell? ⟨Q06, 0, none⟩ = some (.int .i64 ((rd_T94 l0_1 ((rd_T79 t109 x11_3).f0)).f0)) ∧ w'.cell? ⟨Q06, 1, none⟩ = some (.int .i64 ((rd_T94 l0_1 ((rd_T79 t109 x11_3).f0)).f1)) ∧ w'.cell? ⟨Q06, 2, none⟩ = some (.int .i64 ((rd_T94 l0_1 ((rd_T79 t109 x11_3).f0)).f2)) ∧ w'.cell? ⟨Q07, 0, none⟩ = some (.int .i64 ((rd_T94 l0_3 ((rd_T79 t109 x11_3).f1)).f0)) ∧ w'.cell? ⟨Q07, 1, none⟩ = some (.int .i64 ((rd_T94 l0_3 ((rd_T79 t109 x11_3).f1)).f1)) ∧ w'.cell? ⟨Q07, 2, none⟩ = some (.int .i64 ((rd_T94 l0_3 ((rd_T79 t109 x11_3).f1)).f2))) (ds := [20]) #[false, false, false, false, false, false, false, false, false, false, false, false, false, false, false, false, false, false, false, false, false] (by kernel_rfl) rfl rfl ⟨bC Q05 0, bC Q05 1, bC Q0b 0, bC Q0b 1, bC Q0b 2, bC Q0c 0, bC Q0c 1, bC Q0c 2⟩ (fun hHeld => ?_); refine with_tabW scarfjointref11_Of.tab16 scarfjointref11_Of.bits16 (fun HT_ HW_ => ?_)
                 generalize w65.drew = w66 at Q09 Q08 Q0a Q0d Q00 Q01 Q02 Q03 Q05 Q0b Q0c HB hHeld ⊢
                 refine pure_ (i := 0) (N := some 96) (v := ?_) (a' := ?_) #[true, false, false, false, false, false, false, false, false, false, false, false, false, false, false, false, false, false, false, false, false] rfl rfl (any_of HT_.out (by kernel_rfl)) (fun _ _ _ h => h) (Or.inl ⟨by rfl, ?_⟩) ?_ ?_
                 rotate_left
                 ·intro w'
                  go_simp
                  with_reducible rfl
                 rotate_left
                 ·simp only [Act.put, List.setIfInBounds_toArray, List.set_cons_zero, List.set_cons_succ, i64_w, i32_w]
                  rfl
                 refine pure_ (i := 2) (N := some 98) (v := ?_) (a' := ?_) #[true, false, true, false, false, false, false, false, false, false, false, false, false, false, false, false, false, false, false, false, false] rfl rfl (any_of HT_.out (by kernel_rfl)) (fun _ _ _ h => h) (Or.inl ⟨by rfl, ?_⟩) ?_ ?_
                 rotate_left
                 ·intro w'
                  go_simp
                  with_reducible rfl
                 rotate_left
                 ·simp only [Act.put, List.setIfInBounds_toArray, List.set_cons_zero, List.set_cons_succ, i64_w, i32_w]
                  rfl
                 refine pure_ (i := 4) (N := some 100) (v := ?_) (a' := ?_) #[true, false, true, false, true, false, false, false, false, false, false, false, false, false, false, false, false, false, false, false, false] rfl rfl (any_of HT_.out (by kernel_rfl)) (fun _ _ _ h => h) (Or.inl ⟨by rfl, ?_⟩) ?_ ?_
                 rotate_left
                 ·intro w'
                  go_simp
                  with_reducible rfl
                 rotate_left
                 ·simp only [Act.put, List.setIfInBounds_toArray, List.set_cons_zero, List.set_cons_succ, i64_w, i32_w]
                  rfl
                 refine pure_ (i := 5) (N := some 101) (v := ?_) (a' := ?_) #[true, false, true, false, true, true, false, false, false, false, false, false, false, false, false, false, false, false, false, false, false] rfl rfl (any_of HT_.out (by kernel_rfl)) (fun _ _ _ h => h) (Or.inl ⟨by rfl, ?_⟩) ?_ ?_
                 rotate_left
                 ·intro w'
                  go_simp
                  with_reducible rfl
                 rotate_left
                 ·simp only [Act.put, List.setIfInBounds_toArray, List.set_cons_zero, List.set_cons_succ, i64_w, i32_w]
                  rfl
                 refine pure_ (i := 7) (N := some 103) (v := ?_) (a' := ?_) #[true, false, true, false, true, true, false, true, false, false, false, false, false, false, false, false, false, false, false, false, false] rfl rfl (any_of HT_.out (by kernel_rfl)) (fun _ _ _ h => h) (Or.inl ⟨by rfl, ?_⟩) ?_ ?_
                 rotate_left
                 ·intro w'
                  go_simp
                  with_reducible rfl
                 rotate_left
                 ·simp only [Act.put, List.setIfInBounds_toArray, List.set_cons_zero, List.set_cons_succ, i64_w, i32_w]
                  rfl
                 refine pure_ (i := 10) (N := some 106) (v := ?_) (a' := ?_) #[true, false, true, false, true, true, false, true, false, false, true, false, false, false, false, false, false, false, false, false, false] rfl rfl (any_of HT_.out (by kernel_rfl)) (fun _ _ _ h => h) (Or.inl ⟨by rfl, ?_⟩) ?_ ?_
                 rotate_left
                 ·intro w'
                  go_simp
                  with_reducible rfl
                 rotate_left
                 ·simp only [Act.put, List.setIfInBounds_toArray, List.set_cons_zero, List.set_cons_succ, i64_w, i32_w]
                  rfl
                 refine pure_ (i := 11) (N := some 107) (v := ?_) (a' := ?_) #[true, false, true, false, true, true, false, true, false, false, true, true, false, false, false, false, false, false, false, false, false] rfl rfl (any_of HT_.out (by kernel_rfl)) (fun _ _ _ h => h) (Or.inl ⟨by rfl, ?_⟩) ?_ ?_
                 rotate_left
                 ·intro w'
                  go_simp
                  with_reducible rfl
                 rotate_left
                 ·simp only [Act.put, List.setIfInBounds_toArray, List.set_cons_zero, List.set_cons_succ, i64_w, i32_w]
                  rfl
                 refine pure_ (i := 13) (N := some 109) (v := ?_) (a' := ?_) #[true, false, true, false, true, true, false, true, false, false, true, true, false, true, false, false, false, false, false, false, false] rfl rfl (any_of HT_.out (by kernel_rfl)) (fun _ _ _ h => h) (Or.inl ⟨by rfl, ?_⟩) ?_ ?_
                 rotate_left
                 ·intro w'
                  go_simp
                  with_reducible rfl
                 rotate_left
                 ·simp only [Act.put, List.setIfInBounds_toArray, List.set_cons_zero, List.set_cons_succ, i64_w, i32_w]
                  rfl
                 refine take_ (i := 1) (N := some 97) (v := ?_) (a' := ?_) #[true, true, true, false, true, true, false, true, false, false, true, true, false, true, false, false, false, false, false, false, false] rfl rfl (take_ofW HT_.out HW_.out (by kernel_rfl)) (fun _ _ _ h => h) (Or.inl ⟨by rfl, ?_⟩) hHeld ?_ ?_
                 rotate_left
                 ·rintro w' ⟨s0, s1, s2, s3, s4, s5, s6, s7⟩
                  go_simp
                  with_reducible rfl
                 rotate_left
                 ·simp only [Act.put, List.setIfInBounds_toArray, List.set_cons_zero, List.set_cons_succ, i64_w, i32_w]
                  rfl
                 refine take_ (i := 3) (N := some 99) (v := ?_) (a' := ?_) #[true, true, true, true, true, true, false, true, false, false, true, true, false, true, false, false, false, false, false, false, false] rfl rfl (take_ofW HT_.out HW_.out (by kernel_rfl)) (fun _ _ _ h => h) (Or.inl ⟨by rfl, ?_⟩) hHeld ?_ ?_
                 rotate_left
                 ·rintro w' ⟨s0, s1, s2, s3, s4, s5, s6, s7⟩
                  go_simp
                  with_reducible rfl
                 rotate_left
                 ·simp only [Act.put, List.setIfInBounds_toArray, List.set_cons_zero, List.set_cons_succ, i64_w, i32_w]
                  rfl
                 refine take_ (i := 6) (N := some 102) (v := ?_) (a' := ?_) #[true, true, true, true, true, true, true, true, false, false, true, true, false, true, false, false, false, false, false, false, false] rfl rfl (take_ofW HT_.out HW_.out (by kernel_rfl)) (fun _ _ _ h => h) (Or.inl ⟨by rfl, ?_⟩) hHeld ?_ ?_
                 rotate_left
                 ·rintro w' ⟨s0, s1, s2, s3, s4, s5, s6, s7⟩
                  go_simp
                  with_reducible rfl
                 rotate_left
                 ·simp only [Act.put, List.setIfInBounds_toArray, List.set_cons_zero, List.set_cons_succ, i64_w, i32_w]
                  rfl
                 refine take_ (i := 8) (N := some 104) (v := ?_) (a' := ?_) #[true, true, true, true, true, true, true, true, true, false, true, true, false, true, false, false, false, false, false, false, false] rfl rfl (take_ofW HT_.out HW_.out (by kernel_rfl)) (fun _ _ _ h => h) (Or.inl ⟨by rfl, ?_⟩) hHeld ?_ ?_
                 rotate_left
                 ·rintro w' ⟨s0, s1, s2, s3, s4, s5, s6, s7⟩
                  go_simp
                  with_reducible rfl
                 rotate_left
                 ·simp only [Act.put, List.setIfInBounds_toArray, List.set_cons_zero, List.set_cons_succ, i64_w, i32_w]
                  rfl
                 refine take_ (i := 12) (N := some 108) (v := ?_) (a' := ?_) #[true, true, true, true, true, true, true, true, true, false, true, true, true, true, false, false, false, false, false, false, false] rfl rfl (take_ofW HT_.out HW_.out (by kernel_rfl)) (fun _ _ _ h => h) (Or.inl ⟨by rfl, ?_⟩) hHeld ?_ ?_
                 rotate_left
                 ·rintro w' ⟨s0, s1, s2, s3, s4, s5, s6, s7⟩
                  go_simp
                  with_reducible rfl
                 rotate_left
                 ·simp only [Act.put, List.setIfInBounds_toArray, List.set_cons_zero, List.set_cons_succ, i64_w, i32_w]
                  rfl
                 refine take_ (i := 14) (N := some 110) (v := ?_) (a' := ?_) #[true, true, true, true, true, true, true, true, true, false, true, true, true, true, true, false, false, false, false, false, false] rfl rfl (take_ofW HT_.out HW_.out (by kernel_rfl)) (fun _ _ _ h => h) (Or.inl ⟨by rfl, ?_⟩) hHeld ?_ ?_
                 rotate_left
                 ·rintro w' ⟨s0, s1, s2, s3, s4, s5, s6, s7⟩
                  go_simp
                  with_reducible rfl
                 rotate_left
                 ·simp only [Act.put, List.setIfInBounds_toArray, List.set_cons_zero, List.set_cons_succ, i64_w, i32_w]
                  rfl
                 refine one_ (i := 9) (N := some 105) #[true, true, true, true, true, true, true, true, true, true, true, true, true, true, true, false, false, false, false, false, false] rfl rfl (one_of HT_.out (by kernel_rfl)) (by decide) (fun K hK => ?_)
                 refine goes_ Try.func70 (by kernel_rfl) rfl #[.slice Q0y t106.length Q0z, .int .i64 ((rd_T94 l0_1 ((rd_T79 t109 x11_3).f0)).f1), .int .i64 ((rd_T94 l0_3 ((rd_T79 t109 x11_3).f1)).f1)] (by rfl) rfl rfl aM ?_
                 with_reducible refine (scarfjointref11_place.calls k3 _ _ t106 ((rd_T94 l0_1 ((rd_T79 t109 x11_3).f0)).f1) ((rd_T94 l0_3 ((rd_T79 t109 x11_3).f1)).f1) t124 _ ?side1 ?side2 A51.out).mono ?_
                 (case side1 => exact cX (Kd.R_reads' Q09.out).2.2)
                 (case side2 => exact (Kd.R_reads' Q09.out).2.1)
                 rintro e w' ⟨rfl, ⟨nd, rfl⟩⟩
                 refine ⟨_, rfl, ?_⟩
                 refine hK.out _ _ ⟨bC Q05 0, bC Q05 1, bC Q0b 0, bC Q0b 1, bC Q0b 2, bC Q0c 0, bC Q0c 1, bC Q0c 2⟩ (fun hHeld => ?_)
                 clear hK K
                 refine norm_ (a' := ?_) ?_ ?_
                 rotate_left
                 ·show Act.put _ (some 105) _ = _
                  simp only [Act.put, List.setIfInBounds_toArray, List.set_cons_zero, List.set_cons_succ, i64_w, i32_w]
                  rfl
                 refine one_ (i := 15) (N := some 111) #[true, true, true, true, true, true, true, true, true, true, true, true, true, true, true, true, false, false, false, false, false] rfl rfl (one_of HT_.out (by kernel_rfl)) (by decide) (fun K hK => ?_)
                 refine goes_ Try.func70 (by kernel_rfl) rfl #[.slice Q0y t106.length Q0z, .int .i64 ((rd_T94 l0_1 ((rd_T79 t109 x11_3).f0)).f2), .int .i64 ((rd_T94 l0_3 ((rd_T79 t109 x11_3).f1)).f2)] (by rfl) rfl rfl aM ?_
                 with_reducible refine (scarfjointref11_place.calls k3 _ _ t106 ((rd_T94 l0_1 ((rd_T79 t109 x11_3).f0)).f2) ((rd_T94 l0_3 ((rd_T79 t109 x11_3).f1)).f2) t125 _ ?side1 ?side2 A52.out).mono ?_
                 (case side1 => exact cX (Kd.R_reads' Q09.out).2.2)
                 (case side2 => exact (Kd.R_reads' Q09.out).2.1)
                 rintro e w' ⟨rfl, ⟨nd, rfl⟩⟩
                 refine ⟨_, rfl, ?_⟩
                 refine hK.out _ _ ⟨bC Q05 0, bC Q05 1, bC Q0b 0, bC Q0b 1, bC Q0b 2, bC Q0c 0, bC Q0c 1, bC Q0c 2⟩ (fun hHeld => ?_)
                 clear hK K
                 refine norm_ (a' := ?_) ?_ ?_
                 rotate_left
                 ·show Act.put _ (some 111) _ = _
                  simp only [Act.put, List.setIfInBounds_toArray, List.set_cons_zero, List.set_cons_succ, i64_w, i32_w]
                  rfl
                 refine pure_ (i := 16) (N := some 112) (v := ?_) (a' := ?_) #[true, true, true, true, true, true, true, true, true, true, true, true, true, true, true, true, true, false, false, false, false] rfl rfl (any_of HT_.out (by kernel_rfl)) (fun _ _ _ h => h) (Or.inl ⟨by rfl, ?_⟩) ?_ ?_
                 rotate_left
                 ·intro w'
                  go_simp
                  with_reducible rfl
                 rotate_left
                 ·simp only [Act.put, List.setIfInBounds_toArray, List.set_cons_zero, List.set_cons_succ, i64_w, i32_w]
                  rfl
                 refine one_ (i := 17) (N := some 113) #[true, true, true, true, true, true, true, true, true, true, true, true, true, true, true, true, true, true, false, false, false] rfl rfl (one_of HT_.out (by kernel_rfl)) (by decide) (fun K hK => ?_)
                 refine value_ (w1 := ?_) (v := ?_) (by rfl) rfl ?_ ?_
                 rotate_left 2
                 ·go_simp
                  constructor
                  ·rfl
                  ·rfl
                 refine hK.out _ _ ⟨(blk_cell (bA Q05.out _) 0).trans rfl, (blk_cell (bA Q05.out _) 1).trans rfl, (blk_cell (bA Q0b.out _) 0).trans rfl, (blk_cell (bA Q0b.out _) 1).trans rfl, (blk_cell (bA Q0b.out _) 2).trans rfl, (blk_cell (bA Q0c.out _) 0).trans rfl, (blk_cell (bA Q0c.out _) 1).trans rfl, (blk_cell (bA Q0c.out _) 2).trans rfl⟩ (fun hHeld => ?_)
                 clear hK K
                 refine norm_ (a' := ?_) ?_ ?_
                 rotate_left
                 ·show Act.put _ (some 113) _ = _
                  simp only [Act.put, List.setIfInBounds_toArray, List.set_cons_zero, List.set_cons_succ, i64_w, i32_w]
                  rfl
                 refine one_ (i := 18) (N := some 114) #[true, true, true, true, true, true, true, true, true, true, true, true, true, true, true, true, true, true, true, false, false] rfl rfl (one_of HT_.out (by kernel_rfl)) (by decide) (fun K hK => ?_)
                 refine Kd.R_append_step k94 (w0 := w) w.heap.size (by rfl) (.tmp 97) (.tmp 113) 23 94 (.agg #[(.int .i64 0), (.int .i64 0), (.int .i64 0)]) 24 rfl Try.underlying23 info94 rfl (by decide) (by omega) u113001 x113001_3 (⟨(rd_T94 l0_1 ((rd_T79 t109 x11_3).f0)).f0, t124, t125⟩ : S94) [.int .i64 ((rd_T94 l0_1 ((rd_T79 t109 x11_3).f0)).f0), .int .i64 t124, .int .i64 t125] (fun k_ => k_ ≠ Q06 ∧ k_ ≠ Q07) (fun _ => False) rfl rfl ?aP (fun _ hk => hk.elim) ?aF ?aO ?aB ?aS ?aL ?_
                 (case aP => exact k94_mkM _ _ _ (⟨(rd_T94 l0_1 ((rd_T79 t109 x11_3).f0)).f0, t124, t125⟩ : S94))
                 (case aB => exact (pH HB))
                 (case aF => exact (fun k_ hk => ⟨Kd.freshB (g := Q06) (o := .cells #[.int .i64 ((rd_T94 l0_1 ((rd_T79 t109 x11_3).f0)).f0), .int .i64 ((rd_T94 l0_1 ((rd_T79 t109 x11_3).f0)).f1), .int .i64 ((rd_T94 l0_1 ((rd_T79 t109 x11_3).f0)).f2)] 94 (0, 0)) (pB Q0b) k_ hk, Kd.freshB (g := Q07) (o := .cells #[.int .i64 ((rd_T94 l0_3 ((rd_T79 t109 x11_3).f1)).f0), .int .i64 ((rd_T94 l0_3 ((rd_T79 t109 x11_3).f1)).f1), .int .i64 ((rd_T94 l0_3 ((rd_T79 t109 x11_3).f1)).f2)] 94 (0, 0)) (pB Q0c) k_ hk⟩))
                 (case aO => exact (pR Q0d))
                 (case aS => exact (below_size (pH HB)))
                 (case aL => have := LMc53.out; omega)
                 intro v127 w67 ho hb hg hat
                 rw [← Ny126.out] at ho
                 replace Q09 := Aside0.mk (Kd.R_over' (pR Q09) (Kd.R_typed (pR Q0d)) (by decide) hg)
                 replace Q08 := Aside0.mk (Kd.R_over' (pR Q08) (Kd.R_typed (pR Q0d)) (by decide) hg)
                 replace Q0a := Aside0.mk (Kd.R_over' (pR Q0a) (Kd.R_typed (pR Q0d)) (by decide) hg)
                 replace Q00 := Aside0.mk (bG (g := Q04) (o := .cells #[.slice A0_0 l0_0.length c0_0, .slice (some ad119) l0_1.length c0_1, .slice A0_2 l0_2.length c0_2, .slice (some ad121) l0_3.length c0_3, .slice A0_4 l0_4.length c0_4, .slice A0_5 l0_5.length c0_5, .slice A0_6 l0_6.length c0_6, .slice A0_7 l0_7.length c0_7, .slice A0_8 l0_8.length c0_8, .slice A0_9 l0_9.length c0_9] 29 (0, 0)) (pB Q00) hg (Kd.R_ne Q0d.out Q00.out (by decide)))
                 replace Q01 := Aside0.mk (bG (g := Q0i) (o := .cells #[.slice none 0 0, .slice none 0 0] 25 (0, 0)) (pB Q01) hg (Kd.R_ne Q0d.out Q01.out (by decide)))
                 replace Q02 := Aside0.mk (bG (g := Q0j) (o := .cells #[.slice none 0 0, .slice none 0 0] 27 (0, 0)) (pB Q02) hg (Kd.R_ne Q0d.out Q02.out (by decide)))
                 replace Q03 := Aside0.mk (bG (g := Q0k) (o := .cells #[.slice none 0 0, .slice none 0 0] 27 (0, 0)) (pB Q03) hg (Kd.R_ne Q0d.out Q03.out (by decide)))
                 replace Q05 := Aside0.mk (bG (g := Q0r) (o := .cells #[u113000, u113001] 25 (0, 0)) (pB Q05) hg (Kd.R_ne Q0d.out Q05.out (by decide)))
                 replace Q0b := Aside0.mk (bG (g := Q06) (o := .cells #[.int .i64 ((rd_T94 l0_1 ((rd_T79 t109 x11_3).f0)).f0), .int .i64 ((rd_T94 l0_1 ((rd_T79 t109 x11_3).f0)).f1), .int .i64 ((rd_T94 l0_1 ((rd_T79 t109 x11_3).f0)).f2)] 94 (0, 0)) (pB Q0b) hg (Kd.R_away Q0d.out (fun _ hk => hk.1)))
                 replace Q0c := Aside0.mk (bG (g := Q07) (o := .cells #[.int .i64 ((rd_T94 l0_3 ((rd_T79 t109 x11_3).f1)).f0), .int .i64 ((rd_T94 l0_3 ((rd_T79 t109 x11_3).f1)).f1), .int .i64 ((rd_T94 l0_3 ((rd_T79 t109 x11_3).f1)).f2)] 94 (0, 0)) (pB Q0c) hg (Kd.R_away Q0d.out (fun _ hk => hk.2)))
                 replace HB := Aside0.mk (hb)
                 have Q47 := Aside0.mk (ho)
                 clear Q0d
                 clear ho hb hg hat
                 obtain ⟨Q2i, Q2j, Q48⟩ := Kd.R_slice Q47.out
                 (first | subst Q48 | (injection Q48 with f1_ f2_ f3_; have f4_ := f1_.symm; have f5_ := f3_.symm; clear f1_ f2_ f3_; subst f4_; subst f5_))
                 refine hK.out _ _ ⟨bC Q05 0, bC Q05 1, bC Q0b 0, bC Q0b 1, bC Q0b 2, bC Q0c 0, bC Q0c 1, bC Q0c 2⟩ (fun hHeld => ?_)
                 clear hK K
                 refine norm_ (a' := ?_) ?_ ?_
                 rotate_left
                 ·show Act.put _ (some 114) _ = _
                  simp only [Act.put, List.setIfInBounds_toArray, List.set_cons_zero, List.set_cons_succ, i64_w, i32_w]
                  rfl
                 refine pure_ (i := 19) (N := some 115) (v := ?_) (a' := ?_) #[true, true, true, true, true, true, true, true, true, true, true, true, true, true, true, true, true, true, true, true, false] rfl rfl (any_of HT_.out (by kernel_rfl)) (fun _ _ _ h => h) (Or.inl ⟨by rfl, ?_⟩) ?_ ?_
                 rotate_left
                 ·intro w'
                  go_simp
                  with_reducible rfl
                 rotate_left
                 ·simp only [Act.put, List.setIfInBounds_toArray, List.set_cons_zero, List.set_cons_succ, i64_w, i32_w]
                  rfl
                 refine last_ (i := 20) (N := none) #[true, true, true, true, true, true, true, true, true, true, true, true, true, true, true, true, true, true, true, true, true] rfl rfl (one_of HT_.out (by kernel_rfl)) (by decide) (fun K hK => ?_)
                 have Q8b : w67.cell? ⟨Q0r, 1, none⟩ = some (u113001) := bC Q05 1
                 have Q8c := blk_frozen Q05.out 1
                 have Q8d := Q2u.out
                 have Q8e := Q2e.out
                 have Q8f := Q2f.out
                 have Q8g := Q2g.out
                 have Q8h := Q1n.out
                 have Q8i := Q1o.out
                 have Q8j := Q44.out
                 have Q8k := Q1k.out
                 have Q8l := Q1l.out
                 have Q8m := Q1m.out
                 have Q8n := Q1a.out
                 have Q8o := Q1b.out
                 refine skip_ (w1 := ?_) (by rfl) rfl ?_ ?_
                 rotate_left
                 ·go_simp
                  rfl
                 refine hK.out _ _ ?_
                 clear hK K
                 refine done_ (done_of HT_.out (by kernel_rfl)) ?_
                 try go_wp2
                 go_roundg k3
                 case measure => have := HJ5.out; have := HK2.out; have := HK3.out; omega
                 case rel => exact ⟨(wrap64 (x11_3 + 1)), (y126), (.slice Q2i y126.length Q2j), rS, H', ⟨by have := HJ5.out; have := HK2.out; have := HK3.out; omega⟩, ⟨by (with_reducible repeat (first | apply rA | apply rN | apply rD)); exact Kd.R_mono (Kd.R_far (p := ⟨Q0r, 1, none⟩) (Kd.R_types Q09.out Q05.out (by decide)) (fun _ hk => hk.2) (.slice Q2i y126.length Q2j)) (fun _ hk => hk.1)⟩, ⟨by (with_reducible repeat (first | apply rA | apply rN | apply rD)); exact Kd.R_mono (Kd.R_far (p := ⟨Q0r, 1, none⟩) (Kd.R_types Q08.out Q05.out (by decide)) (fun _ hk => hk.2) (.slice Q2i y126.length Q2j)) (fun _ hk => hk.1)⟩, ⟨by (with_reducible repeat (first | apply rA | apply rN | apply rD)); exact Kd.R_mono (Kd.R_far (p := ⟨Q0r, 1, none⟩) (Kd.R_types Q0a.out Q05.out (by decide)) (fun _ hk => hk.2) (.slice Q2i y126.length Q2j)) (fun _ hk => trivial)⟩, ⟨by (with_reducible repeat (first | apply rA | apply rN | apply rD)); exact Kd.R_mono (Kd.R_far (p := ⟨Q0r, 1, none⟩) (Kd.R_types Q47.out Q05.out (by decide)) (fun _ hk => hk.2) (.slice Q2i y126.length Q2j)) (fun _ hk => trivial)⟩, ⟨by (with_reducible repeat (first | refine bN ?_ _ | refine bD ?_ | refine bA ?_ _)); refine blk_far ?_ Q2u.out _; (with_reducible repeat (first | refine bN ?_ _ | refine bD ?_ | refine bA ?_ _)); exact Q00.out⟩, ⟨by (with_reducible repeat (first | refine bN ?_ _ | refine bD ?_ | refine bA ?_ _)); refine blk_far ?_ Q2e.out _; (with_reducible repeat (first | refine bN ?_ _ | refine bD ?_ | refine bA ?_ _)); exact Q01.out⟩, ⟨by (with_reducible repeat (first | refine bN ?_ _ | refine bD ?_ | refine bA ?_ _)); refine blk_far ?_ Q2f.out _; (with_reducible repeat (first | refine bN ?_ _ | refine bD ?_ | refine bA ?_ _)); exact Q02.out⟩, ⟨by (with_reducible repeat (first | refine bN ?_ _ | refine bD ?_ | refine bA ?_ _)); refine blk_far ?_ Q2g.out _; (with_reducible repeat (first | refine bN ?_ _ | refine bD ?_ | refine bA ?_ _)); exact Q03.out⟩, ⟨by (with_reducible repeat (first | refine bN ?_ _ | refine bD ?_ | refine bA ?_ _)); refine blk_put (cs := #[u113000, u113001]) ?_ 1 _ rfl; (with_reducible repeat (first | refine bN ?_ _ | refine bD ?_ | refine bA ?_ _)); exact Q05.out⟩, ⟨pH HB⟩⟩
                ·rw [if_neg c53] at H
                 exact absurd H (by simp)
               ·rw [if_neg c50] at H
                exact absurd H (by simp)
              ·rw [if_neg c49] at H
               exact absurd H (by simp)
             ·rw [if_neg c48] at H
              exact absurd H (by simp)
            ·rw [if_neg c47] at H
             exact absurd H (by simp)
           ·rw [if_neg c46] at H
            exact absurd H (by simp)
          ·rw [if_neg c45] at H
           have c45b0 : decide (x11_3 < (t109.length : Int)) = false := decide_eq_false c45
           clear c45
           replace H := Option.bind_eq_some_iff.mp H
           obtain ⟨⟨t131, t132⟩, A700, H⟩ := H
           replace H : ((scarfjointref11_sides.f k3 t109).bind fun bt137 => (some (x113000_2, x113001_3, t131, bt137.1, t132, bt137.2, 0))) = some (r1, r2, r3, r4, r5, r6, r7) := H
           have A70 := Aside0.mk A700
           clear A700
           replace H := Option.bind_eq_some_iff.mp H
           obtain ⟨⟨t137, t138⟩, A710, H⟩ := H
           replace H : (some (x113000_2, x113001_3, t131, t137, t132, t138, 0)) = some (r1, r2, r3, r4, r5, r6, r7) := H
           have A71 := Aside0.mk A710
           clear A710
           simp only [Option.some.injEq, Prod.mk.injEq] at H
           obtain ⟨rfl, rfl, rfl, rfl, rfl, rfl, rfl⟩ := H
           obtain ⟨Q3l, Q2z, Q4m⟩ := Kd.R_slice Q08.out
           subst Q4m
           try go_wp2_with (first | ((with_reducible refine gate_dst (N := 14) rfl ?_); (try (refine gate_guard (by rfl) ?_; dsimp only)); refine box_event ?hg (N := 14) ?hd (cs := #[.slice none 0 0, .slice none 0 0]) (t := 27) ?hr ?_; (case hd => rfl); (case hg => rfl); (case hr => first | (go_simp; done) | (go_simp; rfl)); intro Q0e hg w73 hbox hb; replace Q09 := uR Q09 hb; replace Q08 := uR Q08 hb; replace Q0a := uR Q0a hb; replace Q0d := uR Q0d hb; have Q0g := Aside0.mk (hbox); have Q8p := uS HB hg; have Q4n := uS HB hg; replace HB := uH HB hb; have Q3m := uL Q00 hg; have Q4o := uG Q00 hg; replace Q00 := uB Q00 hb; have Q2k := uL Q01 hg; have Q22 := uG Q01 hg; replace Q01 := uB Q01 hb; have Q2l := uL Q02 hg; have Q23 := uG Q02 hg; replace Q02 := uB Q02 hb; have Q2m := uL Q03 hg; have Q24 := uG Q03 hg; replace Q03 := uB Q03 hb; have Q3n := uL Q05 hg; have Q4p := uG Q05 hg; replace Q05 := uB Q05 hb; clear hb hbox hg) | ((with_reducible refine gate_dst (N := 15) rfl ?_); (try (refine gate_guard (by rfl) ?_; dsimp only)); refine box_event ?hg (N := 15) ?hd (cs := #[.slice none 0 0, .slice none 0 0]) (t := 27) ?hr ?_; (case hd => rfl); (case hg => rfl); (case hr => first | (go_simp; done) | (go_simp; rfl)); intro Q0f hg w74 hbox hb; replace Q09 := uR Q09 hb; replace Q08 := uR Q08 hb; replace Q0a := uR Q0a hb; replace Q0d := uR Q0d hb; have Q0h := Aside0.mk (hbox); have Q8q := uS HB hg; have Q4q := uS HB hg; replace HB := uH HB hb; have Q3o := uL Q00 hg; have Q4r := uG Q00 hg; replace Q00 := uB Q00 hb; have Q2n := uL Q01 hg; have Q25 := uG Q01 hg; replace Q01 := uB Q01 hb; have Q2o := uL Q02 hg; have Q26 := uG Q02 hg; replace Q02 := uB Q02 hb; have Q2p := uL Q03 hg; have Q27 := uG Q03 hg; replace Q03 := uB Q03 hb; have Q3p := uL Q05 hg; have Q4s := uG Q05 hg; replace Q05 := uB Q05 hb; have Q3q := uL Q0g hg; have Q3r := uG Q0g hg; replace Q0g := uB Q0g hb; clear hb hbox hg) | ((with_reducible refine gate_callee (f := 71) rfl ?_); refine goesL_ (some 118) rfl rfl Try.func71 (by kernel_rfl) rfl #[.slice Q0y t106.length Q0z] rfl aM ?_; (with_reducible refine (scarfjointref11_sides.calls k3 _ _ t106 t131 t132 _ ?side1 ?side2 A70.out).mono ?_); (case side1 => exact cX (Kd.R_reads' Q09.out).2.2); (case side2 => exact (Kd.R_reads' Q09.out).2.1); rintro e w75 ⟨v133, v135, rfl, ho0, ho1, hb⟩; refine ⟨_, rfl, ?_⟩; replace Q09 := uR Q09 hb; replace Q08 := uR Q08 hb; replace Q0d := uR Q0d hb; have Q18 := Aside0.mk (Kd.R_lower (Kd.R_new' ho0 (Kd.R_lt (pR Q0a))) (below_size (pH HB))); have Q19 := Aside0.mk (Kd.R_lower (Kd.R_new' ho1 (Kd.R_lt (pR Q0a))) (below_size (pH HB))); replace Q0a := Aside0.mk (Kd.R_mono (Kd.R_told (Kd.R_told (Kd.R_old (pR Q0a) hb) (Kd.R_base ho0)) (Kd.R_base ho1)) (fun _ h_ => h_.1)); replace Q00 := uB Q00 hb; replace Q01 := uB Q01 hb; replace Q02 := uB Q02 hb; replace Q03 := uB Q03 hb; replace Q05 := uB Q05 hb; replace Q0g := uB Q0g hb; replace Q0h := uB Q0h hb; replace HB := uH HB hb; (try clear hb); (try clear hb2); (try clear hk); (try clear hi); (try clear ho0); (try clear ho1); obtain ⟨Q0s, Q0t, Q4t⟩ := Kd.R_slice Q18.out; subst Q4t; have Q8r := Q4o.out; have Q8s := Q3m.out; have Q8t := Q22.out; have Q8u := Q2k.out; have Q8v := Q23.out; have Q8w := Q2l.out; have Q8x := Q24.out; have Q8y := Q2m.out; have Q8z := Q4p.out; have Q90 := Q3n.out; have Q91 := Q3q.out; have Q92 := Q3r.out; have Q93 : w75.cell? ⟨Q0e, 0, none⟩ = some (.slice none 0 0) := bC Q0g 0; have Q94 : w75.cell? ⟨Q0e, 1, none⟩ = some (.slice none 0 0) := bC Q0g 1; have Q95 := blk_frozen Q0g.out 0; have Q96 := blk_frozen Q0g.out 1; obtain ⟨Q0u, Q0v, Q4u⟩ := Kd.R_slice Q19.out; subst Q4u; have Q97 := Q4r.out; have Q98 := Q3o.out; have Q99 := Q25.out; have Q9a := Q2n.out; have Q9b := Q26.out; have Q9c := Q2o.out; have Q9d := Q27.out; have Q9e := Q2p.out; have Q9f := Q4s.out; have Q9g := Q3p.out; have Q9h : w75.cell? ⟨Q0f, 0, none⟩ = some (.slice none 0 0) := bC Q0h 0; have Q9i : w75.cell? ⟨Q0f, 1, none⟩ = some (.slice none 0 0) := bC Q0h 1; have Q9j := blk_frozen Q0h.out 0; have Q9k := blk_frozen Q0h.out 1) | ((with_reducible refine gate_callee (f := 71) rfl ?_); refine goesL_ (some 125) rfl rfl Try.func71 (by kernel_rfl) rfl #[.slice Q3l t109.length Q2z] rfl aM ?_; (with_reducible refine (scarfjointref11_sides.calls k3 _ _ t109 t137 t138 _ ?side1 ?side2 A71.out).mono ?_); (case side1 => refine (Kd.R_reads' (e := 79) (base := w.heap.size) (ok := fun k_ => some k_ ≠ (.slice Q0y t106.length Q0z : Value).ownBlock) (n := t109.length) (c := Q2z) ?_).2.2; exact (by (with_reducible repeat (first | apply rA | apply rN | apply rD)); exact (Kd.R_mono (Kd.R_mono (Kd.R_far (p := ⟨Q0f, 0, none⟩) (Kd.R_far (p := ⟨Q0e, 0, none⟩) (Kd.R_types (Kd.R_types Q08.out Q0g.out (by decide)) Q0h.out (by decide)) (fun _ hk => hk.1.2) (.slice Q0s t131.length Q0t)) (fun _ hk => hk.2) (.slice Q0u t132.length Q0v)) (fun _ h_ => h_.1)) (fun _ h_ => h_.1)))); (case side2 => exact (Kd.R_reads' Q08.out).2.1); rintro e w91 ⟨v139, v141, rfl, ho0, ho1, hb⟩; refine ⟨_, rfl, ?_⟩; replace Q09 := Aside0.mk (rB (by (with_reducible repeat (first | apply rA | apply rN | apply rD)); exact (Kd.R_mono (Kd.R_mono (Kd.R_far (p := ⟨Q0f, 0, none⟩) (Kd.R_far (p := ⟨Q0e, 0, none⟩) (Kd.R_types (Kd.R_types Q09.out Q0g.out (by decide)) Q0h.out (by decide)) (fun _ hk => hk.1.2) (.slice Q0s t131.length Q0t)) (fun _ hk => hk.2) (.slice Q0u t132.length Q0v)) (fun _ h_ => h_.1)) (fun _ h_ => h_.1))) hb); replace Q08 := Aside0.mk (rB (by (with_reducible repeat (first | apply rA | apply rN | apply rD)); exact (Kd.R_mono (Kd.R_mono (Kd.R_far (p := ⟨Q0f, 0, none⟩) (Kd.R_far (p := ⟨Q0e, 0, none⟩) (Kd.R_types (Kd.R_types Q08.out Q0g.out (by decide)) Q0h.out (by decide)) (fun _ hk => hk.1.2) (.slice Q0s t131.length Q0t)) (fun _ hk => hk.2) (.slice Q0u t132.length Q0v)) (fun _ h_ => h_.1)) (fun _ h_ => h_.1))) hb); replace Q0d := Aside0.mk (rB (by (with_reducible repeat (first | apply rA | apply rN | apply rD)); exact (Kd.R_mono (Kd.R_mono (Kd.R_far (p := ⟨Q0f, 0, none⟩) (Kd.R_far (p := ⟨Q0e, 0, none⟩) (Kd.R_types (Kd.R_types Q0d.out Q0g.out (by decide)) Q0h.out (by decide)) (fun _ hk => hk.1.2) (.slice Q0s t131.length Q0t)) (fun _ hk => hk.2) (.slice Q0u t132.length Q0v)) (fun _ h_ => h_.1)) (fun _ h_ => h_.1))) hb); have Q1p := Aside0.mk (Kd.R_lower (Kd.R_new' (Kd.R_new' (Kd.R_new' ho0 (Kd.R_lt (by (with_reducible repeat (first | apply rA | apply rN | apply rD)); exact (Kd.R_mono (Kd.R_mono (Kd.R_far (p := ⟨Q0f, 0, none⟩) (Kd.R_far (p := ⟨Q0e, 0, none⟩) (Kd.R_types (Kd.R_types Q0a.out Q0g.out (by decide)) Q0h.out (by decide)) (fun _ hk => hk.1.2) (.slice Q0s t131.length Q0t)) (fun _ hk => hk.2) (.slice Q0u t132.length Q0v)) (fun _ h_ => h_.1)) (fun _ h_ => h_.1))))) (Kd.R_lt (by (with_reducible repeat (first | apply rA | apply rN | apply rD)); exact (Kd.R_mono (Kd.R_mono (Kd.R_far (p := ⟨Q0f, 0, none⟩) (Kd.R_far (p := ⟨Q0e, 0, none⟩) (Kd.R_types (Kd.R_types Q18.out Q0g.out (by decide)) Q0h.out (by decide)) (fun _ hk => hk.1.2) (.slice Q0s t131.length Q0t)) (fun _ hk => hk.2) (.slice Q0u t132.length Q0v)) (fun _ h_ => h_.1)) (fun _ h_ => h_.1))))) (Kd.R_lt (by (with_reducible repeat (first | apply rA | apply rN | apply rD)); exact (Kd.R_mono (Kd.R_mono (Kd.R_far (p := ⟨Q0f, 0, none⟩) (Kd.R_far (p := ⟨Q0e, 0, none⟩) (Kd.R_types (Kd.R_types Q19.out Q0g.out (by decide)) Q0h.out (by decide)) (fun _ hk => hk.1.2) (.slice Q0s t131.length Q0t)) (fun _ hk => hk.2) (.slice Q0u t132.length Q0v)) (fun _ h_ => h_.1)) (fun _ h_ => h_.1))))) (below_size (pH HB))); have Q1q := Aside0.mk (Kd.R_lower (Kd.R_new' (Kd.R_new' (Kd.R_new' ho1 (Kd.R_lt (by (with_reducible repeat (first | apply rA | apply rN | apply rD)); exact (Kd.R_mono (Kd.R_mono (Kd.R_far (p := ⟨Q0f, 0, none⟩) (Kd.R_far (p := ⟨Q0e, 0, none⟩) (Kd.R_types (Kd.R_types Q0a.out Q0g.out (by decide)) Q0h.out (by decide)) (fun _ hk => hk.1.2) (.slice Q0s t131.length Q0t)) (fun _ hk => hk.2) (.slice Q0u t132.length Q0v)) (fun _ h_ => h_.1)) (fun _ h_ => h_.1))))) (Kd.R_lt (by (with_reducible repeat (first | apply rA | apply rN | apply rD)); exact (Kd.R_mono (Kd.R_mono (Kd.R_far (p := ⟨Q0f, 0, none⟩) (Kd.R_far (p := ⟨Q0e, 0, none⟩) (Kd.R_types (Kd.R_types Q18.out Q0g.out (by decide)) Q0h.out (by decide)) (fun _ hk => hk.1.2) (.slice Q0s t131.length Q0t)) (fun _ hk => hk.2) (.slice Q0u t132.length Q0v)) (fun _ h_ => h_.1)) (fun _ h_ => h_.1))))) (Kd.R_lt (by (with_reducible repeat (first | apply rA | apply rN | apply rD)); exact (Kd.R_mono (Kd.R_mono (Kd.R_far (p := ⟨Q0f, 0, none⟩) (Kd.R_far (p := ⟨Q0e, 0, none⟩) (Kd.R_types (Kd.R_types Q19.out Q0g.out (by decide)) Q0h.out (by decide)) (fun _ hk => hk.1.2) (.slice Q0s t131.length Q0t)) (fun _ hk => hk.2) (.slice Q0u t132.length Q0v)) (fun _ h_ => h_.1)) (fun _ h_ => h_.1))))) (below_size (pH HB))); replace Q0a := Aside0.mk (Kd.R_mono (Kd.R_told (Kd.R_told (Kd.R_old (by (with_reducible repeat (first | apply rA | apply rN | apply rD)); exact (Kd.R_mono (Kd.R_mono (Kd.R_far (p := ⟨Q0f, 0, none⟩) (Kd.R_far (p := ⟨Q0e, 0, none⟩) (Kd.R_types (Kd.R_types Q0a.out Q0g.out (by decide)) Q0h.out (by decide)) (fun _ hk => hk.1.2) (.slice Q0s t131.length Q0t)) (fun _ hk => hk.2) (.slice Q0u t132.length Q0v)) (fun _ h_ => h_.1)) (fun _ h_ => h_.1))) hb) (Kd.R_base ho0)) (Kd.R_base ho1)) (fun _ h_ => h_.1)); replace Q18 := Aside0.mk (Kd.R_mono (Kd.R_told (Kd.R_told (Kd.R_old (by (with_reducible repeat (first | apply rA | apply rN | apply rD)); exact (Kd.R_mono (Kd.R_mono (Kd.R_far (p := ⟨Q0f, 0, none⟩) (Kd.R_far (p := ⟨Q0e, 0, none⟩) (Kd.R_types (Kd.R_types Q18.out Q0g.out (by decide)) Q0h.out (by decide)) (fun _ hk => hk.1.2) (.slice Q0s t131.length Q0t)) (fun _ hk => hk.2) (.slice Q0u t132.length Q0v)) (fun _ h_ => h_.1)) (fun _ h_ => h_.1))) hb) (Kd.R_base ho0)) (Kd.R_base ho1)) (fun _ h_ => h_.1)); replace Q19 := Aside0.mk (Kd.R_mono (Kd.R_told (Kd.R_told (Kd.R_old (by (with_reducible repeat (first | apply rA | apply rN | apply rD)); exact (Kd.R_mono (Kd.R_mono (Kd.R_far (p := ⟨Q0f, 0, none⟩) (Kd.R_far (p := ⟨Q0e, 0, none⟩) (Kd.R_types (Kd.R_types Q19.out Q0g.out (by decide)) Q0h.out (by decide)) (fun _ hk => hk.1.2) (.slice Q0s t131.length Q0t)) (fun _ hk => hk.2) (.slice Q0u t132.length Q0v)) (fun _ h_ => h_.1)) (fun _ h_ => h_.1))) hb) (Kd.R_base ho0)) (Kd.R_base ho1)) (fun _ h_ => h_.1)); replace Q00 := Aside0.mk (bB (g := Q04) (o := .cells #[.slice A0_0 l0_0.length c0_0, .slice A0_1 l0_1.length c0_1, .slice A0_2 l0_2.length c0_2, .slice A0_3 l0_3.length c0_3, .slice A0_4 l0_4.length c0_4, .slice A0_5 l0_5.length c0_5, .slice A0_6 l0_6.length c0_6, .slice A0_7 l0_7.length c0_7, .slice A0_8 l0_8.length c0_8, .slice A0_9 l0_9.length c0_9] 29 (0, 0)) (by (with_reducible repeat (first | refine bN ?_ _ | refine bD ?_ | refine bA ?_ _)); refine blk_far ?_ Q3o.out _; (with_reducible repeat (first | refine bN ?_ _ | refine bD ?_ | refine bA ?_ _)); refine blk_far ?_ Q3m.out _; (with_reducible repeat (first | refine bN ?_ _ | refine bD ?_ | refine bA ?_ _)); exact Q00.out) hb); replace Q01 := Aside0.mk (bB (g := Q0i) (o := .cells #[.slice none 0 0, .slice none 0 0] 25 (0, 0)) (by (with_reducible repeat (first | refine bN ?_ _ | refine bD ?_ | refine bA ?_ _)); refine blk_far ?_ Q2n.out _; (with_reducible repeat (first | refine bN ?_ _ | refine bD ?_ | refine bA ?_ _)); refine blk_far ?_ Q2k.out _; (with_reducible repeat (first | refine bN ?_ _ | refine bD ?_ | refine bA ?_ _)); exact Q01.out) hb); replace Q02 := Aside0.mk (bB (g := Q0j) (o := .cells #[.slice none 0 0, .slice none 0 0] 27 (0, 0)) (by (with_reducible repeat (first | refine bN ?_ _ | refine bD ?_ | refine bA ?_ _)); refine blk_far ?_ Q2o.out _; (with_reducible repeat (first | refine bN ?_ _ | refine bD ?_ | refine bA ?_ _)); refine blk_far ?_ Q2l.out _; (with_reducible repeat (first | refine bN ?_ _ | refine bD ?_ | refine bA ?_ _)); exact Q02.out) hb); replace Q03 := Aside0.mk (bB (g := Q0k) (o := .cells #[.slice none 0 0, .slice none 0 0] 27 (0, 0)) (by (with_reducible repeat (first | refine bN ?_ _ | refine bD ?_ | refine bA ?_ _)); refine blk_far ?_ Q2p.out _; (with_reducible repeat (first | refine bN ?_ _ | refine bD ?_ | refine bA ?_ _)); refine blk_far ?_ Q2m.out _; (with_reducible repeat (first | refine bN ?_ _ | refine bD ?_ | refine bA ?_ _)); exact Q03.out) hb); replace Q05 := Aside0.mk (bB (g := Q0r) (o := .cells #[u113000, u113001] 25 (0, 0)) (by (with_reducible repeat (first | refine bN ?_ _ | refine bD ?_ | refine bA ?_ _)); refine blk_far ?_ Q3p.out _; (with_reducible repeat (first | refine bN ?_ _ | refine bD ?_ | refine bA ?_ _)); refine blk_far ?_ Q3n.out _; (with_reducible repeat (first | refine bN ?_ _ | refine bD ?_ | refine bA ?_ _)); exact Q05.out) hb); replace Q0g := Aside0.mk (bB (g := Q0e) (o := .cells #[.slice Q0s t131.length Q0t, .slice none 0 0] 27 (0, 0)) (by (with_reducible repeat (first | refine bN ?_ _ | refine bD ?_ | refine bA ?_ _)); refine blk_far ?_ Q3q.out _; (with_reducible repeat (first | refine bN ?_ _ | refine bD ?_ | refine bA ?_ _)); refine blk_put (cs := #[.slice none 0 0, .slice none 0 0]) ?_ 0 _ rfl; (with_reducible repeat (first | refine bN ?_ _ | refine bD ?_ | refine bA ?_ _)); exact Q0g.out) hb); replace Q0h := Aside0.mk (bB (g := Q0f) (o := .cells #[.slice Q0u t132.length Q0v, .slice none 0 0] 27 (0, 0)) (by (with_reducible repeat (first | refine bN ?_ _ | refine bD ?_ | refine bA ?_ _)); refine blk_put (cs := #[.slice none 0 0, .slice none 0 0]) ?_ 0 _ rfl; (with_reducible repeat (first | refine bN ?_ _ | refine bD ?_ | refine bA ?_ _)); refine blk_far ?_ Q3r.out _; (with_reducible repeat (first | refine bN ?_ _ | refine bD ?_ | refine bA ?_ _)); exact Q0h.out) hb); replace HB := uH HB hb; (try clear hb); (try clear hb2); (try clear hk); (try clear hi); (try clear ho0); (try clear ho1); obtain ⟨Q0n, Q0o, Q4v⟩ := Kd.R_slice Q1p.out; subst Q4v; have Q9l : w91.cell? ⟨Q0e, 0, none⟩ = some (.slice Q0s t131.length Q0t) := bC Q0g 0; have Q9m : w91.cell? ⟨Q0e, 1, none⟩ = some (.slice none 0 0) := bC Q0g 1; have Q9n := blk_frozen Q0g.out 0; have Q9o := blk_frozen Q0g.out 1; obtain ⟨Q0p, Q0q, Q4w⟩ := Kd.R_slice Q1q.out; subst Q4w; have Q9p : w91.cell? ⟨Q0f, 0, none⟩ = some (.slice Q0u t132.length Q0v) := bC Q0h 0; have Q9q : w91.cell? ⟨Q0f, 1, none⟩ = some (.slice none 0 0) := bC Q0h 1; have Q9r := blk_frozen Q0h.out 0; have Q9s := blk_frozen Q0h.out 1))
           have n0_ : Aside0 (Kd.R k79 79 ((w91.setCell ⟨Q0e, 1, none⟩ (.slice Q0n t137.length Q0o)).setCell ⟨Q0f, 1, none⟩ (.slice Q0p t138.length Q0q)) w.heap.size (fun k_ => some k_ ≠ (.slice Q3l t109.length Q2z : Value).ownBlock) (.slice Q0y t106.length Q0z) t106) := ⟨by (with_reducible repeat (first | apply rA | apply rN | apply rD)); exact Kd.R_mono (Kd.R_far (p := ⟨Q0f, 1, none⟩) (Kd.R_far (p := ⟨Q0e, 1, none⟩) (Kd.R_types (Kd.R_types Q09.out Q0g.out (by decide)) Q0h.out (by decide)) (fun _ hk => hk.1.2) (.slice Q0n t137.length Q0o)) (fun _ hk => hk.2) (.slice Q0p t138.length Q0q)) (fun _ hk => hk.1.1)⟩
           have n1_ : Aside0 (Kd.R k79 79 ((w91.setCell ⟨Q0e, 1, none⟩ (.slice Q0n t137.length Q0o)).setCell ⟨Q0f, 1, none⟩ (.slice Q0p t138.length Q0q)) w.heap.size (fun k_ => some k_ ≠ (.slice Q0y t106.length Q0z : Value).ownBlock) (.slice Q3l t109.length Q2z) t109) := ⟨by (with_reducible repeat (first | apply rA | apply rN | apply rD)); exact Kd.R_mono (Kd.R_far (p := ⟨Q0f, 1, none⟩) (Kd.R_far (p := ⟨Q0e, 1, none⟩) (Kd.R_types (Kd.R_types Q08.out Q0g.out (by decide)) Q0h.out (by decide)) (fun _ hk => hk.1.2) (.slice Q0n t137.length Q0o)) (fun _ hk => hk.2) (.slice Q0p t138.length Q0q)) (fun _ hk => hk.1.1)⟩
           have n2_ : Aside0 (Kd.R (Kd.int .i64) 3 ((w91.setCell ⟨Q0e, 1, none⟩ (.slice Q0n t137.length Q0o)).setCell ⟨Q0f, 1, none⟩ (.slice Q0p t138.length Q0q)) w.heap.size (fun k_ => some k_ ≠ (.slice Q0s t131.length Q0t : Value).ownBlock ∧ some k_ ≠ (.slice Q0u t132.length Q0v : Value).ownBlock ∧ some k_ ≠ (.slice Q0n t137.length Q0o : Value).ownBlock ∧ some k_ ≠ (.slice Q0p t138.length Q0q : Value).ownBlock) u113000 x113000_2) := ⟨by (with_reducible repeat (first | apply rA | apply rN | apply rD)); exact Kd.R_mono (Kd.R_far (p := ⟨Q0f, 1, none⟩) (Kd.R_far (p := ⟨Q0e, 1, none⟩) (Kd.R_types (Kd.R_types Q0a.out Q0g.out (by decide)) Q0h.out (by decide)) (fun _ hk => hk.1.2) (.slice Q0n t137.length Q0o)) (fun _ hk => hk.2) (.slice Q0p t138.length Q0q)) (fun _ hk => ⟨hk.1.1.1.1.1.2, ⟨hk.1.1.1.1.2, ⟨hk.1.1.1.2, hk.1.1.2⟩⟩⟩)⟩
           have n3_ : Aside0 (Kd.R k94 94 ((w91.setCell ⟨Q0e, 1, none⟩ (.slice Q0n t137.length Q0o)).setCell ⟨Q0f, 1, none⟩ (.slice Q0p t138.length Q0q)) w.heap.size (fun _ => True) u113001 x113001_3) := ⟨by (with_reducible repeat (first | apply rA | apply rN | apply rD)); exact Kd.R_mono (Kd.R_far (p := ⟨Q0f, 1, none⟩) (Kd.R_far (p := ⟨Q0e, 1, none⟩) (Kd.R_types (Kd.R_types Q0d.out Q0g.out (by decide)) Q0h.out (by decide)) (fun _ hk => hk.1.2) (.slice Q0n t137.length Q0o)) (fun _ hk => hk.2) (.slice Q0p t138.length Q0q)) (fun _ hk => trivial)⟩
           have n4_ : Aside0 (Kd.R (Kd.int .i64) 3 ((w91.setCell ⟨Q0e, 1, none⟩ (.slice Q0n t137.length Q0o)).setCell ⟨Q0f, 1, none⟩ (.slice Q0p t138.length Q0q)) w.heap.size (fun k_ => some k_ ≠ (u113000 : Value).ownBlock ∧ some k_ ≠ (.slice Q0u t132.length Q0v : Value).ownBlock ∧ some k_ ≠ (.slice Q0n t137.length Q0o : Value).ownBlock ∧ some k_ ≠ (.slice Q0p t138.length Q0q : Value).ownBlock) (.slice Q0s t131.length Q0t) t131) := ⟨by (with_reducible repeat (first | apply rA | apply rN | apply rD)); exact Kd.R_mono (Kd.R_far (p := ⟨Q0f, 1, none⟩) (Kd.R_far (p := ⟨Q0e, 1, none⟩) (Kd.R_types (Kd.R_types Q18.out Q0g.out (by decide)) Q0h.out (by decide)) (fun _ hk => hk.1.2) (.slice Q0n t137.length Q0o)) (fun _ hk => hk.2) (.slice Q0p t138.length Q0q)) (fun _ hk => ⟨hk.1.1.1.1.2, ⟨hk.1.1.1.1.1, ⟨hk.1.1.1.2, hk.1.1.2⟩⟩⟩)⟩
           have n5_ : Aside0 (Kd.R (Kd.int .i64) 3 ((w91.setCell ⟨Q0e, 1, none⟩ (.slice Q0n t137.length Q0o)).setCell ⟨Q0f, 1, none⟩ (.slice Q0p t138.length Q0q)) w.heap.size (fun k_ => some k_ ≠ (u113000 : Value).ownBlock ∧ some k_ ≠ (.slice Q0s t131.length Q0t : Value).ownBlock ∧ some k_ ≠ (.slice Q0n t137.length Q0o : Value).ownBlock ∧ some k_ ≠ (.slice Q0p t138.length Q0q : Value).ownBlock) (.slice Q0u t132.length Q0v) t132) := ⟨by (with_reducible repeat (first | apply rA | apply rN | apply rD)); exact Kd.R_mono (Kd.R_far (p := ⟨Q0f, 1, none⟩) (Kd.R_far (p := ⟨Q0e, 1, none⟩) (Kd.R_types (Kd.R_types Q19.out Q0g.out (by decide)) Q0h.out (by decide)) (fun _ hk => hk.1.2) (.slice Q0n t137.length Q0o)) (fun _ hk => hk.2) (.slice Q0p t138.length Q0q)) (fun _ hk => ⟨hk.1.1.1.1.2, ⟨hk.1.1.1.1.1, ⟨hk.1.1.1.2, hk.1.1.2⟩⟩⟩)⟩
           have n6_ : Aside0 (Kd.R (Kd.int .i64) 3 ((w91.setCell ⟨Q0e, 1, none⟩ (.slice Q0n t137.length Q0o)).setCell ⟨Q0f, 1, none⟩ (.slice Q0p t138.length Q0q)) w.heap.size (fun k_ => some k_ ≠ (u113000 : Value).ownBlock ∧ some k_ ≠ (.slice Q0s t131.length Q0t : Value).ownBlock ∧ some k_ ≠ (.slice Q0u t132.length Q0v : Value).ownBlock ∧ some k_ ≠ (.slice Q0p t138.length Q0q : Value).ownBlock) (.slice Q0n t137.length Q0o) t137) := ⟨by (with_reducible repeat (first | apply rA | apply rN | apply rD)); exact Kd.R_mono (Kd.R_far (p := ⟨Q0f, 1, none⟩) (Kd.R_far (p := ⟨Q0e, 1, none⟩) (Kd.R_types (Kd.R_types Q1p.out Q0g.out (by decide)) Q0h.out (by decide)) (fun _ hk => hk.1.2) (.slice Q0n t137.length Q0o)) (fun _ hk => hk.2) (.slice Q0p t138.length Q0q)) (fun _ hk => ⟨hk.1.1.1.1.2, ⟨hk.1.1.1.2, ⟨hk.1.1.2, hk.1.1.1.1.1⟩⟩⟩)⟩
           have n7_ : Aside0 (Kd.R (Kd.int .i64) 3 ((w91.setCell ⟨Q0e, 1, none⟩ (.slice Q0n t137.length Q0o)).setCell ⟨Q0f, 1, none⟩ (.slice Q0p t138.length Q0q)) w.heap.size (fun k_ => some k_ ≠ (u113000 : Value).ownBlock ∧ some k_ ≠ (.slice Q0s t131.length Q0t : Value).ownBlock ∧ some k_ ≠ (.slice Q0u t132.length Q0v : Value).ownBlock ∧ some k_ ≠ (.slice Q0n t137.length Q0o : Value).ownBlock) (.slice Q0p t138.length Q0q) t138) := ⟨by (with_reducible repeat (first | apply rA | apply rN | apply rD)); exact Kd.R_mono (Kd.R_far (p := ⟨Q0f, 1, none⟩) (Kd.R_far (p := ⟨Q0e, 1, none⟩) (Kd.R_types (Kd.R_types Q1q.out Q0g.out (by decide)) Q0h.out (by decide)) (fun _ hk => hk.1.2) (.slice Q0n t137.length Q0o)) (fun _ hk => hk.2) (.slice Q0p t138.length Q0q)) (fun _ hk => ⟨hk.1.1.1.1.2, ⟨hk.1.1.1.2, ⟨hk.1.1.2, hk.1.1.1.1.1⟩⟩⟩)⟩
           have n8_ : Aside0 (((w91.setCell ⟨Q0e, 1, none⟩ (.slice Q0n t137.length Q0o)).setCell ⟨Q0f, 1, none⟩ (.slice Q0p t138.length Q0q)).heap[Q04]? = some (.cells #[.slice A0_0 l0_0.length c0_0, .slice A0_1 l0_1.length c0_1, .slice A0_2 l0_2.length c0_2, .slice A0_3 l0_3.length c0_3, .slice A0_4 l0_4.length c0_4, .slice A0_5 l0_5.length c0_5, .slice A0_6 l0_6.length c0_6, .slice A0_7 l0_7.length c0_7, .slice A0_8 l0_8.length c0_8, .slice A0_9 l0_9.length c0_9] 29 (0, 0))) := ⟨by (with_reducible repeat (first | refine bN ?_ _ | refine bD ?_ | refine bA ?_ _)); refine blk_far ?_ Q3o.out _; (with_reducible repeat (first | refine bN ?_ _ | refine bD ?_ | refine bA ?_ _)); refine blk_far ?_ Q3m.out _; (with_reducible repeat (first | refine bN ?_ _ | refine bD ?_ | refine bA ?_ _)); exact Q00.out⟩
           have n9_ : Aside0 (((w91.setCell ⟨Q0e, 1, none⟩ (.slice Q0n t137.length Q0o)).setCell ⟨Q0f, 1, none⟩ (.slice Q0p t138.length Q0q)).heap[Q0i]? = some (.cells #[.slice none 0 0, .slice none 0 0] 25 (0, 0))) := ⟨by (with_reducible repeat (first | refine bN ?_ _ | refine bD ?_ | refine bA ?_ _)); refine blk_far ?_ Q2n.out _; (with_reducible repeat (first | refine bN ?_ _ | refine bD ?_ | refine bA ?_ _)); refine blk_far ?_ Q2k.out _; (with_reducible repeat (first | refine bN ?_ _ | refine bD ?_ | refine bA ?_ _)); exact Q01.out⟩
           have n10_ : Aside0 (((w91.setCell ⟨Q0e, 1, none⟩ (.slice Q0n t137.length Q0o)).setCell ⟨Q0f, 1, none⟩ (.slice Q0p t138.length Q0q)).heap[Q0j]? = some (.cells #[.slice none 0 0, .slice none 0 0] 27 (0, 0))) := ⟨by (with_reducible repeat (first | refine bN ?_ _ | refine bD ?_ | refine bA ?_ _)); refine blk_far ?_ Q2o.out _; (with_reducible repeat (first | refine bN ?_ _ | refine bD ?_ | refine bA ?_ _)); refine blk_far ?_ Q2l.out _; (with_reducible repeat (first | refine bN ?_ _ | refine bD ?_ | refine bA ?_ _)); exact Q02.out⟩
           have n11_ : Aside0 (((w91.setCell ⟨Q0e, 1, none⟩ (.slice Q0n t137.length Q0o)).setCell ⟨Q0f, 1, none⟩ (.slice Q0p t138.length Q0q)).heap[Q0k]? = some (.cells #[.slice none 0 0, .slice none 0 0] 27 (0, 0))) := ⟨by (with_reducible repeat (first | refine bN ?_ _ | refine bD ?_ | refine bA ?_ _)); refine blk_far ?_ Q2p.out _; (with_reducible repeat (first | refine bN ?_ _ | refine bD ?_ | refine bA ?_ _)); refine blk_far ?_ Q2m.out _; (with_reducible repeat (first | refine bN ?_ _ | refine bD ?_ | refine bA ?_ _)); exact Q03.out⟩
           have n12_ : Aside0 (((w91.setCell ⟨Q0e, 1, none⟩ (.slice Q0n t137.length Q0o)).setCell ⟨Q0f, 1, none⟩ (.slice Q0p t138.length Q0q)).heap[Q0r]? = some (.cells #[u113000, u113001] 25 (0, 0))) := ⟨by (with_reducible repeat (first | refine bN ?_ _ | refine bD ?_ | refine bA ?_ _)); refine blk_far ?_ Q3p.out _; (with_reducible repeat (first | refine bN ?_ _ | refine bD ?_ | refine bA ?_ _)); refine blk_far ?_ Q3n.out _; (with_reducible repeat (first | refine bN ?_ _ | refine bD ?_ | refine bA ?_ _)); exact Q05.out⟩
           have n13_ : Aside0 (((w91.setCell ⟨Q0e, 1, none⟩ (.slice Q0n t137.length Q0o)).setCell ⟨Q0f, 1, none⟩ (.slice Q0p t138.length Q0q)).heap[Q0e]? = some (.cells #[.slice Q0s t131.length Q0t, .slice Q0n t137.length Q0o] 27 (0, 0))) := ⟨by (with_reducible repeat (first | refine bN ?_ _ | refine bD ?_ | refine bA ?_ _)); refine blk_far ?_ Q3q.out _; (with_reducible repeat (first | refine bN ?_ _ | refine bD ?_ | refine bA ?_ _)); refine blk_put (cs := #[.slice Q0s t131.length Q0t, .slice none 0 0]) ?_ 1 _ rfl; (with_reducible repeat (first | refine bN ?_ _ | refine bD ?_ | refine bA ?_ _)); exact Q0g.out⟩
           have n14_ : Aside0 (((w91.setCell ⟨Q0e, 1, none⟩ (.slice Q0n t137.length Q0o)).setCell ⟨Q0f, 1, none⟩ (.slice Q0p t138.length Q0q)).heap[Q0f]? = some (.cells #[.slice Q0u t132.length Q0v, .slice Q0p t138.length Q0q] 27 (0, 0))) := ⟨by (with_reducible repeat (first | refine bN ?_ _ | refine bD ?_ | refine bA ?_ _)); refine blk_put (cs := #[.slice Q0u t132.length Q0v, .slice none 0 0]) ?_ 1 _ rfl; (with_reducible repeat (first | refine bN ?_ _ | refine bD ?_ | refine bA ?_ _)); refine blk_far ?_ Q3r.out _; (with_reducible repeat (first | refine bN ?_ _ | refine bD ?_ | refine bA ?_ _)); exact Q0h.out⟩
           have n15_ : Aside0 (Below w.heap.size w ((w91.setCell ⟨Q0e, 1, none⟩ (.slice Q0n t137.length Q0o)).setCell ⟨Q0f, 1, none⟩ (.slice Q0p t138.length Q0q))) := ⟨pH HB⟩
           (try clear Q09)
           (try clear Q08)
           (try clear Q0a)
           (try clear Q0d)
           (try clear Q18)
           (try clear Q19)
           (try clear Q1p)
           (try clear Q1q)
           (try clear Q00)
           (try clear Q01)
           (try clear Q02)
           (try clear Q03)
           (try clear Q05)
           (try clear Q0g)
           (try clear Q0h)
           (try clear HB)
           generalize ((w91.setCell ⟨Q0e, 1, none⟩ (.slice Q0n t137.length Q0o)).setCell ⟨Q0f, 1, none⟩ (.slice Q0p t138.length Q0q)) = w96 at n0_ n1_ n2_ n3_ n4_ n5_ n6_ n7_ n8_ n9_ n10_ n11_ n12_ n13_ n14_ n15_ ⊢
           have Q09 := n0_
           have Q08 := n1_
           have Q0a := n2_
           have Q0d := n3_
           have Q18 := n4_
           have Q19 := n5_
           have Q1p := n6_
           have Q1q := n7_
           have Q00 := n8_
           have Q01 := n9_
           have Q02 := n10_
           have Q03 := n11_
           have Q05 := n12_
           have Q0g := n13_
           have Q0h := n14_
           have HB := n15_
           clear n0_ n1_ n2_ n3_ n4_ n5_ n6_ n7_ n8_ n9_ n10_ n11_ n12_ n13_ n14_ n15_
           replace Q09 := Aside0.mk (rD Q09.out)
           replace Q08 := Aside0.mk (rD Q08.out)
           replace Q0a := Aside0.mk (rD Q0a.out)
           replace Q0d := Aside0.mk (rD Q0d.out)
           replace Q18 := Aside0.mk (rD Q18.out)
           replace Q19 := Aside0.mk (rD Q19.out)
           replace Q1p := Aside0.mk (rD Q1p.out)
           replace Q1q := Aside0.mk (rD Q1q.out)
           replace Q00 := Aside0.mk (bD Q00.out)
           replace Q01 := Aside0.mk (bD Q01.out)
           replace Q02 := Aside0.mk (bD Q02.out)
           replace Q03 := Aside0.mk (bD Q03.out)
           replace Q05 := Aside0.mk (bD Q05.out)
           replace Q0g := Aside0.mk (bD Q0g.out)
           replace Q0h := Aside0.mk (bD Q0h.out)
           replace HB := Aside0.mk (wD HB.out)
           obtain ⟨Q1i, Q1j, Q49⟩ := Kd.R_slice Q0a.out
           (first | subst Q49 | (injection Q49 with f1_ f2_ f3_; have f4_ := f1_.symm; have f5_ := f3_.symm; clear f1_ f2_ f3_; subst f4_; subst f5_))
           obtain ⟨Q1r, Q1s, Q4a⟩ := Kd.R_slice Q0d.out
           (first | subst Q4a | (injection Q4a with f1_ f2_ f3_; have f4_ := f1_.symm; have f5_ := f3_.symm; clear f1_ f2_ f3_; subst f4_; subst f5_))
           refine start_ (n := 7) (S := fun w' => w'.cell? ⟨Q0r, 0, none⟩ = some (.slice Q1i x113000_2.length Q1j) ∧ w'.cell? ⟨Q0r, 1, none⟩ = some (.slice Q1r x113001_3.length Q1s) ∧ w'.cell? ⟨Q0e, 0, none⟩ = some (.slice Q0s t131.length Q0t) ∧ w'.cell? ⟨Q0e, 1, none⟩ = some (.slice Q0n t137.length Q0o) ∧ w'.cell? ⟨Q0f, 0, none⟩ = some (.slice Q0u t132.length Q0v) ∧ w'.cell? ⟨Q0f, 1, none⟩ = some (.slice Q0p t138.length Q0q)) (ds := []) #[false, false, false, false, false, false, false] (by kernel_rfl) rfl rfl ⟨bC Q05 0, bC Q05 1, bC Q0g 0, bC Q0g 1, bC Q0h 0, bC Q0h 1⟩ (fun hHeld => ?_)
           generalize w96.drew = w97 at Q09 Q08 Q0a Q0d Q18 Q19 Q1p Q1q Q00 Q01 Q02 Q03 Q05 Q0g Q0h HB hHeld ⊢
           refine take_ (i := 0) (N := some 130) (v := ?_) (a' := ?_) #[true, false, false, false, false, false, false] rfl rfl (by kernel_rfl) (fun _ _ _ h => h) (Or.inl ⟨by rfl, ?_⟩) hHeld ?_ ?_
           rotate_left
           ·rintro w' ⟨s0, s1, s2, s3, s4, s5⟩
            go_simp
            with_reducible rfl
           rotate_left
           ·simp only [Act.put, List.setIfInBounds_toArray, List.set_cons_zero, List.set_cons_succ, i64_w, i32_w]
            rfl
           refine take_ (i := 1) (N := some 131) (v := ?_) (a' := ?_) #[true, true, false, false, false, false, false] rfl rfl (by kernel_rfl) (fun _ _ _ h => h) (Or.inl ⟨by rfl, ?_⟩) hHeld ?_ ?_
           rotate_left
           ·rintro w' ⟨s0, s1, s2, s3, s4, s5⟩
            go_simp
            with_reducible rfl
           rotate_left
           ·simp only [Act.put, List.setIfInBounds_toArray, List.set_cons_zero, List.set_cons_succ, i64_w, i32_w]
            rfl
           refine take_ (i := 2) (N := some 132) (v := ?_) (a' := ?_) #[true, true, true, false, false, false, false] rfl rfl (by kernel_rfl) (fun _ _ _ h => h) (Or.inl ⟨by rfl, ?_⟩) hHeld ?_ ?_
           rotate_left
           ·rintro w' ⟨s0, s1, s2, s3, s4, s5⟩
            go_simp
            with_reducible rfl
           rotate_left
           ·simp only [Act.put, List.setIfInBounds_toArray, List.set_cons_zero, List.set_cons_succ, i64_w, i32_w]
            rfl
           refine one_ (i := 3) (N := none) #[true, true, true, true, false, false, false] rfl rfl (by kernel_rfl) (by decide) (fun K hK => ?_)
           have Q9t : w97.cell? ⟨Q0i, 0, none⟩ = some (.slice none 0 0) := bC Q01 0
           have Q9u := blk_frozen Q01.out 0
           have Q9v := Q28.out
           have Q9w := Q11.out
           have Q9x := Q13.out
           have Q9y := Q1k.out
           have Q9z := Q22.out
           have Qa0 := Q25.out
           have Qa1 := Q29.out
           have Qa2 := Q10.out
           have Qa3 := Q12.out
           have Qa4 := Q2e.out
           have Qa5 := Q2k.out
           have Qa6 := Q2n.out
           have Qa7 : w97.cell? ⟨Q0i, 1, none⟩ = some (.slice none 0 0) := bC Q01 1
           have Qa8 := blk_frozen Q01.out 1
           have Qa9 := Q28.out
           have Qaa := Q11.out
           have Qab := Q13.out
           have Qac := Q1k.out
           have Qad := Q22.out
           have Qae := Q25.out
           have Qaf := Q29.out
           have Qag := Q10.out
           have Qah := Q12.out
           have Qai := Q2e.out
           have Qaj := Q2k.out
           have Qak := Q2n.out
           refine skip_ (w1 := ?_) (by rfl) rfl ?_ ?_
           rotate_left
           ·go_simp
            rfl
           refine hK.out _ _ ⟨(cG Q1k.out (cG Q1k.out hHeld.1)), (cG Q1k.out (cG Q1k.out hHeld.2.1)), (cG Q22.out (cG Q22.out hHeld.2.2.1)), (cG Q22.out (cG Q22.out hHeld.2.2.2.1)), (cG Q25.out (cG Q25.out hHeld.2.2.2.2.1)), (cG Q25.out (cG Q25.out hHeld.2.2.2.2.2))⟩ (fun hHeld => ?_)
           clear hK K
           refine one_ (i := 4) (N := none) #[true, true, true, true, true, false, false] rfl rfl (by kernel_rfl) (by decide) (fun K hK => ?_)
           have Qal : w97.cell? ⟨Q0j, 0, none⟩ = some (.slice none 0 0) := bC Q02 0
           have Qam := blk_frozen Q02.out 0
           have Qan := Q2a.out
           have Qao := Q10.out
           have Qap := Q15.out
           have Qaq := Q1l.out
           have Qar := Q23.out
           have Qas := Q26.out
           have Qat := Q2b.out
           have Qau := Q11.out
           have Qav := Q14.out
           have Qaw := Q2f.out
           have Qax := Q2l.out
           have Qay := Q2o.out
           have Qaz : w97.cell? ⟨Q0j, 1, none⟩ = some (.slice none 0 0) := bC Q02 1
           have Qb0 := blk_frozen Q02.out 1
           have Qb1 := Q2a.out
           have Qb2 := Q10.out
           have Qb3 := Q15.out
           have Qb4 := Q1l.out
           have Qb5 := Q23.out
           have Qb6 := Q26.out
           have Qb7 := Q2b.out
           have Qb8 := Q11.out
           have Qb9 := Q14.out
           have Qba := Q2f.out
           have Qbb := Q2l.out
           have Qbc := Q2o.out
           refine skip_ (w1 := ?_) (by rfl) rfl ?_ ?_
           rotate_left
           ·go_simp
            rfl
           refine hK.out _ _ ⟨(cG Q1l.out (cG Q1l.out hHeld.1)), (cG Q1l.out (cG Q1l.out hHeld.2.1)), (cG Q23.out (cG Q23.out hHeld.2.2.1)), (cG Q23.out (cG Q23.out hHeld.2.2.2.1)), (cG Q26.out (cG Q26.out hHeld.2.2.2.2.1)), (cG Q26.out (cG Q26.out hHeld.2.2.2.2.2))⟩ (fun hHeld => ?_)
           clear hK K
           refine one_ (i := 5) (N := none) #[true, true, true, true, true, true, false] rfl rfl (by kernel_rfl) (by decide) (fun K hK => ?_)
           have Qbd : w97.cell? ⟨Q0k, 0, none⟩ = some (.slice none 0 0) := bC Q03 0
           have Qbe := blk_frozen Q03.out 0
           have Qbf := Q2c.out
           have Qbg := Q12.out
           have Qbh := Q14.out
           have Qbi := Q1m.out
           have Qbj := Q24.out
           have Qbk := Q27.out
           have Qbl := Q2d.out
           have Qbm := Q13.out
           have Qbn := Q15.out
           have Qbo := Q2g.out
           have Qbp := Q2m.out
           have Qbq := Q2p.out
           have Qbr : w97.cell? ⟨Q0k, 1, none⟩ = some (.slice none 0 0) := bC Q03 1
           have Qbs := blk_frozen Q03.out 1
           have Qbt := Q2c.out
           have Qbu := Q12.out
           have Qbv := Q14.out
           have Qbw := Q1m.out
           have Qbx := Q24.out
           have Qby := Q27.out
           have Qbz := Q2d.out
           have Qc0 := Q13.out
           have Qc1 := Q15.out
           have Qc2 := Q2g.out
           have Qc3 := Q2m.out
           have Qc4 := Q2p.out
           refine skip_ (w1 := ?_) (by rfl) rfl ?_ ?_
           rotate_left
           ·go_simp
            rfl
           refine hK.out _ _ ⟨(cG Q1m.out (cG Q1m.out hHeld.1)), (cG Q1m.out (cG Q1m.out hHeld.2.1)), (cG Q24.out (cG Q24.out hHeld.2.2.1)), (cG Q24.out (cG Q24.out hHeld.2.2.2.1)), (cG Q27.out (cG Q27.out hHeld.2.2.2.2.1)), (cG Q27.out (cG Q27.out hHeld.2.2.2.2.2))⟩ (fun hHeld => ?_)
           clear hK K
           refine pure_ (i := 6) (N := some 5) (v := ?_) (a' := ?_) #[true, true, true, true, true, true, true] rfl rfl (by kernel_rfl) (fun _ _ _ h => h) (Or.inl ⟨by rfl, ?_⟩) ?_ ?_
           rotate_left
           ·intro w'
            go_simp
            with_reducible rfl
           rotate_left
           ·simp only [Act.put, List.setIfInBounds_toArray, List.set_cons_zero, List.set_cons_succ, i64_w, i32_w]
            rfl
           refine done_ (by kernel_rfl) ?_
           try go_wp2
           refine bodyPost_ret (results_list (rs := [.cell 2 25, .cell 3 27, .cell 4 27, .tmp 5]) rfl (by simp) (.cell Q0i 25 #[.slice Q1i x113000_2.length Q1j, .slice Q1r x113001_3.length Q1s] (0, 0) _ rfl (by (with_reducible repeat (first | refine bN ?_ _ | refine bD ?_ | refine bA ?_ _)); refine blk_far ?_ Q12.out _; (with_reducible repeat (first | refine bN ?_ _ | refine bD ?_ | refine bA ?_ _)); refine blk_far ?_ Q12.out _; (with_reducible repeat (first | refine bN ?_ _ | refine bD ?_ | refine bA ?_ _)); refine blk_far ?_ Q10.out _; (with_reducible repeat (first | refine bN ?_ _ | refine bD ?_ | refine bA ?_ _)); refine blk_far ?_ Q10.out _; (with_reducible repeat (first | refine bN ?_ _ | refine bD ?_ | refine bA ?_ _)); refine blk_put (cs := #[.slice Q1i x113000_2.length Q1j, .slice none 0 0]) ?_ 1 _ rfl; (with_reducible repeat (first | refine bN ?_ _ | refine bD ?_ | refine bA ?_ _)); refine blk_put (cs := #[.slice none 0 0, .slice none 0 0]) ?_ 0 _ rfl; (with_reducible repeat (first | refine bN ?_ _ | refine bD ?_ | refine bA ?_ _)); exact Q01.out) Try.underlying25 rfl (by kernel_rfl) (.cell Q0j 27 #[.slice Q0s t131.length Q0t, .slice Q0n t137.length Q0o] (0, 0) _ rfl (by (with_reducible repeat (first | refine bN ?_ _ | refine bD ?_ | refine bA ?_ _)); refine blk_far ?_ Q14.out _; (with_reducible repeat (first | refine bN ?_ _ | refine bD ?_ | refine bA ?_ _)); refine blk_far ?_ Q14.out _; (with_reducible repeat (first | refine bN ?_ _ | refine bD ?_ | refine bA ?_ _)); refine blk_put (cs := #[.slice Q0s t131.length Q0t, .slice none 0 0]) ?_ 1 _ rfl; (with_reducible repeat (first | refine bN ?_ _ | refine bD ?_ | refine bA ?_ _)); refine blk_put (cs := #[.slice none 0 0, .slice none 0 0]) ?_ 0 _ rfl; (with_reducible repeat (first | refine bN ?_ _ | refine bD ?_ | refine bA ?_ _)); refine blk_far ?_ Q11.out _; (with_reducible repeat (first | refine bN ?_ _ | refine bD ?_ | refine bA ?_ _)); refine blk_far ?_ Q11.out _; (with_reducible repeat (first | refine bN ?_ _ | refine bD ?_ | refine bA ?_ _)); exact Q02.out) Try.underlying27 rfl (by kernel_rfl) (.cell Q0k 27 #[.slice Q0u t132.length Q0v, .slice Q0p t138.length Q0q] (0, 0) _ rfl (by (with_reducible repeat (first | refine bN ?_ _ | refine bD ?_ | refine bA ?_ _)); refine blk_put (cs := #[.slice Q0u t132.length Q0v, .slice none 0 0]) ?_ 1 _ rfl; (with_reducible repeat (first | refine bN ?_ _ | refine bD ?_ | refine bA ?_ _)); refine blk_put (cs := #[.slice none 0 0, .slice none 0 0]) ?_ 0 _ rfl; (with_reducible repeat (first | refine bN ?_ _ | refine bD ?_ | refine bA ?_ _)); refine blk_far ?_ Q15.out _; (with_reducible repeat (first | refine bN ?_ _ | refine bD ?_ | refine bA ?_ _)); refine blk_far ?_ Q15.out _; (with_reducible repeat (first | refine bN ?_ _ | refine bD ?_ | refine bA ?_ _)); refine blk_far ?_ Q13.out _; (with_reducible repeat (first | refine bN ?_ _ | refine bD ?_ | refine bA ?_ _)); refine blk_far ?_ Q13.out _; (with_reducible repeat (first | refine bN ?_ _ | refine bD ?_ | refine bA ?_ _)); exact Q03.out) Try.underlying27 rfl (by kernel_rfl) (.tmp .nil))))) rfl ?_
           exact ⟨_, _, _, _, _, _, by first | rfl | (simp [errW_none, errW_some] <;> rfl) | (simp [*, errW_none, errW_some] <;> rfl), by (with_reducible repeat (first | apply rA | apply rN | apply rD)); exact Kd.R_mono (Kd.R_far (p := ⟨Q0k, 1, none⟩) (Kd.R_far (p := ⟨Q0k, 0, none⟩) (Kd.R_far (p := ⟨Q0j, 1, none⟩) (Kd.R_far (p := ⟨Q0j, 0, none⟩) (Kd.R_far (p := ⟨Q0i, 1, none⟩) (Kd.R_far (p := ⟨Q0i, 0, none⟩) (Kd.R_types (Kd.R_types (Kd.R_types Q0a.out Q01.out (by decide)) Q02.out (by decide)) Q03.out (by decide)) (fun _ hk => hk.1.1.2) (.slice Q1i x113000_2.length Q1j)) (fun _ hk => hk.1.1.2) (.slice Q1r x113001_3.length Q1s)) (fun _ hk => hk.1.2) (.slice Q0s t131.length Q0t)) (fun _ hk => hk.1.2) (.slice Q0n t137.length Q0o)) (fun _ hk => hk.2) (.slice Q0u t132.length Q0v)) (fun _ hk => hk.2) (.slice Q0p t138.length Q0q)) (fun _ hk => ⟨hk.1.1.1.1, ⟨hk.1.1.1.2.2.1, ⟨hk.1.1.1.2.1, hk.1.1.1.2.2.2⟩⟩⟩), by (with_reducible repeat (first | apply rA | apply rN | apply rD)); exact Kd.R_mono (Kd.R_far (p := ⟨Q0k, 1, none⟩) (Kd.R_far (p := ⟨Q0k, 0, none⟩) (Kd.R_far (p := ⟨Q0j, 1, none⟩) (Kd.R_far (p := ⟨Q0j, 0, none⟩) (Kd.R_far (p := ⟨Q0i, 1, none⟩) (Kd.R_far (p := ⟨Q0i, 0, none⟩) (Kd.R_types (Kd.R_types (Kd.R_types Q0d.out Q01.out (by decide)) Q02.out (by decide)) Q03.out (by decide)) (fun _ hk => hk.1.1.2) (.slice Q1i x113000_2.length Q1j)) (fun _ hk => hk.1.1.2) (.slice Q1r x113001_3.length Q1s)) (fun _ hk => hk.1.2) (.slice Q0s t131.length Q0t)) (fun _ hk => hk.1.2) (.slice Q0n t137.length Q0o)) (fun _ hk => hk.2) (.slice Q0u t132.length Q0v)) (fun _ hk => hk.2) (.slice Q0p t138.length Q0q)) (fun _ hk => trivial), by (with_reducible repeat (first | apply rA | apply rN | apply rD)); exact Kd.R_mono (Kd.R_far (p := ⟨Q0k, 1, none⟩) (Kd.R_far (p := ⟨Q0k, 0, none⟩) (Kd.R_far (p := ⟨Q0j, 1, none⟩) (Kd.R_far (p := ⟨Q0j, 0, none⟩) (Kd.R_far (p := ⟨Q0i, 1, none⟩) (Kd.R_far (p := ⟨Q0i, 0, none⟩) (Kd.R_types (Kd.R_types (Kd.R_types Q18.out Q01.out (by decide)) Q02.out (by decide)) Q03.out (by decide)) (fun _ hk => hk.1.1.2) (.slice Q1i x113000_2.length Q1j)) (fun _ hk => hk.1.1.2) (.slice Q1r x113001_3.length Q1s)) (fun _ hk => hk.1.2) (.slice Q0s t131.length Q0t)) (fun _ hk => hk.1.2) (.slice Q0n t137.length Q0o)) (fun _ hk => hk.2) (.slice Q0u t132.length Q0v)) (fun _ hk => hk.2) (.slice Q0p t138.length Q0q)) (fun _ hk => ⟨hk.1.1.1.1, ⟨hk.1.1.1.2.2.1, ⟨hk.1.1.1.2.1, hk.1.1.1.2.2.2⟩⟩⟩), by (with_reducible repeat (first | apply rA | apply rN | apply rD)); exact Kd.R_mono (Kd.R_far (p := ⟨Q0k, 1, none⟩) (Kd.R_far (p := ⟨Q0k, 0, none⟩) (Kd.R_far (p := ⟨Q0j, 1, none⟩) (Kd.R_far (p := ⟨Q0j, 0, none⟩) (Kd.R_far (p := ⟨Q0i, 1, none⟩) (Kd.R_far (p := ⟨Q0i, 0, none⟩) (Kd.R_types (Kd.R_types (Kd.R_types Q1p.out Q01.out (by decide)) Q02.out (by decide)) Q03.out (by decide)) (fun _ hk => hk.1.1.2) (.slice Q1i x113000_2.length Q1j)) (fun _ hk => hk.1.1.2) (.slice Q1r x113001_3.length Q1s)) (fun _ hk => hk.1.2) (.slice Q0s t131.length Q0t)) (fun _ hk => hk.1.2) (.slice Q0n t137.length Q0o)) (fun _ hk => hk.2) (.slice Q0u t132.length Q0v)) (fun _ hk => hk.2) (.slice Q0p t138.length Q0q)) (fun _ hk => ⟨hk.1.1.1.1, ⟨hk.1.1.1.2.1, ⟨hk.1.1.1.2.2.1, hk.1.1.1.2.2.2⟩⟩⟩), by (with_reducible repeat (first | apply rA | apply rN | apply rD)); exact Kd.R_mono (Kd.R_far (p := ⟨Q0k, 1, none⟩) (Kd.R_far (p := ⟨Q0k, 0, none⟩) (Kd.R_far (p := ⟨Q0j, 1, none⟩) (Kd.R_far (p := ⟨Q0j, 0, none⟩) (Kd.R_far (p := ⟨Q0i, 1, none⟩) (Kd.R_far (p := ⟨Q0i, 0, none⟩) (Kd.R_types (Kd.R_types (Kd.R_types Q19.out Q01.out (by decide)) Q02.out (by decide)) Q03.out (by decide)) (fun _ hk => hk.1.1.2) (.slice Q1i x113000_2.length Q1j)) (fun _ hk => hk.1.1.2) (.slice Q1r x113001_3.length Q1s)) (fun _ hk => hk.1.2) (.slice Q0s t131.length Q0t)) (fun _ hk => hk.1.2) (.slice Q0n t137.length Q0o)) (fun _ hk => hk.2) (.slice Q0u t132.length Q0v)) (fun _ hk => hk.2) (.slice Q0p t138.length Q0q)) (fun _ hk => ⟨hk.1.1.1.1, ⟨hk.1.1.1.2.1, ⟨hk.1.1.1.2.2.1, hk.1.1.1.2.2.2⟩⟩⟩), by (with_reducible repeat (first | apply rA | apply rN | apply rD)); exact Kd.R_mono (Kd.R_far (p := ⟨Q0k, 1, none⟩) (Kd.R_far (p := ⟨Q0k, 0, none⟩) (Kd.R_far (p := ⟨Q0j, 1, none⟩) (Kd.R_far (p := ⟨Q0j, 0, none⟩) (Kd.R_far (p := ⟨Q0i, 1, none⟩) (Kd.R_far (p := ⟨Q0i, 0, none⟩) (Kd.R_types (Kd.R_types (Kd.R_types Q1q.out Q01.out (by decide)) Q02.out (by decide)) Q03.out (by decide)) (fun _ hk => hk.1.1.2) (.slice Q1i x113000_2.length Q1j)) (fun _ hk => hk.1.1.2) (.slice Q1r x113001_3.length Q1s)) (fun _ hk => hk.1.2) (.slice Q0s t131.length Q0t)) (fun _ hk => hk.1.2) (.slice Q0n t137.length Q0o)) (fun _ hk => hk.2) (.slice Q0u t132.length Q0v)) (fun _ hk => hk.2) (.slice Q0p t138.length Q0q)) (fun _ hk => ⟨hk.1.1.1.1, ⟨hk.1.1.1.2.1, ⟨hk.1.1.1.2.2.2, hk.1.1.1.2.2.1⟩⟩⟩), by repeat (first | (with_reducible first | exact HB.out | apply wA | apply wN | apply wD | refine below_set ?_ Q2q.out | refine below_set ?_ Q2r.out | refine below_set ?_ Q2s.out | refine below_set ?_ Q2t.out | refine below_set ?_ Q4i.out | refine below_set ?_ Q4n.out | refine below_set ?_ Q4q.out) | exact HB.out)⟩
 ·rw [if_neg c3] at H
  have c3b0 : (t105 == 0) = false := beq_eq_false_iff_ne.mpr c3
  have c3b1 : (t105 != 0) = true := bne_iff_ne.mpr c3
  simp only [Option.some.injEq, Prod.mk.injEq] at H
  obtain ⟨rfl, rfl, rfl, rfl, rfl, rfl, rfl⟩ := H
  go_enter Try.func36, Try.ntmps36
  go_wp2_with (first | ((with_reducible refine gate_dst (N := 1) rfl ?_); (try (refine gate_guard (by rfl) ?_; dsimp only)); refine box_event ?hg (N := 1) ?hd (cs := #[.slice A0_0 l0_0.length c0_0, .slice A0_1 l0_1.length c0_1, .slice A0_2 l0_2.length c0_2, .slice A0_3 l0_3.length c0_3, .slice A0_4 l0_4.length c0_4, .slice A0_5 l0_5.length c0_5, .slice A0_6 l0_6.length c0_6, .slice A0_7 l0_7.length c0_7, .slice A0_8 l0_8.length c0_8, .slice A0_9 l0_9.length c0_9]) (t := 29) ?hr ?_; (case hd => rfl); (case hg => rfl); (case hr => first | (go_simp; done) | (go_simp; rfl)); intro Q04 hg w106 hbox hb; have Q00 := Aside0.mk (hbox); have Q4b := Aside0.mk ((by rw [hg]; exact (below_size hB) : w.heap.size ≤ Q04)); have Q2q := Aside0.mk ((by rw [hg]; exact (below_size hB) : w.heap.size ≤ Q04)); replace HB := uH HB hb; clear hb hbox hg) | ((with_reducible refine gate_dst (N := 2) rfl ?_); (try (refine gate_guard (by rfl) ?_; dsimp only)); refine box_event ?hg (N := 2) ?hd (cs := #[.slice none 0 0, .slice none 0 0]) (t := 25) ?hr ?_; (case hd => rfl); (case hg => rfl); (case hr => first | (go_simp; done) | (go_simp; rfl)); intro Q0i hg w107 hbox hb; have Q01 := Aside0.mk (hbox); have Q4c := uS HB hg; have Q2r := uS HB hg; replace HB := uH HB hb; have Q28 := uL Q00 hg; have Q29 := uG Q00 hg; replace Q00 := uB Q00 hb; clear hb hbox hg) | ((with_reducible refine gate_dst (N := 3) rfl ?_); (try (refine gate_guard (by rfl) ?_; dsimp only)); refine box_event ?hg (N := 3) ?hd (cs := #[.slice none 0 0, .slice none 0 0]) (t := 27) ?hr ?_; (case hd => rfl); (case hg => rfl); (case hr => first | (go_simp; done) | (go_simp; rfl)); intro Q0j hg w108 hbox hb; have Q02 := Aside0.mk (hbox); have Q4d := uS HB hg; have Q2s := uS HB hg; replace HB := uH HB hb; have Q2a := uL Q00 hg; have Q2b := uG Q00 hg; replace Q00 := uB Q00 hb; have Q10 := uL Q01 hg; have Q11 := uG Q01 hg; replace Q01 := uB Q01 hb; clear hb hbox hg) | ((with_reducible refine gate_dst (N := 4) rfl ?_); (try (refine gate_guard (by rfl) ?_; dsimp only)); refine box_event ?hg (N := 4) ?hd (cs := #[.slice none 0 0, .slice none 0 0]) (t := 27) ?hr ?_; (case hd => rfl); (case hg => rfl); (case hr => first | (go_simp; done) | (go_simp; rfl)); intro Q0k hg w109 hbox hb; have Q03 := Aside0.mk (hbox); have Q4e := uS HB hg; have Q2t := uS HB hg; replace HB := uH HB hb; have Q2c := uL Q00 hg; have Q2d := uG Q00 hg; replace Q00 := uB Q00 hb; have Q12 := uL Q01 hg; have Q13 := uG Q01 hg; replace Q01 := uB Q01 hb; have Q14 := uL Q02 hg; have Q15 := uG Q02 hg; replace Q02 := uB Q02 hb; clear hb hbox hg; have Qc5 := Q28.out; have Qc6 := Q29.out; have Qc7 := Q2a.out; have Qc8 := Q2b.out; have Qc9 := Q2c.out; have Qca := Q2d.out; have Qcb : w109.cell? ⟨Q04, 0, none⟩ = some (.slice A0_0 l0_0.length c0_0) := bC Q00 0; have Qcc : w109.cell? ⟨Q04, 1, none⟩ = some (.slice A0_1 l0_1.length c0_1) := bC Q00 1; have Qcd : w109.cell? ⟨Q04, 2, none⟩ = some (.slice A0_2 l0_2.length c0_2) := bC Q00 2; have Qce : w109.cell? ⟨Q04, 3, none⟩ = some (.slice A0_3 l0_3.length c0_3) := bC Q00 3; have Qcf : w109.cell? ⟨Q04, 4, none⟩ = some (.slice A0_4 l0_4.length c0_4) := bC Q00 4; have Qcg : w109.cell? ⟨Q04, 5, none⟩ = some (.slice A0_5 l0_5.length c0_5) := bC Q00 5; have Qch : w109.cell? ⟨Q04, 6, none⟩ = some (.slice A0_6 l0_6.length c0_6) := bC Q00 6; have Qci : w109.cell? ⟨Q04, 7, none⟩ = some (.slice A0_7 l0_7.length c0_7) := bC Q00 7; have Qcj : w109.cell? ⟨Q04, 8, none⟩ = some (.slice A0_8 l0_8.length c0_8) := bC Q00 8; have Qck : w109.cell? ⟨Q04, 9, none⟩ = some (.slice A0_9 l0_9.length c0_9) := bC Q00 9; have Qcl := blk_frozen Q00.out 0; have Qcm := blk_frozen Q00.out 1; have Qcn := blk_frozen Q00.out 2; have Qco := blk_frozen Q00.out 3; have Qcp := blk_frozen Q00.out 4; have Qcq := blk_frozen Q00.out 5; have Qcr := blk_frozen Q00.out 6; have Qcs := blk_frozen Q00.out 7; have Qct := blk_frozen Q00.out 8; have Qcu := blk_frozen Q00.out 9) | ((with_reducible refine gate_callee (f := 68) rfl ?_); refine goesL_ (some 17) rfl rfl Try.func68 (by kernel_rfl) rfl #[.agg #[.slice A0_0 l0_0.length c0_0, .slice A0_1 l0_1.length c0_1, .slice A0_2 l0_2.length c0_2, .slice A0_3 l0_3.length c0_3, .slice A0_4 l0_4.length c0_4, .slice A0_5 l0_5.length c0_5, .slice A0_6 l0_6.length c0_6, .slice A0_7 l0_7.length c0_7, .slice A0_8 l0_8.length c0_8, .slice A0_9 l0_9.length c0_9]] rfl aM ?_; (with_reducible refine (scarfjointref11_Valid.calls _ _ l0_0 _ _ l0_1 _ _ l0_2 _ _ l0_3 _ _ l0_4 _ _ l0_5 _ _ l0_6 _ _ l0_7 _ _ l0_8 _ _ l0_9 t105 _ ?side1 ?side2 ?side3 ?side4 ?side5 ?side6 ?side7 ?side8 ?side9 ?side10 ?side11 ?side12 ?side13 ?side14 ?side15 ?side16 ?side17 ?side18 ?side19 ?side20 A2.out).mono ?_); (case side1 => exact cX (cB HR0_0.out HB.out)); (case side2 => exact HC0_0.out); (case side3 => exact cX (cB HR0_1.out HB.out)); (case side4 => exact HC0_1.out); (case side5 => exact cX (cB HR0_2.out HB.out)); (case side6 => exact HC0_2.out); (case side7 => exact cX (cB HR0_3.out HB.out)); (case side8 => exact HC0_3.out); (case side9 => exact cX (cB HR0_4.out HB.out)); (case side10 => exact HC0_4.out); (case side11 => exact cX (cB HR0_5.out HB.out)); (case side12 => exact HC0_5.out); (case side13 => exact cX (cB HR0_6.out HB.out)); (case side14 => exact HC0_6.out); (case side15 => exact cX (cB HR0_7.out HB.out)); (case side16 => exact HC0_7.out); (case side17 => exact cX (cB HR0_8.out HB.out)); (case side18 => exact HC0_8.out); (case side19 => exact cX (cB HR0_9.out HB.out)); (case side20 => exact HC0_9.out); rintro e w114 ⟨rfl, hb⟩; refine ⟨_, rfl, ?_⟩; replace Q00 := uB Q00 hb; replace Q01 := uB Q01 hb; replace Q02 := uB Q02 hb; replace Q03 := uB Q03 hb; replace HB := uH HB hb; (try clear hb); (try clear hb2); (try clear hk); (try clear hi); have Qcv := Q10.out; have Qcw := Q11.out; have Qcx := Q12.out; have Qcy := Q13.out; have Qcz : w114.cell? ⟨Q0i, 0, none⟩ = some (.slice none 0 0) := bC Q01 0; have Qd0 : w114.cell? ⟨Q0i, 1, none⟩ = some (.slice none 0 0) := bC Q01 1; have Qd1 := blk_frozen Q01.out 0; have Qd2 := blk_frozen Q01.out 1; have Qd3 := Q14.out; have Qd4 := Q15.out; have Qd5 : w114.cell? ⟨Q0j, 0, none⟩ = some (.slice none 0 0) := bC Q02 0; have Qd6 : w114.cell? ⟨Q0j, 1, none⟩ = some (.slice none 0 0) := bC Q02 1; have Qd7 := blk_frozen Q02.out 0; have Qd8 := blk_frozen Q02.out 1; have Qd9 : w114.cell? ⟨Q0k, 0, none⟩ = some (.slice none 0 0) := bC Q03 0; have Qda : w114.cell? ⟨Q0k, 1, none⟩ = some (.slice none 0 0) := bC Q03 1; have Qdb := blk_frozen Q03.out 0; have Qdc := blk_frozen Q03.out 1))
  refine bodyPost_ret (results_list (rs := [.cell 2 25, .cell 3 27, .cell 4 27, .tmp 5]) rfl (by simp) (.cell Q0i 25 #[.slice none 0 0, .slice none 0 0] (0, 0) _ rfl (by (with_reducible repeat (first | refine bN ?_ _ | refine bD ?_ | refine bA ?_ _)); refine blk_far ?_ Q12.out _; (with_reducible repeat (first | refine bN ?_ _ | refine bD ?_ | refine bA ?_ _)); refine blk_far ?_ Q12.out _; (with_reducible repeat (first | refine bN ?_ _ | refine bD ?_ | refine bA ?_ _)); refine blk_far ?_ Q10.out _; (with_reducible repeat (first | refine bN ?_ _ | refine bD ?_ | refine bA ?_ _)); refine blk_far ?_ Q10.out _; (with_reducible repeat (first | refine bN ?_ _ | refine bD ?_ | refine bA ?_ _)); refine blk_put (cs := #[.slice none 0 0, .slice none 0 0]) ?_ 1 _ rfl; (with_reducible repeat (first | refine bN ?_ _ | refine bD ?_ | refine bA ?_ _)); refine blk_put (cs := #[.slice none 0 0, .slice none 0 0]) ?_ 0 _ rfl; (with_reducible repeat (first | refine bN ?_ _ | refine bD ?_ | refine bA ?_ _)); exact Q01.out) Try.underlying25 rfl (by kernel_rfl) (.cell Q0j 27 #[.slice none 0 0, .slice none 0 0] (0, 0) _ rfl (by (with_reducible repeat (first | refine bN ?_ _ | refine bD ?_ | refine bA ?_ _)); refine blk_far ?_ Q14.out _; (with_reducible repeat (first | refine bN ?_ _ | refine bD ?_ | refine bA ?_ _)); refine blk_far ?_ Q14.out _; (with_reducible repeat (first | refine bN ?_ _ | refine bD ?_ | refine bA ?_ _)); refine blk_put (cs := #[.slice none 0 0, .slice none 0 0]) ?_ 1 _ rfl; (with_reducible repeat (first | refine bN ?_ _ | refine bD ?_ | refine bA ?_ _)); refine blk_put (cs := #[.slice none 0 0, .slice none 0 0]) ?_ 0 _ rfl; (with_reducible repeat (first | refine bN ?_ _ | refine bD ?_ | refine bA ?_ _)); refine blk_far ?_ Q11.out _; (with_reducible repeat (first | refine bN ?_ _ | refine bD ?_ | refine bA ?_ _)); refine blk_far ?_ Q11.out _; (with_reducible repeat (first | refine bN ?_ _ | refine bD ?_ | refine bA ?_ _)); exact Q02.out) Try.underlying27 rfl (by kernel_rfl) (.cell Q0k 27 #[.slice none 0 0, .slice none 0 0] (0, 0) _ rfl (by (with_reducible repeat (first | refine bN ?_ _ | refine bD ?_ | refine bA ?_ _)); refine blk_put (cs := #[.slice none 0 0, .slice none 0 0]) ?_ 1 _ rfl; (with_reducible repeat (first | refine bN ?_ _ | refine bD ?_ | refine bA ?_ _)); refine blk_put (cs := #[.slice none 0 0, .slice none 0 0]) ?_ 0 _ rfl; (with_reducible repeat (first | refine bN ?_ _ | refine bD ?_ | refine bA ?_ _)); refine blk_far ?_ Q15.out _; (with_reducible repeat (first | refine bN ?_ _ | refine bD ?_ | refine bA ?_ _)); refine blk_far ?_ Q15.out _; (with_reducible repeat (first | refine bN ?_ _ | refine bD ?_ | refine bA ?_ _)); refine blk_far ?_ Q13.out _; (with_reducible repeat (first | refine bN ?_ _ | refine bD ?_ | refine bA ?_ _)); refine blk_far ?_ Q13.out _; (with_reducible repeat (first | refine bN ?_ _ | refine bD ?_ | refine bA ?_ _)); exact Q03.out) Try.underlying27 rfl (by kernel_rfl) (.tmp .nil))))) rfl ?_
  exact ⟨_, _, _, _, _, _, by first | rfl | (simp [errW_none, errW_some] <;> rfl) | (simp [*, errW_none, errW_some] <;> rfl), by first | exact Kd.R_nil _ _ _ _ _ | exact Kd.N_nil _ _ _ _ _ | exact Kd.V_nil _ _ _ _ _ | exact Kd.Q_nil _ _ _ _ _ | exact Kd.S_nil _ _ _ _ _, by first | exact Kd.R_nil _ _ _ _ _ | exact Kd.N_nil _ _ _ _ _ | exact Kd.V_nil _ _ _ _ _ | exact Kd.Q_nil _ _ _ _ _ | exact Kd.S_nil _ _ _ _ _, by first | exact Kd.R_nil _ _ _ _ _ | exact Kd.N_nil _ _ _ _ _ | exact Kd.V_nil _ _ _ _ _ | exact Kd.Q_nil _ _ _ _ _ | exact Kd.S_nil _ _ _ _ _, by first | exact Kd.R_nil _ _ _ _ _ | exact Kd.N_nil _ _ _ _ _ | exact Kd.V_nil _ _ _ _ _ | exact Kd.Q_nil _ _ _ _ _ | exact Kd.S_nil _ _ _ _ _, by first | exact Kd.R_nil _ _ _ _ _ | exact Kd.N_nil _ _ _ _ _ | exact Kd.V_nil _ _ _ _ _ | exact Kd.Q_nil _ _ _ _ _ | exact Kd.S_nil _ _ _ _ _, by first | exact Kd.R_nil _ _ _ _ _ | exact Kd.N_nil _ _ _ _ _ | exact Kd.V_nil _ _ _ _ _ | exact Kd.Q_nil _ _ _ _ _ | exact Kd.S_nil _ _ _ _ _, by repeat (first | (with_reducible first | exact HB.out | apply wA | apply wN | apply wD | refine below_set ?_ Q2q.out | refine below_set ?_ Q2r.out | refine below_set ?_ Q2s.out | refine below_set ?_ Q2t.out) | exact HB.out)⟩
/-! ### scarfjointref02_SameInts: function 46 -/
def scarfjointref02_SameInts.l0 : Nat → List Int → List Int → Int → Option (Bool)
 | 0, _, _, _ => none
 | k + 1, x0, x1, x5 => if x5 < (x0.length : Int) then (if 0 ≤ x5 then (if x5 < (x1.length : Int) then (if (rd x0 x5) = (rd x1 x5) then (scarfjointref02_SameInts.l0 k x0 x1 (wrap64 (x5 + 1))) else (some false)) else (none)) else (none)) else (some true)
def scarfjointref02_SameInts.f (k : Nat) (l0 : List Int) (l1 : List Int) : Option (Bool) := if (l0.length : Int) = (l1.length : Int) then (scarfjointref02_SameInts.l0 k l0 l1 0) else (some false)
theorem scarfjointref02_SameInts.mono_l : ∀ k, (∀ y0 y1 y2, LeO (scarfjointref02_SameInts.l0 k y0 y1 y2) (scarfjointref02_SameInts.l0 (k + 1) y0 y1 y2))
 | 0 => fun _ _ _ r h => by simp [scarfjointref02_SameInts.l0] at h
 | k + 1 => by
  have ih0 := scarfjointref02_SameInts.mono_l k
  ·intro y0 y1 y2
   unfold scarfjointref02_SameInts.l0
   repeat' first
   | (with_reducible exact ih0 _ _ _)
   | (with_reducible exact LeO.refl _)
   | (with_reducible exact LeO.none _)
   | (with_reducible refine LeO.ite ?_ ?_)
   | (with_reducible refine LeO.bind ?_ (fun _ => ?_))
   | exact ih0 _ _ _
   | exact LeO.none _
   | refine LeO.ite ?_ ?_
   | refine LeO.bind ?_ (fun _ => ?_)
theorem scarfjointref02_SameInts.mono : ∀ a0 a1 k, LeO (scarfjointref02_SameInts.f k a0 a1) (scarfjointref02_SameInts.f (k + 1) a0 a1) := by
 intro a0 a1 k
 have ih0 := scarfjointref02_SameInts.mono_l k
 unfold scarfjointref02_SameInts.f
 repeat' first
   | (with_reducible exact ih0 _ _ _)
   | (with_reducible exact LeO.refl _)
   | (with_reducible exact LeO.none _)
   | (with_reducible refine LeO.ite ?_ ?_)
   | (with_reducible refine LeO.bind ?_ (fun _ => ?_))
   | exact ih0 _ _ _
   | exact LeO.none _
   | refine LeO.ite ?_ ?_
   | refine LeO.bind ?_ (fun _ => ?_)
set_option maxHeartbeats 8000000 in
set_option maxRecDepth 100000 in
theorem scarfjointref02_SameInts.calls (k : Nat) (A0 : Option Addr) (c0 : Nat) (l0 : List Int) (A1 : Option Addr) (c1 : Nat) (l1 : List Int) (r : Bool) (w : World) (hr0 : Kd.C (Kd.int .i64) w A0 l0.length l0) (hc0 : l0.length ≤ c0) (hr1 : Kd.C (Kd.int .i64) w A1 l1.length l1) (hc1 : l1.length ≤ c1) (h : scarfjointref02_SameInts.f k l0 l1 = some r) :
  Calls Try.prog 46 #[.slice A0 l0.length c0, .slice A1 l1.length c1] w fun e w' => e = .returned (.bool r) ∧ Drawn0 w w' := by
 have HR0 := Aside0.mk hr0
 have HC0 := Aside0.mk hc0
 clear hr0 hc0
 have HR1 := Aside0.mk hr1
 have HC1 := Aside0.mk hc1
 clear hr1 hc1
 have H : (if (l0.length : Int) = (l1.length : Int) then (scarfjointref02_SameInts.l0 k l0 l1 0) else (some false)) = some r := h
 clear h
 by_cases c3 : (l0.length : Int) = (l1.length : Int)
 ·rw [if_pos c3] at H
  have c3b0 : ((l0.length : Int) == (l1.length : Int)) = true := beq_iff_eq.mpr c3
  have c3b1 : ((l0.length : Int) != (l1.length : Int)) = false := bne_eq_false_iff_eq.mpr c3
  have c3b2 : (l0.length == l1.length) = true := by first | simpa using c3 | (simp at c3 ⊢; omega)
  clear c3
  have H' := Aside0.mk H
  clear H
  go_enter Try.func46, Try.ntmps46
  go_wp2
  repeat (go_quiet (fail); try go_wp2)
  go_loopg [5] k (fun kq v5 w' => ∃ (x5_1 : Int), v5 = .int .i64 x5_1 ∧ Aside0 (scarfjointref02_SameInts.l0 kq l0 l1 x5_1 = some r) ∧ Aside0 (kq ≤ k) ∧ Drawn0 w w')
  case atStart => exact ⟨(0), rS, H', ⟨Nat.le_refl _⟩, by repeat (first | exact Drawn0.refl _ | apply Drawn0.step)⟩
  case round =>
   clear H'
   try clear c1; try clear p2; try clear c3; try clear c3b0; try clear c3b1; try clear c3b2
   obtain ⟨x5_1, rfl, HA, HK1, ⟨m1, rfl⟩⟩ := hrel
   cases gk with
   | zero => exact absurd HA.out (by simp [scarfjointref02_SameInts.l0])
   | succ k1 =>
    have H := HA.out
    clear HA
    simp only [scarfjointref02_SameInts.l0] at H
    by_cases c4 : x5_1 < (l0.length : Int)
    ·rw [if_pos c4] at H
     have c4b0 : decide (x5_1 < (l0.length : Int)) = true := decide_eq_true c4
     clear c4
     by_cases c5 : 0 ≤ x5_1
     ·rw [if_pos c5] at H
      have c5b0 : decide (0 ≤ x5_1) = true := decide_eq_true c5
      clear c5
      by_cases c6 : x5_1 < (l1.length : Int)
      ·rw [if_pos c6] at H
       have c6b0 : decide (x5_1 < (l1.length : Int)) = true := decide_eq_true c6
       clear c6
       by_cases c7 : (rd l0 x5_1) = (rd l1 x5_1)
       ·rw [if_pos c7] at H
        have c7b0 : ((rd l0 x5_1) == (rd l1 x5_1)) = true := beq_iff_eq.mpr c7
        have c7b1 : ((rd l0 x5_1) != (rd l1 x5_1)) = false := bne_eq_false_iff_eq.mpr c7
        clear c7
        have H' := Aside0.mk H
        clear H
        have p101 : 0 ≤ (x5_1 : Int) := oT
        have q101 : x5_1 < (l0.length : Int) := oT
        obtain ⟨ad101, e101, hx101_0⟩ := Kd.at_int HR0.out x5_1 p101 q101
        cases e101
        replace p101 := eq_true p101
        replace q101 := eq_true q101
        have p102 : 0 ≤ (x5_1 : Int) := oT
        have q102 : x5_1 < (l1.length : Int) := oT
        obtain ⟨ad102, e102, hx102_0⟩ := Kd.at_int HR1.out x5_1 p102 q102
        cases e102
        replace p102 := eq_true p102
        replace q102 := eq_true q102
        go_wp2
        repeat (go_quiet (fail); try go_wp2)
        go_roundg k1
        case measure => have := HK1.out; omega
        case rel => exact ⟨(wrap64 (x5_1 + 1)), rS, H', ⟨by have := HK1.out; omega⟩, by repeat (first | exact Drawn0.refl _ | apply Drawn0.step)⟩
       ·rw [if_neg c7] at H
        have c7b0 : ((rd l0 x5_1) == (rd l1 x5_1)) = false := beq_eq_false_iff_ne.mpr c7
        have c7b1 : ((rd l0 x5_1) != (rd l1 x5_1)) = true := bne_iff_ne.mpr c7
        obtain rfl := Option.some.inj H
        have p101 : 0 ≤ (x5_1 : Int) := oT
        have q101 : x5_1 < (l0.length : Int) := oT
        obtain ⟨ad101, e101, hx101_0⟩ := Kd.at_int HR0.out x5_1 p101 q101
        cases e101
        replace p101 := eq_true p101
        replace q101 := eq_true q101
        have p102 : 0 ≤ (x5_1 : Int) := oT
        have q102 : x5_1 < (l1.length : Int) := oT
        obtain ⟨ad102, e102, hx102_0⟩ := Kd.at_int HR1.out x5_1 p102 q102
        cases e102
        replace p102 := eq_true p102
        replace q102 := eq_true q102
        go_wp2
        repeat (go_quiet (fail); try go_wp2)
        go_ret
        exact ⟨by first | rfl | (simp; done) | (simp [*]; done), by repeat (first | exact Drawn0.refl _ | apply Drawn0.step)⟩
      ·rw [if_neg c6] at H
       exact absurd H (by simp)
     ·rw [if_neg c5] at H
      exact absurd H (by simp)
    ·rw [if_neg c4] at H
     have c4b0 : decide (x5_1 < (l0.length : Int)) = false := decide_eq_false c4
     clear c4
     obtain rfl := Option.some.inj H
     go_wp2
     repeat (go_quiet (fail); try go_wp2)
     go_ret
     exact ⟨by first | rfl | (simp; done) | (simp [*]; done), by repeat (first | exact Drawn0.refl _ | apply Drawn0.step)⟩
 ·rw [if_neg c3] at H
  have c3b0 : ((l0.length : Int) == (l1.length : Int)) = false := beq_eq_false_iff_ne.mpr c3
  have c3b1 : ((l0.length : Int) != (l1.length : Int)) = true := bne_iff_ne.mpr c3
  have c3b2 : (l0.length == l1.length) = false := by first | simpa using c3 | (simp at c3 ⊢; omega)
  obtain rfl := Option.some.inj H
  go_enter Try.func46, Try.ntmps46
  go_wp2
  repeat (go_quiet (fail); try go_wp2)
  go_ret
  exact ⟨by first | rfl | (simp; done) | (simp [*]; done), by repeat (first | exact Drawn0.refl _ | apply Drawn0.step)⟩
/-! ### scarfjointref06_Same: function 15 -/
def scarfjointref06_Same.f (k : Nat) (l0_0 : List Int) (l0_1 : List Int) (l1_0 : List Int) (l1_1 : List Int) : Option (Bool) := (scarfjointref02_SameInts.f k l0_0 l1_0).bind fun t103 => (if t103 = true then ((scarfjointref02_SameInts.f k l0_1 l1_1).bind fun t104 => (some t104)) else (some false))
theorem scarfjointref06_Same.mono : ∀ a0 a1 a2 a3 k, LeO (scarfjointref06_Same.f k a0 a1 a2 a3) (scarfjointref06_Same.f (k + 1) a0 a1 a2 a3) := by
 intro a0 a1 a2 a3 k
 unfold scarfjointref06_Same.f
 repeat' first
   | (with_reducible exact scarfjointref02_SameInts.mono _ _ _)
   | (with_reducible exact LeO.refl _)
   | (with_reducible exact LeO.none _)
   | (with_reducible refine LeO.ite ?_ ?_)
   | (with_reducible refine LeO.bind ?_ (fun _ => ?_))
   | exact scarfjointref02_SameInts.mono _ _ _
   | exact LeO.none _
   | refine LeO.ite ?_ ?_
   | refine LeO.bind ?_ (fun _ => ?_)
set_option maxHeartbeats 8000000 in
set_option maxRecDepth 100000 in
theorem scarfjointref06_Same.calls (k : Nat) (A0_0 : Option Addr) (c0_0 : Nat) (l0_0 : List Int) (A0_1 : Option Addr) (c0_1 : Nat) (l0_1 : List Int) (A1_0 : Option Addr) (c1_0 : Nat) (l1_0 : List Int) (A1_1 : Option Addr) (c1_1 : Nat) (l1_1 : List Int) (r : Bool) (w : World) (hr0_0 : Kd.C (Kd.int .i64) w A0_0 l0_0.length l0_0) (hc0_0 : l0_0.length ≤ c0_0) (hr0_1 : Kd.C (Kd.int .i64) w A0_1 l0_1.length l0_1) (hc0_1 : l0_1.length ≤ c0_1) (hr1_0 : Kd.C (Kd.int .i64) w A1_0 l1_0.length l1_0) (hc1_0 : l1_0.length ≤ c1_0) (hr1_1 : Kd.C (Kd.int .i64) w A1_1 l1_1.length l1_1) (hc1_1 : l1_1.length ≤ c1_1) (h : scarfjointref06_Same.f k l0_0 l0_1 l1_0 l1_1 = some r) :
  Calls Try.prog 15 #[.agg #[.slice A0_0 l0_0.length c0_0, .slice A0_1 l0_1.length c0_1], .agg #[.slice A1_0 l1_0.length c1_0, .slice A1_1 l1_1.length c1_1]] w fun e w' => e = .returned (.bool r) ∧ Below w.heap.size w w' := by
 have hu27 := Try.underlying27
 have HR0_0 := Aside0.mk hr0_0
 have HC0_0 := Aside0.mk hc0_0
 clear hr0_0 hc0_0
 have HR0_1 := Aside0.mk hr0_1
 have HC0_1 := Aside0.mk hc0_1
 clear hr0_1 hc0_1
 have HR1_0 := Aside0.mk hr1_0
 have HC1_0 := Aside0.mk hc1_0
 clear hr1_0 hc1_0
 have HR1_1 := Aside0.mk hr1_1
 have HC1_1 := Aside0.mk hc1_1
 clear hr1_1 hc1_1
 have HB := Aside0.mk (Below.refl w.heap.size w)
 have H : ((scarfjointref02_SameInts.f k l0_0 l1_0).bind fun t103 => (if t103 = true then ((scarfjointref02_SameInts.f k l0_1 l1_1).bind fun t104 => (some t104)) else (some false))) = some r := h
 clear h
 replace H := Option.bind_eq_some_iff.mp H
 obtain ⟨t103, A30, H⟩ := H
 replace H : (if t103 = true then ((scarfjointref02_SameInts.f k l0_1 l1_1).bind fun t104 => (some t104)) else (some false)) = some r := H
 have A3 := Aside0.mk A30
 clear A30
 by_cases c4 : t103 = true
 ·subst c4
  have H1 : ((scarfjointref02_SameInts.f k l0_1 l1_1).bind fun t104 => (some t104)) = some r := by rw [if_pos rfl] at H; exact H
  clear H
  have H := H1
  clear H1
  replace H := Option.bind_eq_some_iff.mp H
  obtain ⟨t104, A50, H⟩ := H
  replace H : (some t104) = some r := H
  have A5 := Aside0.mk A50
  clear A50
  obtain rfl := Option.some.inj H
  go_enter Try.func15, Try.ntmps15
  go_wp2_with (first | ((with_reducible refine gate_dst (N := 2) rfl ?_); refine box_event ?hg (N := 2) ?hd (cs := #[.slice A0_0 l0_0.length c0_0, .slice A0_1 l0_1.length c0_1]) (t := 27) ?hr ?_; (case hd => rfl); (case hg => rfl); (case hr => first | (go_simp; done) | (go_simp; rfl)); intro Q01 hg w6 hbox hb; have Q00 := Aside0.mk (hbox); have Q08 := Aside0.mk ((by rw [hg]; exact (below_size hB) : w.heap.size ≤ Q01)); have Q04 := Aside0.mk ((by rw [hg]; exact (below_size hB) : w.heap.size ≤ Q01)); replace HB := uH HB hb; clear hb hbox hg) | ((with_reducible refine gate_dst (N := 3) rfl ?_); refine box_event ?hg (N := 3) ?hd (cs := #[.slice A1_0 l1_0.length c1_0, .slice A1_1 l1_1.length c1_1]) (t := 27) ?hr ?_; (case hd => rfl); (case hg => rfl); (case hr => first | (go_simp; done) | (go_simp; rfl)); intro Q03 hg w7 hbox hb; have Q02 := Aside0.mk (hbox); have Q09 := uS HB hg; have Q05 := uS HB hg; replace HB := uH HB hb; have Q06 := uL Q00 hg; have Q07 := uG Q00 hg; replace Q00 := uB Q00 hb; clear hb hbox hg; have Q0a := Q06.out; have Q0b := Q07.out; have Q0c : w7.cell? ⟨Q01, 0, none⟩ = some (.slice A0_0 l0_0.length c0_0) := bC Q00 0; have Q0d : w7.cell? ⟨Q01, 1, none⟩ = some (.slice A0_1 l0_1.length c0_1) := bC Q00 1; have Q0e := blk_frozen Q00.out 0; have Q0f := blk_frozen Q00.out 1; have Q0g : w7.cell? ⟨Q03, 0, none⟩ = some (.slice A1_0 l1_0.length c1_0) := bC Q02 0; have Q0h : w7.cell? ⟨Q03, 1, none⟩ = some (.slice A1_1 l1_1.length c1_1) := bC Q02 1; have Q0i := blk_frozen Q02.out 0; have Q0j := blk_frozen Q02.out 1) | ((with_reducible refine gate_callee (f := 46) rfl ?_); refine goesL_ (some 9) rfl rfl Try.func46 (by kernel_rfl) rfl #[.slice A0_0 l0_0.length c0_0, .slice A1_0 l1_0.length c1_0] rfl aM ?_; (with_reducible refine (scarfjointref02_SameInts.calls k _ _ l0_0 _ _ l1_0 true _ ?side1 ?side2 ?side3 ?side4 A3.out).mono ?_); (case side1 => exact cX (cB HR0_0.out HB.out)); (case side2 => exact HC0_0.out); (case side3 => exact cX (cB HR1_0.out HB.out)); (case side4 => exact HC1_0.out); rintro e w' ⟨rfl, ⟨nd, rfl⟩⟩; refine ⟨_, rfl, ?_⟩) | (go_at_call 46; (with_reducible refine (scarfjointref02_SameInts.calls k _ _ l0_1 _ _ l1_1 t104 _ ?side1 ?side2 ?side3 ?side4 A5.out).mono ?_); (case side1 => repeat (first | exact (cB HR0_1.out (pH HB)) | (with_reducible refine cA ?_ _) | (with_reducible refine cN ?_ _) | (with_reducible refine cD ?_))); (case side2 => exact HC0_1.out); (case side3 => repeat (first | exact (cB HR1_1.out (pH HB)) | (with_reducible refine cA ?_ _) | (with_reducible refine cN ?_ _) | (with_reducible refine cD ?_))); (case side4 => exact HC1_1.out); rintro e w' ⟨rfl, ⟨nd, rfl⟩⟩))
  go_ret
  exact ⟨by first | rfl | (simp [errW_none, errW_some] <;> rfl) | (simp [*, errW_none, errW_some] <;> rfl), by repeat (first | (with_reducible first | exact HB.out | apply wA | apply wN | apply wD | refine below_set ?_ Q04.out | refine below_set ?_ Q05.out) | exact HB.out)⟩
 ·replace c4 := Bool.eq_false_iff.mpr c4
  subst c4
  have H1 : (some false) = some r := by rw [if_neg (show ¬ (false = true) by decide)] at H; exact H
  clear H
  have H := H1
  clear H1
  obtain rfl := Option.some.inj H
  go_enter Try.func15, Try.ntmps15
  go_wp2_with (first | ((with_reducible refine gate_dst (N := 2) rfl ?_); refine box_event ?hg (N := 2) ?hd (cs := #[.slice A0_0 l0_0.length c0_0, .slice A0_1 l0_1.length c0_1]) (t := 27) ?hr ?_; (case hd => rfl); (case hg => rfl); (case hr => first | (go_simp; done) | (go_simp; rfl)); intro Q01 hg w11 hbox hb; have Q00 := Aside0.mk (hbox); have Q08 := Aside0.mk ((by rw [hg]; exact (below_size hB) : w.heap.size ≤ Q01)); have Q04 := Aside0.mk ((by rw [hg]; exact (below_size hB) : w.heap.size ≤ Q01)); replace HB := uH HB hb; clear hb hbox hg) | ((with_reducible refine gate_dst (N := 3) rfl ?_); refine box_event ?hg (N := 3) ?hd (cs := #[.slice A1_0 l1_0.length c1_0, .slice A1_1 l1_1.length c1_1]) (t := 27) ?hr ?_; (case hd => rfl); (case hg => rfl); (case hr => first | (go_simp; done) | (go_simp; rfl)); intro Q03 hg w12 hbox hb; have Q02 := Aside0.mk (hbox); have Q09 := uS HB hg; have Q05 := uS HB hg; replace HB := uH HB hb; have Q06 := uL Q00 hg; have Q07 := uG Q00 hg; replace Q00 := uB Q00 hb; clear hb hbox hg; have Q0k := Q06.out; have Q0l := Q07.out; have Q0m : w12.cell? ⟨Q01, 0, none⟩ = some (.slice A0_0 l0_0.length c0_0) := bC Q00 0; have Q0n : w12.cell? ⟨Q01, 1, none⟩ = some (.slice A0_1 l0_1.length c0_1) := bC Q00 1; have Q0o := blk_frozen Q00.out 0; have Q0p := blk_frozen Q00.out 1; have Q0q : w12.cell? ⟨Q03, 0, none⟩ = some (.slice A1_0 l1_0.length c1_0) := bC Q02 0; have Q0r : w12.cell? ⟨Q03, 1, none⟩ = some (.slice A1_1 l1_1.length c1_1) := bC Q02 1; have Q0s := blk_frozen Q02.out 0; have Q0t := blk_frozen Q02.out 1) | ((with_reducible refine gate_callee (f := 46) rfl ?_); refine goesL_ (some 9) rfl rfl Try.func46 (by kernel_rfl) rfl #[.slice A0_0 l0_0.length c0_0, .slice A1_0 l1_0.length c1_0] rfl aM ?_; (with_reducible refine (scarfjointref02_SameInts.calls k _ _ l0_0 _ _ l1_0 false _ ?side1 ?side2 ?side3 ?side4 A3.out).mono ?_); (case side1 => exact cX (cB HR0_0.out HB.out)); (case side2 => exact HC0_0.out); (case side3 => exact cX (cB HR1_0.out HB.out)); (case side4 => exact HC1_0.out); rintro e w' ⟨rfl, ⟨nd, rfl⟩⟩; refine ⟨_, rfl, ?_⟩))
  go_ret
  exact ⟨by first | rfl | (simp [errW_none, errW_some] <;> rfl) | (simp [*, errW_none, errW_some] <;> rfl), by repeat (first | (with_reducible first | exact HB.out | apply wA | apply wN | apply wD | refine below_set ?_ Q04.out | refine below_set ?_ Q05.out) | exact HB.out)⟩
end Go.Proofs.Ytillofiphkmjjaa.X

/- The law PullbackOf, walked by hand. -/
namespace Go.Proofs.Ytillofiphkmjjaa.X
open Go.RowKit Go.Proofs.YtillofiphkmjjaaW.PrintWords Go.Proofs.YtillofiphkmjjaaW.PrintLast Go.Proofs.YtillofiphkmjjaaW.PrintMore
set_option linter.unusedVariables false
set_option linter.unusedSimpArgs false
set_option maxHeartbeats 4000000 in
set_option maxRecDepth 100000 in
theorem law9_a (k : Nat) (A0 : Option Addr) (c0 : Nat) (x0 : List Int) (A1 : Option Addr) (c1 : Nat) (x1 : List S94) (A2 : Option Addr) (c2 : Nat) (x2 : List Int) (A3 : Option Addr) (c3 : Nat) (x3 : List S94) (A4 : Option Addr) (c4 : Nat) (x4 : List Int) (A5 : Option Addr) (c5 : Nat) (x5 : List S94) (A6 : Option Addr) (c6 : Nat) (x6 : List Int) (A7 : Option Addr) (c7 : Nat) (x7 : List Int) (A8 : Option Addr) (c8 : Nat) (x8 : List Int) (A9 : Option Addr) (c9 : Nat) (x9 : List Int) (w : World)
  (R0 : Row (Kd.int .i64) w A0 c0 x0) (R1 : Row k94 w A1 c1 x1) (R2 : Row (Kd.int .i64) w A2 c2 x2) (R3 : Row k94 w A3 c3 x3) (R4 : Row (Kd.int .i64) w A4 c4 x4) (R5 : Row k94 w A5 c5 x5) (R6 : Row (Kd.int .i64) w A6 c6 x6) (R7 : Row (Kd.int .i64) w A7 c7 x7) (R8 : Row (Kd.int .i64) w A8 c8 x8) (R9 : Row (Kd.int .i64) w A9 c9 x9)
  (r1 : List Int) (r2 : List S94) (r3 r4 r5 r6 : List Int) (er : Int) (hO : pullback_Of.f k x0 x1 x2 x3 x4 x5 x6 x7 x8 x9 = some (r1, r2, r3, r4, r5, r6, er))
  (hR : scarfjointref11_Of.f k x0 x1 x2 x3 x4 x5 x6 x7 x8 x9 = some (r1, r2, r3, r4, r5, r6, er))
  (hS : scarfjointref05_Same.f k r1 r2 r1 r2 = some true)
  (hs : scarfjointref06_Same.f k r3 r4 r3 r4 = some true)
  (ht : scarfjointref06_Same.f k r5 r6 r5 r6 = some true) (her : er ≠ 0) :
  Calls Try.prog 9 #[.agg #[.slice A0 x0.length c0, .slice A1 x1.length c1, .slice A2 x2.length c2, .slice A3 x3.length c3, .slice A4 x4.length c4, .slice A5 x5.length c5, .slice A6 x6.length c6, .slice A7 x7.length c7, .slice A8 x8.length c8, .slice A9 x9.length c9]] w fun e w' => e = .returned (.bool true) ∧ Below w.heap.size w w' := by
 have hO_ := Aside0.mk hO
 have hR_ := Aside0.mk hR
 have hS_ := Aside0.mk hS
 have hs_ := Aside0.mk hs
 have ht_ := Aside0.mk ht
 have her_ := Aside0.mk her
 clear hO hR hS hs ht her
 have hu25 := Try.underlying25
 have hu27 := Try.underlying27
 have hu29 := Try.underlying29
 have SB := Since.refl w
 have RS := cR R0 (cR R1 (cR R2 (cR R3 (cR R4 (cR R5 (cR R6 (cR R7 (cR R8 (cR R9 (cE SB))))))))))
 clear SB R0 R1 R2 R3 R4 R5 R6 R7 R8 R9
 go_enter Try.func9, Try.ntmps9
 go_upto_region 1 with fail
 obtain ⟨v0, hv, BS, hb⟩ := nw1 w 29 #[.slice A0 x0.length c0, .slice A1 x1.length c1, .slice A2 x2.length c2, .slice A3 x3.length c3, .slice A4 x4.length c4, .slice A5 x5.length c5, .slice A6 x6.length c6, .slice A7 x7.length c7, .slice A8 x8.length c8, .slice A9 x9.length c9]
 rw [← hv]
 clear hv
 replace RS := mo hb RS
 clear hb
 replace RS := cK BS (RS)
 clear BS
 rcases (id RS) with ⟨⟨BS⟩, -⟩
 obtain ⟨_, _, _, _, _, _, _, _, _, _⟩ := BS.q10
 go_wp2_with fail
 refine (awake_calls _).mono ?_
 rintro e v1 ⟨rfl, hb⟩
 replace hb := bS (w := v0) hb
 replace RS := mo hb RS
 clear hb
 rcases (id RS) with ⟨⟨BS⟩, -⟩
 obtain ⟨_, _, _, _, _, _, _, _, _, _⟩ := BS.q10
 go_wp2_with fail
 rcases (id RS) with ⟨-, ⟨⟨R0⟩, ⟨⟨R1⟩, ⟨⟨R2⟩, ⟨⟨R3⟩, ⟨⟨R4⟩, ⟨⟨R5⟩, ⟨⟨R6⟩, ⟨⟨R7⟩, ⟨⟨R8⟩, ⟨⟨R9⟩, -⟩⟩⟩⟩⟩⟩⟩⟩⟩⟩⟩
 refine (Few11_calls _ _ x0 _ _ x1 _ _ x2 _ _ x3 _ _ x4 _ _ x5 _ _ x6 _ _ x7 _ _ x8 _ _ x9 _ R0 R1 R2 R3 R4 R5 R6 R7 R8 R9).mono ?_
 rintro e v2 ⟨b, rfl, hb⟩
 clear R0 R1 R2 R3 R4 R5 R6 R7 R8 R9
 replace hb := bS (w := v1) hb
 replace RS := mo hb RS
 clear hb
 rcases (id RS) with ⟨⟨BS⟩, -⟩
 obtain ⟨_, _, _, _, _, _, _, _, _, _⟩ := BS.q10
 cases b with
 | false =>
  go_wp2_with fail
  refine (awake_calls _).mono ?_
  rintro e v3 ⟨rfl, hb⟩
  replace hb := bS (w := v2) hb
  replace RS := mo hb RS
  clear hb
  rcases (id RS) with ⟨-, ⟨-, ⟨-, ⟨-, ⟨-, ⟨-, ⟨-, ⟨-, ⟨-, ⟨-, ⟨-, ⟨SB⟩⟩⟩⟩⟩⟩⟩⟩⟩⟩⟩⟩
  go_wp2_with fail
  try go_wp2_with fail
  go_ret
  exact ⟨rfl, SB.get⟩
 | true =>
 go_wp2_with fail
 rcases (id RS) with ⟨-, ⟨⟨R0⟩, ⟨⟨R1⟩, ⟨⟨R2⟩, ⟨⟨R3⟩, ⟨⟨R4⟩, ⟨⟨R5⟩, ⟨⟨R6⟩, ⟨⟨R7⟩, ⟨⟨R8⟩, ⟨⟨R9⟩, -⟩⟩⟩⟩⟩⟩⟩⟩⟩⟩⟩
 refine (Of_calls k _ _ x0 _ _ x1 _ _ x2 _ _ x3 _ _ x4 _ _ x5 _ _ x6 _ _ x7 _ _ x8 _ _ x9 _ R0 R1 R2 R3 R4 R5 R6 R7 R8 R9 r1 r2 r3 r4 r5 r6 er hO_.out).mono ?_
 rintro e v4 ⟨y0, y1, y2, y3, y4, y5, rfl, q0, q1, q2, q3, q4, q5, hb⟩
 clear R0 R1 R2 R3 R4 R5 R6 R7 R8 R9
 replace hb := bS (w := v2) hb
 replace RS := mo hb RS
 clear hb
 obtain ⟨P0, p0, rfl, Q0⟩ := q0.get
 obtain ⟨P1, p1, rfl, Q1⟩ := q1.get
 obtain ⟨P2, p2, rfl, Q2⟩ := q2.get
 obtain ⟨P3, p3, rfl, Q3⟩ := q3.get
 obtain ⟨P4, p4, rfl, Q4⟩ := q4.get
 obtain ⟨P5, p5, rfl, Q5⟩ := q5.get
 replace RS := cR Q0 (cR Q1 (cR Q2 (cR Q3 (cR Q4 (cR Q5 (RS))))))
 clear Q0 Q1 Q2 Q3 Q4 Q5
 go_upto_region 4 with fail
 obtain ⟨v5, hv, BA, BP, BQ, hb⟩ := nw3 v4 25 #[.slice P0 r1.length p0, .slice P1 r2.length p1] 27 #[.slice P2 r3.length p2, .slice P3 r4.length p3] 27 #[.slice P4 r5.length p4, .slice P5 r6.length p5]
 rw [← hv]
 clear hv
 replace RS := mo hb RS
 clear hb
 replace RS := cK BA (cK BP (cK BQ (RS)))
 clear BA BP BQ
 rcases (id RS) with ⟨⟨BA⟩, ⟨⟨BP⟩, ⟨⟨BQ⟩, ⟨-, ⟨-, ⟨-, ⟨-, ⟨-, ⟨-, ⟨⟨BS⟩, -⟩⟩⟩⟩⟩⟩⟩⟩⟩⟩
 obtain ⟨_, _⟩ := BA.q2
 obtain ⟨_, _⟩ := BP.q2
 obtain ⟨_, _⟩ := BQ.q2
 obtain ⟨_, _, _, _, _, _, _, _, _, _⟩ := BS.q10
 go_wp2_with fail
 rcases (id RS) with ⟨-, ⟨-, ⟨-, ⟨-, ⟨-, ⟨-, ⟨-, ⟨-, ⟨-, ⟨-, ⟨⟨R0⟩, ⟨⟨R1⟩, ⟨⟨R2⟩, ⟨⟨R3⟩, ⟨⟨R4⟩, ⟨⟨R5⟩, ⟨⟨R6⟩, ⟨⟨R7⟩, ⟨⟨R8⟩, ⟨⟨R9⟩, -⟩⟩⟩⟩⟩⟩⟩⟩⟩⟩⟩⟩⟩⟩⟩⟩⟩⟩⟩⟩
 refine (scarfjointref11_Of.calls k _ _ x0 _ _ x1 _ _ x2 _ _ x3 _ _ x4 _ _ x5 _ _ x6 _ _ x7 _ _ x8 _ _ x9 r1 r2 r3 r4 r5 r6 er _ R0.at_ R0.cap R1.at_ R1.cap R2.at_ R2.cap R3.at_ R3.cap R4.at_ R4.cap R5.at_ R5.cap R6.at_ R6.cap R7.at_ R7.cap R8.at_ R8.cap R9.at_ R9.cap hR_.out).mono ?_
 rintro e v6 ⟨y0, y1, y2, y3, y4, y5, rfl, q0, q1, q2, q3, q4, q5, hb⟩
 clear R0 R1 R2 R3 R4 R5 R6 R7 R8 R9
 replace hb := bS (w := v5) hb
 replace RS := mo hb RS
 clear hb
 obtain ⟨V0, u0, rfl, U0⟩ := Row.of_R q0
 clear q0
 obtain ⟨V1, u1, rfl, U1⟩ := Row.of_R q1
 clear q1
 obtain ⟨V2, u2, rfl, U2⟩ := Row.of_R q2
 clear q2
 obtain ⟨V3, u3, rfl, U3⟩ := Row.of_R q3
 clear q3
 obtain ⟨V4, u4, rfl, U4⟩ := Row.of_R q4
 clear q4
 obtain ⟨V5, u5, rfl, U5⟩ := Row.of_R q5
 clear q5
 replace RS := cR U0 (cR U1 (cR U2 (cR U3 (cR U4 (cR U5 (RS))))))
 clear U0 U1 U2 U3 U4 U5
 go_upto_region 5 with fail
 obtain ⟨v7, hv, BB, BU, BV, hb⟩ := nw3 v6 25 #[.slice V0 r1.length u0, .slice V1 r2.length u1] 27 #[.slice V2 r3.length u2, .slice V3 r4.length u3] 27 #[.slice V4 r5.length u4, .slice V5 r6.length u5]
 rw [← hv]
 clear hv
 replace RS := mo hb RS
 clear hb
 replace RS := cK BB (cK BU (cK BV (RS)))
 clear BB BU BV
 rcases (id RS) with ⟨⟨BB⟩, ⟨⟨BU⟩, ⟨⟨BV⟩, ⟨-, ⟨-, ⟨-, ⟨-, ⟨-, ⟨-, ⟨⟨BA⟩, ⟨⟨BP⟩, ⟨⟨BQ⟩, ⟨-, ⟨-, ⟨-, ⟨-, ⟨-, ⟨-, ⟨⟨BS⟩, -⟩⟩⟩⟩⟩⟩⟩⟩⟩⟩⟩⟩⟩⟩⟩⟩⟩⟩⟩
 obtain ⟨_, _⟩ := BB.q2
 obtain ⟨_, _⟩ := BU.q2
 obtain ⟨_, _⟩ := BV.q2
 obtain ⟨_, _⟩ := BA.q2
 obtain ⟨_, _⟩ := BP.q2
 obtain ⟨_, _⟩ := BQ.q2
 obtain ⟨_, _, _, _, _, _, _, _, _, _⟩ := BS.q10
 go_wp2_with fail
 rcases (id RS) with ⟨-, ⟨-, ⟨-, ⟨⟨U0⟩, ⟨⟨U1⟩, ⟨-, ⟨-, ⟨-, ⟨-, ⟨-, ⟨-, ⟨-, ⟨⟨Q0⟩, ⟨⟨Q1⟩, -⟩⟩⟩⟩⟩⟩⟩⟩⟩⟩⟩⟩⟩⟩
 refine (scarfjointref05_Same.calls k _ _ r1 _ _ r2 _ _ r1 _ _ r2 true _ Q0.at_ Q0.cap Q1.at_ Q1.cap U0.at_ U0.cap U1.at_ U1.cap hS_.out).mono ?_
 rintro e v8 ⟨rfl, hb⟩
 clear Q0 Q1 U0 U1
 replace hb := bS (w := v7) hb
 replace RS := mo hb RS
 clear hb
 rcases (id RS) with ⟨⟨BB⟩, ⟨⟨BU⟩, ⟨⟨BV⟩, ⟨-, ⟨-, ⟨-, ⟨-, ⟨-, ⟨-, ⟨⟨BA⟩, ⟨⟨BP⟩, ⟨⟨BQ⟩, ⟨-, ⟨-, ⟨-, ⟨-, ⟨-, ⟨-, ⟨⟨BS⟩, -⟩⟩⟩⟩⟩⟩⟩⟩⟩⟩⟩⟩⟩⟩⟩⟩⟩⟩⟩
 obtain ⟨_, _⟩ := BB.q2
 obtain ⟨_, _⟩ := BU.q2
 obtain ⟨_, _⟩ := BV.q2
 obtain ⟨_, _⟩ := BA.q2
 obtain ⟨_, _⟩ := BP.q2
 obtain ⟨_, _⟩ := BQ.q2
 obtain ⟨_, _, _, _, _, _, _, _, _, _⟩ := BS.q10
 go_wp2_with fail
 rcases (id RS) with ⟨-, ⟨-, ⟨-, ⟨-, ⟨-, ⟨⟨U2⟩, ⟨⟨U3⟩, ⟨-, ⟨-, ⟨-, ⟨-, ⟨-, ⟨-, ⟨-, ⟨⟨Q2⟩, ⟨⟨Q3⟩, -⟩⟩⟩⟩⟩⟩⟩⟩⟩⟩⟩⟩⟩⟩⟩⟩
 refine (scarfjointref06_Same.calls k _ _ r3 _ _ r4 _ _ r3 _ _ r4 true _ Q2.at_ Q2.cap Q3.at_ Q3.cap U2.at_ U2.cap U3.at_ U3.cap hs_.out).mono ?_
 rintro e v9 ⟨rfl, hb⟩
 clear Q2 Q3 U2 U3
 replace hb := bS (w := v8) hb
 replace RS := mo hb RS
 clear hb
 rcases (id RS) with ⟨⟨BB⟩, ⟨⟨BU⟩, ⟨⟨BV⟩, ⟨-, ⟨-, ⟨-, ⟨-, ⟨-, ⟨-, ⟨⟨BA⟩, ⟨⟨BP⟩, ⟨⟨BQ⟩, ⟨-, ⟨-, ⟨-, ⟨-, ⟨-, ⟨-, ⟨⟨BS⟩, -⟩⟩⟩⟩⟩⟩⟩⟩⟩⟩⟩⟩⟩⟩⟩⟩⟩⟩⟩
 obtain ⟨_, _⟩ := BB.q2
 obtain ⟨_, _⟩ := BU.q2
 obtain ⟨_, _⟩ := BV.q2
 obtain ⟨_, _⟩ := BA.q2
 obtain ⟨_, _⟩ := BP.q2
 obtain ⟨_, _⟩ := BQ.q2
 obtain ⟨_, _, _, _, _, _, _, _, _, _⟩ := BS.q10
 go_wp2_with fail
 rcases (id RS) with ⟨-, ⟨-, ⟨-, ⟨-, ⟨-, ⟨-, ⟨-, ⟨⟨U4⟩, ⟨⟨U5⟩, ⟨-, ⟨-, ⟨-, ⟨-, ⟨-, ⟨-, ⟨-, ⟨⟨Q4⟩, ⟨⟨Q5⟩, -⟩⟩⟩⟩⟩⟩⟩⟩⟩⟩⟩⟩⟩⟩⟩⟩⟩⟩
 refine (scarfjointref06_Same.calls k _ _ r5 _ _ r6 _ _ r5 _ _ r6 true _ Q4.at_ Q4.cap Q5.at_ Q5.cap U4.at_ U4.cap U5.at_ U5.cap ht_.out).mono ?_
 rintro e va ⟨rfl, hb⟩
 clear Q4 Q5 U4 U5
 replace hb := bS (w := v9) hb
 replace RS := mo hb RS
 clear hb
 rcases (id RS) with ⟨⟨BB⟩, ⟨⟨BU⟩, ⟨⟨BV⟩, ⟨-, ⟨-, ⟨-, ⟨-, ⟨-, ⟨-, ⟨⟨BA⟩, ⟨⟨BP⟩, ⟨⟨BQ⟩, ⟨-, ⟨-, ⟨-, ⟨-, ⟨-, ⟨-, ⟨⟨BS⟩, -⟩⟩⟩⟩⟩⟩⟩⟩⟩⟩⟩⟩⟩⟩⟩⟩⟩⟩⟩
 obtain ⟨_, _⟩ := BB.q2
 obtain ⟨_, _⟩ := BU.q2
 obtain ⟨_, _⟩ := BV.q2
 obtain ⟨_, _⟩ := BA.q2
 obtain ⟨_, _⟩ := BP.q2
 obtain ⟨_, _⟩ := BQ.q2
 obtain ⟨_, _, _, _, _, _, _, _, _, _⟩ := BS.q10
 have hz : (er != 0) = true := bne_iff_ne.mpr her_.out
 rcases (id RS) with ⟨-, ⟨-, ⟨-, ⟨-, ⟨-, ⟨-, ⟨-, ⟨-, ⟨-, ⟨-, ⟨-, ⟨-, ⟨-, ⟨-, ⟨-, ⟨-, ⟨-, ⟨-, ⟨-, ⟨-, ⟨-, ⟨-, ⟨-, ⟨-, ⟨-, ⟨-, ⟨-, ⟨-, ⟨-, ⟨SB⟩⟩⟩⟩⟩⟩⟩⟩⟩⟩⟩⟩⟩⟩⟩⟩⟩⟩⟩⟩⟩⟩⟩⟩⟩⟩⟩⟩⟩⟩
 go_wp2_with fail
 try go_wp2_with fail
 go_ret
 exact ⟨rfl, SB.get⟩
set_option maxHeartbeats 4000000 in
set_option maxRecDepth 100000 in
theorem law9_b (k : Nat) (A0 : Option Addr) (c0 : Nat) (x0 : List Int) (A1 : Option Addr) (c1 : Nat) (x1 : List S94) (A2 : Option Addr) (c2 : Nat) (x2 : List Int) (A3 : Option Addr) (c3 : Nat) (x3 : List S94) (A4 : Option Addr) (c4 : Nat) (x4 : List Int) (A5 : Option Addr) (c5 : Nat) (x5 : List S94) (A6 : Option Addr) (c6 : Nat) (x6 : List Int) (A7 : Option Addr) (c7 : Nat) (x7 : List Int) (A8 : Option Addr) (c8 : Nat) (x8 : List Int) (A9 : Option Addr) (c9 : Nat) (x9 : List Int) (w : World)
  (R0 : Row (Kd.int .i64) w A0 c0 x0) (R1 : Row k94 w A1 c1 x1) (R2 : Row (Kd.int .i64) w A2 c2 x2) (R3 : Row k94 w A3 c3 x3) (R4 : Row (Kd.int .i64) w A4 c4 x4) (R5 : Row k94 w A5 c5 x5) (R6 : Row (Kd.int .i64) w A6 c6 x6) (R7 : Row (Kd.int .i64) w A7 c7 x7) (R8 : Row (Kd.int .i64) w A8 c8 x8) (R9 : Row (Kd.int .i64) w A9 c9 x9)
  (r1 : List Int) (r2 : List S94) (r3 r4 r5 r6 : List Int) (m0 m1 : List Int) (P Q : List S79) (hO : pullback_Of.f k x0 x1 x2 x3 x4 x5 x6 x7 x8 x9 = some (r1, r2, r3, r4, r5, r6, 0))
  (hR : scarfjointref11_Of.f k x0 x1 x2 x3 x4 x5 x6 x7 x8 x9 = some (r1, r2, r3, r4, r5, r6, 0))
  (hS : scarfjointref05_Same.f k r1 r2 r1 r2 = some true)
  (hs : scarfjointref06_Same.f k r3 r4 r3 r4 = some true)
  (ht : scarfjointref06_Same.f k r5 r6 r5 r6 = some true)
  (hM : medF k x0 x1 x2 x3 x4 x5 x6 x7 x8 x9 r1 r2 r3 r4 r5 r6 = some (m0, m1, 0))
  (ho : pullback_of.f k x0 x1 x2 x3 x4 x5 x6 x7 x8 x9 = some (P, Q, r1, r2, 0))
  (hv : mvalid r1 r2 r1 r2 m0 m1 = 0)
  (n1 : nd m0 = (m0.length : Int))
  (n2 : nd m1 = (m1.length : Int))
  (l1 : m0.length = r1.length)
  (l2 : m1.length = r2.length)
  (l3 : m0.length ≤ 1000000)
  (l4 : m1.length ≤ 1000000) :
  Calls Try.prog 9 #[.agg #[.slice A0 x0.length c0, .slice A1 x1.length c1, .slice A2 x2.length c2, .slice A3 x3.length c3, .slice A4 x4.length c4, .slice A5 x5.length c5, .slice A6 x6.length c6, .slice A7 x7.length c7, .slice A8 x8.length c8, .slice A9 x9.length c9]] w fun e w' => e = .returned (.bool true) ∧ Below w.heap.size w w' := by
 have hO_ := Aside0.mk hO
 have hR_ := Aside0.mk hR
 have hS_ := Aside0.mk hS
 have hs_ := Aside0.mk hs
 have ht_ := Aside0.mk ht
 have hM_ := Aside0.mk hM
 have ho_ := Aside0.mk ho
 have hv_ := Aside0.mk hv
 have n1_ := Aside0.mk n1
 have n2_ := Aside0.mk n2
 have l1_ := Aside0.mk l1
 have l2_ := Aside0.mk l2
 have l3_ := Aside0.mk l3
 have l4_ := Aside0.mk l4
 clear hO hR hS hs ht hM ho hv n1 n2 l1 l2 l3 l4
 have hu25 := Try.underlying25
 have hu27 := Try.underlying27
 have hu29 := Try.underlying29
 have SB := Since.refl w
 have RS := cR R0 (cR R1 (cR R2 (cR R3 (cR R4 (cR R5 (cR R6 (cR R7 (cR R8 (cR R9 (cE SB))))))))))
 clear SB R0 R1 R2 R3 R4 R5 R6 R7 R8 R9
 go_enter Try.func9, Try.ntmps9
 go_upto_region 1 with fail
 obtain ⟨v0, hv, BS, hb⟩ := nw1 w 29 #[.slice A0 x0.length c0, .slice A1 x1.length c1, .slice A2 x2.length c2, .slice A3 x3.length c3, .slice A4 x4.length c4, .slice A5 x5.length c5, .slice A6 x6.length c6, .slice A7 x7.length c7, .slice A8 x8.length c8, .slice A9 x9.length c9]
 rw [← hv]
 clear hv
 replace RS := mo hb RS
 clear hb
 replace RS := cK BS (RS)
 clear BS
 rcases (id RS) with ⟨⟨BS⟩, -⟩
 obtain ⟨_, _, _, _, _, _, _, _, _, _⟩ := BS.q10
 go_wp2_with fail
 refine (awake_calls _).mono ?_
 rintro e v1 ⟨rfl, hb⟩
 replace hb := bS (w := v0) hb
 replace RS := mo hb RS
 clear hb
 rcases (id RS) with ⟨⟨BS⟩, -⟩
 obtain ⟨_, _, _, _, _, _, _, _, _, _⟩ := BS.q10
 go_wp2_with fail
 rcases (id RS) with ⟨-, ⟨⟨R0⟩, ⟨⟨R1⟩, ⟨⟨R2⟩, ⟨⟨R3⟩, ⟨⟨R4⟩, ⟨⟨R5⟩, ⟨⟨R6⟩, ⟨⟨R7⟩, ⟨⟨R8⟩, ⟨⟨R9⟩, -⟩⟩⟩⟩⟩⟩⟩⟩⟩⟩⟩
 refine (Few11_calls _ _ x0 _ _ x1 _ _ x2 _ _ x3 _ _ x4 _ _ x5 _ _ x6 _ _ x7 _ _ x8 _ _ x9 _ R0 R1 R2 R3 R4 R5 R6 R7 R8 R9).mono ?_
 rintro e v2 ⟨b, rfl, hb⟩
 clear R0 R1 R2 R3 R4 R5 R6 R7 R8 R9
 replace hb := bS (w := v1) hb
 replace RS := mo hb RS
 clear hb
 rcases (id RS) with ⟨⟨BS⟩, -⟩
 obtain ⟨_, _, _, _, _, _, _, _, _, _⟩ := BS.q10
 cases b with
 | false =>
  go_wp2_with fail
  refine (awake_calls _).mono ?_
  rintro e v3 ⟨rfl, hb⟩
  replace hb := bS (w := v2) hb
  replace RS := mo hb RS
  clear hb
  rcases (id RS) with ⟨-, ⟨-, ⟨-, ⟨-, ⟨-, ⟨-, ⟨-, ⟨-, ⟨-, ⟨-, ⟨-, ⟨SB⟩⟩⟩⟩⟩⟩⟩⟩⟩⟩⟩⟩
  go_wp2_with fail
  try go_wp2_with fail
  go_ret
  exact ⟨rfl, SB.get⟩
 | true =>
 go_wp2_with fail
 rcases (id RS) with ⟨-, ⟨⟨R0⟩, ⟨⟨R1⟩, ⟨⟨R2⟩, ⟨⟨R3⟩, ⟨⟨R4⟩, ⟨⟨R5⟩, ⟨⟨R6⟩, ⟨⟨R7⟩, ⟨⟨R8⟩, ⟨⟨R9⟩, -⟩⟩⟩⟩⟩⟩⟩⟩⟩⟩⟩
 refine (Of_calls k _ _ x0 _ _ x1 _ _ x2 _ _ x3 _ _ x4 _ _ x5 _ _ x6 _ _ x7 _ _ x8 _ _ x9 _ R0 R1 R2 R3 R4 R5 R6 R7 R8 R9 r1 r2 r3 r4 r5 r6 0 hO_.out).mono ?_
 rintro e v4 ⟨y0, y1, y2, y3, y4, y5, rfl, q0, q1, q2, q3, q4, q5, hb⟩
 clear R0 R1 R2 R3 R4 R5 R6 R7 R8 R9
 replace hb := bS (w := v2) hb
 replace RS := mo hb RS
 clear hb
 obtain ⟨P0, p0, rfl, Q0⟩ := q0.get
 obtain ⟨P1, p1, rfl, Q1⟩ := q1.get
 obtain ⟨P2, p2, rfl, Q2⟩ := q2.get
 obtain ⟨P3, p3, rfl, Q3⟩ := q3.get
 obtain ⟨P4, p4, rfl, Q4⟩ := q4.get
 obtain ⟨P5, p5, rfl, Q5⟩ := q5.get
 replace RS := cR Q0 (cR Q1 (cR Q2 (cR Q3 (cR Q4 (cR Q5 (RS))))))
 clear Q0 Q1 Q2 Q3 Q4 Q5
 go_upto_region 4 with fail
 obtain ⟨v5, hv, BA, BP, BQ, hb⟩ := nw3 v4 25 #[.slice P0 r1.length p0, .slice P1 r2.length p1] 27 #[.slice P2 r3.length p2, .slice P3 r4.length p3] 27 #[.slice P4 r5.length p4, .slice P5 r6.length p5]
 rw [← hv]
 clear hv
 replace RS := mo hb RS
 clear hb
 replace RS := cK BA (cK BP (cK BQ (RS)))
 clear BA BP BQ
 rcases (id RS) with ⟨⟨BA⟩, ⟨⟨BP⟩, ⟨⟨BQ⟩, ⟨-, ⟨-, ⟨-, ⟨-, ⟨-, ⟨-, ⟨⟨BS⟩, -⟩⟩⟩⟩⟩⟩⟩⟩⟩⟩
 obtain ⟨_, _⟩ := BA.q2
 obtain ⟨_, _⟩ := BP.q2
 obtain ⟨_, _⟩ := BQ.q2
 obtain ⟨_, _, _, _, _, _, _, _, _, _⟩ := BS.q10
 go_wp2_with fail
 rcases (id RS) with ⟨-, ⟨-, ⟨-, ⟨-, ⟨-, ⟨-, ⟨-, ⟨-, ⟨-, ⟨-, ⟨⟨R0⟩, ⟨⟨R1⟩, ⟨⟨R2⟩, ⟨⟨R3⟩, ⟨⟨R4⟩, ⟨⟨R5⟩, ⟨⟨R6⟩, ⟨⟨R7⟩, ⟨⟨R8⟩, ⟨⟨R9⟩, -⟩⟩⟩⟩⟩⟩⟩⟩⟩⟩⟩⟩⟩⟩⟩⟩⟩⟩⟩⟩
 refine (scarfjointref11_Of.calls k _ _ x0 _ _ x1 _ _ x2 _ _ x3 _ _ x4 _ _ x5 _ _ x6 _ _ x7 _ _ x8 _ _ x9 r1 r2 r3 r4 r5 r6 0 _ R0.at_ R0.cap R1.at_ R1.cap R2.at_ R2.cap R3.at_ R3.cap R4.at_ R4.cap R5.at_ R5.cap R6.at_ R6.cap R7.at_ R7.cap R8.at_ R8.cap R9.at_ R9.cap hR_.out).mono ?_
 rintro e v6 ⟨y0, y1, y2, y3, y4, y5, rfl, q0, q1, q2, q3, q4, q5, hb⟩
 clear R0 R1 R2 R3 R4 R5 R6 R7 R8 R9
 replace hb := bS (w := v5) hb
 replace RS := mo hb RS
 clear hb
 obtain ⟨V0, u0, rfl, U0⟩ := Row.of_R q0
 clear q0
 obtain ⟨V1, u1, rfl, U1⟩ := Row.of_R q1
 clear q1
 obtain ⟨V2, u2, rfl, U2⟩ := Row.of_R q2
 clear q2
 obtain ⟨V3, u3, rfl, U3⟩ := Row.of_R q3
 clear q3
 obtain ⟨V4, u4, rfl, U4⟩ := Row.of_R q4
 clear q4
 obtain ⟨V5, u5, rfl, U5⟩ := Row.of_R q5
 clear q5
 replace RS := cR U0 (cR U1 (cR U2 (cR U3 (cR U4 (cR U5 (RS))))))
 clear U0 U1 U2 U3 U4 U5
 go_upto_region 5 with fail
 obtain ⟨v7, hv, BB, BU, BV, hb⟩ := nw3 v6 25 #[.slice V0 r1.length u0, .slice V1 r2.length u1] 27 #[.slice V2 r3.length u2, .slice V3 r4.length u3] 27 #[.slice V4 r5.length u4, .slice V5 r6.length u5]
 rw [← hv]
 clear hv
 replace RS := mo hb RS
 clear hb
 replace RS := cK BB (cK BU (cK BV (RS)))
 clear BB BU BV
 rcases (id RS) with ⟨⟨BB⟩, ⟨⟨BU⟩, ⟨⟨BV⟩, ⟨-, ⟨-, ⟨-, ⟨-, ⟨-, ⟨-, ⟨⟨BA⟩, ⟨⟨BP⟩, ⟨⟨BQ⟩, ⟨-, ⟨-, ⟨-, ⟨-, ⟨-, ⟨-, ⟨⟨BS⟩, -⟩⟩⟩⟩⟩⟩⟩⟩⟩⟩⟩⟩⟩⟩⟩⟩⟩⟩⟩
 obtain ⟨_, _⟩ := BB.q2
 obtain ⟨_, _⟩ := BU.q2
 obtain ⟨_, _⟩ := BV.q2
 obtain ⟨_, _⟩ := BA.q2
 obtain ⟨_, _⟩ := BP.q2
 obtain ⟨_, _⟩ := BQ.q2
 obtain ⟨_, _, _, _, _, _, _, _, _, _⟩ := BS.q10
 go_wp2_with fail
 rcases (id RS) with ⟨-, ⟨-, ⟨-, ⟨⟨U0⟩, ⟨⟨U1⟩, ⟨-, ⟨-, ⟨-, ⟨-, ⟨-, ⟨-, ⟨-, ⟨⟨Q0⟩, ⟨⟨Q1⟩, -⟩⟩⟩⟩⟩⟩⟩⟩⟩⟩⟩⟩⟩⟩
 refine (scarfjointref05_Same.calls k _ _ r1 _ _ r2 _ _ r1 _ _ r2 true _ Q0.at_ Q0.cap Q1.at_ Q1.cap U0.at_ U0.cap U1.at_ U1.cap hS_.out).mono ?_
 rintro e v8 ⟨rfl, hb⟩
 clear Q0 Q1 U0 U1
 replace hb := bS (w := v7) hb
 replace RS := mo hb RS
 clear hb
 rcases (id RS) with ⟨⟨BB⟩, ⟨⟨BU⟩, ⟨⟨BV⟩, ⟨-, ⟨-, ⟨-, ⟨-, ⟨-, ⟨-, ⟨⟨BA⟩, ⟨⟨BP⟩, ⟨⟨BQ⟩, ⟨-, ⟨-, ⟨-, ⟨-, ⟨-, ⟨-, ⟨⟨BS⟩, -⟩⟩⟩⟩⟩⟩⟩⟩⟩⟩⟩⟩⟩⟩⟩⟩⟩⟩⟩
 obtain ⟨_, _⟩ := BB.q2
 obtain ⟨_, _⟩ := BU.q2
 obtain ⟨_, _⟩ := BV.q2
 obtain ⟨_, _⟩ := BA.q2
 obtain ⟨_, _⟩ := BP.q2
 obtain ⟨_, _⟩ := BQ.q2
 obtain ⟨_, _, _, _, _, _, _, _, _, _⟩ := BS.q10
 go_wp2_with fail
 rcases (id RS) with ⟨-, ⟨-, ⟨-, ⟨-, ⟨-, ⟨⟨U2⟩, ⟨⟨U3⟩, ⟨-, ⟨-, ⟨-, ⟨-, ⟨-, ⟨-, ⟨-, ⟨⟨Q2⟩, ⟨⟨Q3⟩, -⟩⟩⟩⟩⟩⟩⟩⟩⟩⟩⟩⟩⟩⟩⟩⟩
 refine (scarfjointref06_Same.calls k _ _ r3 _ _ r4 _ _ r3 _ _ r4 true _ Q2.at_ Q2.cap Q3.at_ Q3.cap U2.at_ U2.cap U3.at_ U3.cap hs_.out).mono ?_
 rintro e v9 ⟨rfl, hb⟩
 clear Q2 Q3 U2 U3
 replace hb := bS (w := v8) hb
 replace RS := mo hb RS
 clear hb
 rcases (id RS) with ⟨⟨BB⟩, ⟨⟨BU⟩, ⟨⟨BV⟩, ⟨-, ⟨-, ⟨-, ⟨-, ⟨-, ⟨-, ⟨⟨BA⟩, ⟨⟨BP⟩, ⟨⟨BQ⟩, ⟨-, ⟨-, ⟨-, ⟨-, ⟨-, ⟨-, ⟨⟨BS⟩, -⟩⟩⟩⟩⟩⟩⟩⟩⟩⟩⟩⟩⟩⟩⟩⟩⟩⟩⟩
 obtain ⟨_, _⟩ := BB.q2
 obtain ⟨_, _⟩ := BU.q2
 obtain ⟨_, _⟩ := BV.q2
 obtain ⟨_, _⟩ := BA.q2
 obtain ⟨_, _⟩ := BP.q2
 obtain ⟨_, _⟩ := BQ.q2
 obtain ⟨_, _, _, _, _, _, _, _, _, _⟩ := BS.q10
 go_wp2_with fail
 rcases (id RS) with ⟨-, ⟨-, ⟨-, ⟨-, ⟨-, ⟨-, ⟨-, ⟨⟨U4⟩, ⟨⟨U5⟩, ⟨-, ⟨-, ⟨-, ⟨-, ⟨-, ⟨-, ⟨-, ⟨⟨Q4⟩, ⟨⟨Q5⟩, -⟩⟩⟩⟩⟩⟩⟩⟩⟩⟩⟩⟩⟩⟩⟩⟩⟩⟩
 refine (scarfjointref06_Same.calls k _ _ r5 _ _ r6 _ _ r5 _ _ r6 true _ Q4.at_ Q4.cap Q5.at_ Q5.cap U4.at_ U4.cap U5.at_ U5.cap ht_.out).mono ?_
 rintro e va ⟨rfl, hb⟩
 clear Q4 Q5 U4 U5
 replace hb := bS (w := v9) hb
 replace RS := mo hb RS
 clear hb
 rcases (id RS) with ⟨⟨BB⟩, ⟨⟨BU⟩, ⟨⟨BV⟩, ⟨-, ⟨-, ⟨-, ⟨-, ⟨-, ⟨-, ⟨⟨BA⟩, ⟨⟨BP⟩, ⟨⟨BQ⟩, ⟨-, ⟨-, ⟨-, ⟨-, ⟨-, ⟨-, ⟨⟨BS⟩, -⟩⟩⟩⟩⟩⟩⟩⟩⟩⟩⟩⟩⟩⟩⟩⟩⟩⟩⟩
 obtain ⟨_, _⟩ := BB.q2
 obtain ⟨_, _⟩ := BU.q2
 obtain ⟨_, _⟩ := BV.q2
 obtain ⟨_, _⟩ := BA.q2
 obtain ⟨_, _⟩ := BP.q2
 obtain ⟨_, _⟩ := BQ.q2
 obtain ⟨_, _, _, _, _, _, _, _, _, _⟩ := BS.q10
 go_wp2_with fail
 rcases (id RS) with ⟨-, ⟨-, ⟨-, ⟨-, ⟨-, ⟨-, ⟨-, ⟨-, ⟨-, ⟨-, ⟨-, ⟨-, ⟨⟨Q0⟩, ⟨⟨Q1⟩, ⟨⟨Q2⟩, ⟨⟨Q3⟩, ⟨⟨Q4⟩, ⟨⟨Q5⟩, ⟨-, ⟨⟨R0⟩, ⟨⟨R1⟩, ⟨⟨R2⟩, ⟨⟨R3⟩, ⟨⟨R4⟩, ⟨⟨R5⟩, ⟨⟨R6⟩, ⟨⟨R7⟩, ⟨⟨R8⟩, ⟨⟨R9⟩, -⟩⟩⟩⟩⟩⟩⟩⟩⟩⟩⟩⟩⟩⟩⟩⟩⟩⟩⟩⟩⟩⟩⟩⟩⟩⟩⟩⟩⟩
 refine (Check_b k _ _ x0 _ _ x1 _ _ x2 _ _ x3 _ _ x4 _ _ x5 _ _ x6 _ _ x7 _ _ x8 _ _ x9 _ _ r1 _ _ r2 _ _ r3 _ _ r4 _ _ r5 _ _ r6 _ R0 R1 R2 R3 R4 R5 R6 R7 R8 R9 Q0 Q1 Q2 Q3 Q4 Q5 m0 m1 P Q r1 r2 true true true true true hM_.out ho_.out (decide_eq_true hv_.out) (fun _ => decide_eq_true n1_.out) (fun _ => decide_eq_true n2_.out) (decide_eq_true hv_.out) (fun _ => decide_eq_true (by have h1 := n1_.out; have h2 := l1_.out; omega)) (fun _ => decide_eq_true (by have h1 := n2_.out; have h2 := l2_.out; omega)) ⟨fun _ => l3_.out, fun _ => l4_.out⟩ true rfl).mono ?_
 rintro e vb ⟨rfl, hb⟩
 clear R0 R1 R2 R3 R4 R5 R6 R7 R8 R9 Q0 Q1 Q2 Q3 Q4 Q5
 replace hb := bS (w := va) hb
 replace RS := mo hb RS
 clear hb
 rcases (id RS) with ⟨-, ⟨-, ⟨-, ⟨-, ⟨-, ⟨-, ⟨-, ⟨-, ⟨-, ⟨-, ⟨-, ⟨-, ⟨-, ⟨-, ⟨-, ⟨-, ⟨-, ⟨-, ⟨-, ⟨-, ⟨-, ⟨-, ⟨-, ⟨-, ⟨-, ⟨-, ⟨-, ⟨-, ⟨-, ⟨SB⟩⟩⟩⟩⟩⟩⟩⟩⟩⟩⟩⟩⟩⟩⟩⟩⟩⟩⟩⟩⟩⟩⟩⟩⟩⟩⟩⟩⟩⟩
 go_wp2_with fail
 try go_wp2_with fail
 go_ret
 exact ⟨rfl, SB.get⟩
end Go.Proofs.Ytillofiphkmjjaa.X

/- Plain laws: pairs of places. -/
namespace Go.Proofs.Ytillofiphkmjjaa.Pl
open Go.RowKit Go.Proofs.YtillofiphkmjjaaW.PrintWords Go.Proofs.Ytillofiphkmjjaa.X
set_option linter.unusedVariables false
theorem rd_mid' (pre : List Int) (x : Int) (r : List Int) {n : Nat} (h : n = pre.length) : rd (pre ++ x :: r) (n : Int) = x := by subst h; exact rd_mid pre x r
theorem lt_mid' {α : Type} (pre : List α) (x : α) (r : List α) {n : Nat} (h : n = pre.length) : (n : Int) < ((pre ++ x :: r).length : Int) := by subst h; exact lt_mid pre x r
/-! pairs of places -/
def row1 (i x : Int) : Int → List Int → List S79
 | _, [] => []
 | k, y :: s => if x = y then ⟨i, k⟩ :: row1 i x (k + 1) s else row1 i x (k + 1) s
def rows (g : List Int) : Int → List Int → List S79
 | _, [] => []
 | i, x :: r => row1 i x 0 g ++ rows g (i + 1) r
def tri : Int → List Int → List S79
 | _, [] => []
 | i, x :: r => row1 i x (i + 1) r ++ tri (i + 1) r
theorem row1_len (i x : Int) : ∀ (s : List Int) (k : Int), (row1 i x k s).length ≤ s.length := by
 intro s
 induction s with
 | nil => intro k; simp [row1]
 | cons y s ih =>
  intro k
  have := ih (k + 1)
  unfold row1
  split <;> simp <;> omega
theorem pairs_l1 (f g : List Int) (i x : Int) {R : List S79} (hg : g.length ≤ 1000000) : ∀ (r pre : List Int) (acc : List S79), g = pre ++ r → acc.length + r.length ≤ 8796093022207 →
  Ev (fun k => pullback_pairs.l0 k g (acc ++ row1 i x pre.length r) f (f.length : Int) (wrap64 (i + 1))) R → Ev (fun k => pullback_pairs.l1 k g acc i x f (f.length : Int) i g (g.length : Int) (pre.length : Int)) R := by
 intro r
 induction r with
 | nil =>
  rintro pre acc rfl h1 h
  refine Ev.step (fun k => by simp only [pullback_pairs.l1]; rw [if_neg (by simp)]) ?_
  simpa [row1] using h
 | cons y r ih =>
  rintro pre acc rfl h1 h
  simp at hg h1
  have e : wrap64 ((pre.length : Int) + 1) = ((pre ++ [y]).length : Int) := wrap_mid pre y r (by simp; omega)
  by_cases hxy : x = y
  ·refine Ev.step (fun k => by simp only [pullback_pairs.l1]; rw [if_pos (lt_mid pre y r), if_pos (by omega), if_pos (lt_mid pre y r), rd_mid, if_pos hxy, if_pos (by omega), e]) ?_
   refine ih (pre ++ [y]) _ (snoc_mid pre y r) (by simp; omega) ?_
   have e2 : row1 i x (pre.length : Int) (y :: r) = ⟨i, (pre.length : Int)⟩ :: row1 i x ((pre.length : Int) + 1) r := by rw [row1, if_pos hxy]
   rw [e2] at h
   simpa using h
  ·refine Ev.step (fun k => by simp only [pullback_pairs.l1]; rw [if_pos (lt_mid pre y r), if_pos (by omega), if_pos (lt_mid pre y r), rd_mid, if_neg hxy, e]) ?_
   refine ih (pre ++ [y]) _ (snoc_mid pre y r) (by omega) ?_
   have e2 : row1 i x (pre.length : Int) (y :: r) = row1 i x ((pre.length : Int) + 1) r := by rw [row1, if_neg hxy]
   rw [e2] at h
   simpa using h
theorem pairs_l0 (f g : List Int) (hf : f.length ≤ 1000000) (hg : g.length ≤ 1000000) : ∀ (r pre : List Int) (acc : List S79), f = pre ++ r → acc.length + r.length * g.length ≤ 8796093022207 →
  Ev (fun k => pullback_pairs.l0 k g acc f (f.length : Int) (pre.length : Int)) (acc ++ rows g pre.length r) := by
 intro r
 induction r with
 | nil =>
  rintro pre acc rfl h1
  refine Ev.step (fun k => by simp only [pullback_pairs.l0]; rw [if_neg (by simp)]) ?_
  simpa [rows] using Ev.now acc
 | cons x r ih =>
  rintro pre acc rfl h1
  rw [List.length_cons, Nat.succ_mul] at h1
  have e : wrap64 ((pre.length : Int) + 1) = ((pre ++ [x]).length : Int) := wrap_mid pre x r (by omega)
  have hr := row1_len (pre.length : Int) x g 0
  have ih' := ih (pre ++ [x]) (acc ++ row1 (pre.length : Int) x 0 g) (snoc_mid pre x r) (by rw [List.length_append]; omega)
  refine Ev.step (fun k => by simp only [pullback_pairs.l0]; rw [if_pos (lt_mid pre x r), if_pos (by omega), if_pos (lt_mid pre x r), rd_mid]) ?_
  refine pairs_l1 (pre ++ x :: r) g (pre.length : Int) x hg g [] acc rfl (by omega) ?_
  rw [e]
  have e2 : rows g (pre.length : Int) (x :: r) = row1 (pre.length : Int) x 0 g ++ rows g ((pre.length : Int) + 1) r := rfl
  rw [e2]
  simpa using ih'
theorem pairs_ev (f g : List Int) (hf : f.length ≤ 1000000) (hg : g.length ≤ 1000000) : Ev (fun k => pullback_pairs.f k f g) (rows g 0 f) := by
 unfold pullback_pairs.f
 have := Nat.mul_le_mul hf hg
 simpa using pairs_l0 f g hf hg f [] [] rfl (by simp; omega)
/-! both kernels are one -/
theorem row1_append (i x : Int) : ∀ (a b : List Int) (k : Int), row1 i x k (a ++ b) = row1 i x k a ++ row1 i x (k + a.length) b := by
 intro a
 induction a with
 | nil => intro b k; simp [row1]
 | cons y a ih =>
  intro b k
  have e : k + 1 + (a.length : Int) = k + ((y :: a).length : Int) := by simp; omega
  simp only [List.cons_append, row1]
  split
  ·rw [ih, e]; rfl
  ·rw [ih, e]
theorem row1_mem (i x : Int) : ∀ (s : List Int) (k : Int) (p : S79), p ∈ row1 i x k s → p.f0 = i ∧ k ≤ p.f1 ∧ p.f1 < k + s.length := by
 intro s
 induction s with
 | nil => intro k p h; simp [row1] at h
 | cons y s ih =>
  intro k p h
  unfold row1 at h
  have hi := ih (k + 1) p
  split at h
  ·rcases List.mem_cons.mp h with rfl | h
   ·refine ⟨rfl, Int.le_refl _, ?_⟩
    simp; omega
   ·have := hi h
    refine ⟨this.1, by omega, ?_⟩
    simp; omega
  ·have := hi h
   refine ⟨this.1, by omega, ?_⟩
   simp; omega
theorem rows_filter (f : List Int) : ∀ (r pre : List Int), f = pre ++ r → (rows f pre.length r).filter (fun p => !decide (p.f0 ≥ p.f1)) = tri pre.length r := by
 intro r
 induction r with
 | nil => intro pre h; rfl
 | cons x r ih =>
  intro pre h
  have ih' := ih (pre ++ [x]) (by rw [h]; exact snoc_mid pre x r)
  have e2 : tri (pre.length : Int) (x :: r) = row1 (pre.length : Int) x ((pre.length : Int) + 1) r ++ tri ((pre.length : Int) + 1) r := rfl
  have e3 : rows f (pre.length : Int) (x :: r) = row1 (pre.length : Int) x 0 f ++ rows f ((pre.length : Int) + 1) r := rfl
  have e4 : row1 (pre.length : Int) x 0 f = row1 (pre.length : Int) x 0 (pre ++ [x]) ++ row1 (pre.length : Int) x ((pre.length : Int) + 1) r := by
   conv => lhs; rw [h, snoc_mid pre x r, row1_append]
   simp
  rw [e2, e3, e4, List.filter_append, List.filter_append]
  have e5 : (row1 (pre.length : Int) x 0 (pre ++ [x])).filter (fun p => !decide (p.f0 ≥ p.f1)) = [] := by
   rw [List.filter_eq_nil_iff]
   intro p hp
   obtain ⟨h1, h2, h3⟩ := row1_mem _ _ _ _ _ hp
   simp at h3
   have : p.f0 ≥ p.f1 := by omega
   simp [this]
  have e6 : (row1 (pre.length : Int) x ((pre.length : Int) + 1) r).filter (fun p => !decide (p.f0 ≥ p.f1)) = row1 (pre.length : Int) x ((pre.length : Int) + 1) r := by
   rw [List.filter_eq_self]
   intro p hp
   obtain ⟨h1, h2, h3⟩ := row1_mem _ _ _ _ _ hp
   have : ¬ p.f0 ≥ p.f1 := by omega
   simp [this]
  rw [e5, e6]
  have e7 : ((pre ++ [x]).length : Int) = (pre.length : Int) + 1 := by simp
  rw [e7] at ih'
  rw [ih']
  rfl
theorem row1_nil (i x : Int) : ∀ (s : List Int) (k : Int), row1 i x k s = [] ↔ x ∉ s := by
 intro s
 induction s with
 | nil => intro k; simp [row1]
 | cons y s ih =>
  intro k
  unfold row1
  by_cases h : x = y
  ·simp [h]
  ·simp [h, ih]
theorem tri_nil : ∀ (l : List Int) (i : Int), tri i l = [] ↔ l.Nodup := by
 intro l
 induction l with
 | nil => intro i; simp [tri]
 | cons x r ih =>
  intro i
  rw [tri, List.append_eq_nil_iff, row1_nil, ih, List.nodup_cons]
theorem rd79_mid (pre : List S79) (x : S79) (r : List S79) : rd_T79 (pre ++ x :: r) (pre.length : Int) = x := by
 unfold rd_T79; rw [Int.toNat_natCast, List.getD_eq_getElem?_getD, List.getElem?_append_right (Nat.le_refl _)]; simp
end Go.Proofs.Ytillofiphkmjjaa.Pl
