/- A part of the proof that the law PullbackEqualizer returns true at every input: contracts of the functions that it calls, and lemmas. -/
import Derived.Test.YtillofiphkmjjaaZPullbackEqualizer2
namespace Go.Proofs.Ytillofiphkmjjaa.X
open Go.RowKit Go.Proofs.YtillofiphkmjjaaW.PrintWords Go.Proofs.YtillofiphkmjjaaW.PrintLast Go.Proofs.YtillofiphkmjjaaW.PrintMore
open Go.Proofs.YtillofiphkmjjaaW.PrintWords renaming blk_drewN → bN, blk_drew → bD, blk_alloc → bA, below_alloc → wA, pw_below_drewN → wN, below_drew1 → wD, blk_below → bB, below_step → wS, blk_at → bT, blk_grown → bG
open Go.Proofs.YtillofiphkmjjaaW.PrintWords.Kd renaming R_alloc → rA, R_drewN → rN, R_drew → rD, R_below → rB, R_grown → rG, C_below → cB, C_alloc → cA, C_drewN → cN, C_drew → cD
attribute [local go_sem] max2_int min2_int max_two min_two max_three min_three max_four min_four
set_option linter.unusedVariables false
set_option linter.unusedSimpArgs false
/-! ### pullback_meet: function 43 -/
def pullback_meet.l0 : Nat → List (S79) → List Int → List Int → List Int → Int → Int → Option (List Int × Bool)
 | 0, _, _, _, _, _, _ => none
 | k + 1, x0, x1, x2, x8, x12, x13 => if x13 < x12 then (if 0 ≤ x13 then (if x13 < (x1.length : Int) then (if x13 < (x2.length : Int) then ((api_Pair_73.f k x0 (rd x1 x13) (rd x2 x13)).bind fun t103 => (if t103 < 0 then (some (([] : List Int), false)) else (if x8.length < 17592186044416 then (pullback_meet.l0 k x0 x1 x2 (x8 ++ [t103]) x12 (wrap64 (x13 + 1))) else (none)))) else (none)) else (none)) else (none)) else (some (x8, true))
def pullback_meet.f (k : Nat) (l0 : List (S79)) (l1 : List Int) (l2 : List Int) : Option (List Int × Bool) := pullback_meet.l0 k l0 l1 l2 ([] : List Int) (l1.length : Int) 0
theorem pullback_meet.mono_l : ∀ k, (∀ y0 y1 y2 y3 y4 y5, LeO (pullback_meet.l0 k y0 y1 y2 y3 y4 y5) (pullback_meet.l0 (k + 1) y0 y1 y2 y3 y4 y5))
 | 0 => fun _ _ _ _ _ _ r h => by simp [pullback_meet.l0] at h
 | k + 1 => by
  have ih0 := pullback_meet.mono_l k
  ·intro y0 y1 y2 y3 y4 y5
   unfold pullback_meet.l0
   repeat' first
   | (with_reducible exact ih0 _ _ _ _ _ _)
   | (with_reducible exact api_Pair_73.mono _ _ _ _)
   | (with_reducible exact LeO.refl _)
   | (with_reducible exact LeO.none _)
   | (with_reducible refine LeO.ite ?_ ?_)
   | (with_reducible refine LeO.bind ?_ (fun _ => ?_))
   | exact ih0 _ _ _ _ _ _
   | exact api_Pair_73.mono _ _ _ _
   | exact LeO.none _
   | refine LeO.ite ?_ ?_
   | refine LeO.bind ?_ (fun _ => ?_)
theorem pullback_meet.mono : ∀ a0 a1 a2 k, LeO (pullback_meet.f k a0 a1 a2) (pullback_meet.f (k + 1) a0 a1 a2) := by
 intro a0 a1 a2 k
 have ih0 := pullback_meet.mono_l k
 unfold pullback_meet.f
 repeat' first
   | (with_reducible exact ih0 _ _ _ _ _ _)
   | (with_reducible exact api_Pair_73.mono _ _ _ _)
   | (with_reducible exact LeO.refl _)
   | (with_reducible exact LeO.none _)
   | (with_reducible refine LeO.ite ?_ ?_)
   | (with_reducible refine LeO.bind ?_ (fun _ => ?_))
   | exact ih0 _ _ _ _ _ _
   | exact api_Pair_73.mono _ _ _ _
   | exact LeO.none _
   | refine LeO.ite ?_ ?_
   | refine LeO.bind ?_ (fun _ => ?_)
def pullback_meet.T5 : Bool × List (List Nat × List Nat) := (true, [([], []), ([], []), ([], []), ([1, 2], [1, 2]), ([3], [3]), ([], []), ([], []), ([5, 6], [5, 6]), ([7], [7]), ([4, 8], [4, 8]), ([0, 9], [0, 9]), ([10, 10, 0, 1, 2, 3, 4, 5, 6, 7, 8, 9, 10], [10])])
def pullback_meet.B5 : List Nat := [0, 0, 0, 6, 14, 0, 0, 96, 224, 510, 1023, 2047]
theorem pullback_meet.tab5 : rtab .any (opsOf Try.f43 5) = pullback_meet.T5 := by kernel_rfl
theorem pullback_meet.bits5 : waitsOk pullback_meet.T5.2 pullback_meet.B5 = true := by kernel_rfl
set_option maxHeartbeats 8000000 in
set_option maxRecDepth 100000 in
theorem pullback_meet.calls (k : Nat) (A0 : Option Addr) (c0 : Nat) (l0 : List (S79)) (A1 : Option Addr) (c1 : Nat) (l1 : List Int) (A2 : Option Addr) (c2 : Nat) (l2 : List Int) (r1 : List Int) (r2 : Bool) (w : World) (hr0 : Kd.C k79 w A0 l0.length l0) (hc0 : l0.length ≤ c0) (hr1 : Kd.C (Kd.int .i64) w A1 l1.length l1) (hc1 : l1.length ≤ c1) (hr2 : Kd.C (Kd.int .i64) w A2 l2.length l2) (hc2 : l2.length ≤ c2) (h : pullback_meet.f k l0 l1 l2 = some (r1, r2)) :
  Calls Try.prog 43 #[.slice A0 l0.length c0, .slice A1 l1.length c1, .slice A2 l2.length c2] w fun e w' => ∃ v0_ : Value, e = .returned (.tuple #[v0_, .bool r2]) ∧ Kd.R (Kd.int .i64) 3 w' w.heap.size (fun _ => True) v0_ r1 ∧ Below w.heap.size w w' := by
 have hu79 := Try.underlying79
 have HR0 := Aside0.mk hr0
 have HC0 := Aside0.mk hc0
 clear hr0 hc0
 have HR1 := Aside0.mk hr1
 have HC1 := Aside0.mk hc1
 clear hr1 hc1
 have HR2 := Aside0.mk hr2
 have HC2 := Aside0.mk hc2
 clear hr2 hc2
 have HB := Aside0.mk (Below.refl w.heap.size w)
 have H : (pullback_meet.l0 k l0 l1 l2 ([] : List Int) (l1.length : Int) 0) = some (r1, r2) := h
 clear h
 have H' := Aside0.mk H
 clear H
 go_enter Try.func43, Try.ntmps43
 go_wp2
 go_loopg [8, 13] k (fun kq v8 v13 w' => ∃ (x8_1 : List Int) (x13_1 : Int), v13 = .int .i64 x13_1 ∧ Aside0 (pullback_meet.l0 kq l0 l1 l2 x8_1 (l1.length : Int) x13_1 = some (r1, r2)) ∧ Aside0 (kq ≤ k) ∧ Aside0 (Kd.R (Kd.int .i64) 3 w' w.heap.size (fun _ => True) v8 x8_1) ∧ Aside0 (Below w.heap.size w w'))
 case atStart => exact ⟨(([] : List Int)), (0), rS, H', ⟨Nat.le_refl _⟩, ⟨by first | exact Kd.R_nil _ _ _ _ _ | exact Kd.N_nil _ _ _ _ _ | exact Kd.V_nil _ _ _ _ _ | exact Kd.Q_nil _ _ _ _ _ | exact Kd.S_nil _ _ _ _ _⟩, ⟨pH HB⟩⟩
 case round =>
  clear H'
  try clear c1; try clear c2; try clear p2
  obtain ⟨x8_1, x13_1, rfl, HA, HK1, Q00, HB⟩ := hrel
  cases gk with
  | zero => exact absurd HA.out (by simp [pullback_meet.l0])
  | succ k1 =>
   have H := HA.out
   clear HA
   simp only [pullback_meet.l0] at H
   by_cases c4 : x13_1 < (l1.length : Int)
   ·rw [if_pos c4] at H
    have c4b0 : decide (x13_1 < (l1.length : Int)) = true := decide_eq_true c4
    clear c4
    by_cases c5 : 0 ≤ x13_1
    ·rw [if_pos c5] at H
     have c5b0 : decide (0 ≤ x13_1) = true := decide_eq_true c5
     clear c5
     by_cases c6 : x13_1 < (l1.length : Int)
     ·rw [if_pos c6] at H
      have c6b0 : decide (x13_1 < (l1.length : Int)) = true := decide_eq_true c6
      clear c6
      by_cases c7 : x13_1 < (l2.length : Int)
      ·rw [if_pos c7] at H
       have c7b0 : decide (x13_1 < (l2.length : Int)) = true := decide_eq_true c7
       clear c7
       replace H := Option.bind_eq_some_iff.mp H
       obtain ⟨t103, A80, H⟩ := H
       replace H : (if t103 < 0 then (some (([] : List Int), false)) else (if x8_1.length < 17592186044416 then (pullback_meet.l0 k1 l0 l1 l2 (x8_1 ++ [t103]) (l1.length : Int) (wrap64 (x13_1 + 1))) else (none))) = some (r1, r2) := H
       have A8 := Aside0.mk A80
       clear A80
       by_cases c9 : t103 < 0
       ·rw [if_pos c9] at H
        have c9b0 : decide (t103 < 0) = true := decide_eq_true c9
        clear c9
        simp only [Option.some.injEq, Prod.mk.injEq] at H
        obtain ⟨rfl, rfl⟩ := H
        try go_wp2
        replace Q00 := Aside0.mk (rD Q00.out)
        replace HB := Aside0.mk (wD HB.out)
        have p101 : 0 ≤ (x13_1 : Int) := oT
        have q101 : x13_1 < (l1.length : Int) := oT
        obtain ⟨ad101, e101, hx101_0⟩ := Kd.at_int HR1.out x13_1 p101 q101
        have hw101_0 := hx101_0
        cases e101
        replace hx101_0 := (HB.out.cell (World.block_lt_of_cell? w _ hx101_0)).trans hx101_0
        replace p101 := eq_true p101
        replace q101 := eq_true q101
        have p102 : 0 ≤ (x13_1 : Int) := oT
        have q102 : x13_1 < (l2.length : Int) := oT
        obtain ⟨ad102, e102, hx102_0⟩ := Kd.at_int HR2.out x13_1 p102 q102
        have hw102_0 := hx102_0
        cases e102
        replace hx102_0 := (HB.out.cell (World.block_lt_of_cell? w _ hx102_0)).trans hx102_0
        replace p102 := eq_true p102
        replace q102 := eq_true q102
        refine start_ (n := 12) (S := fun w' => w'.cell? (ad101.add (x13_1).toNat) = some (.int .i64 (rd l1 x13_1)) ∧ w'.cell? (ad102.add (x13_1).toNat) = some (.int .i64 (rd l2 x13_1))) (ds := []) #[false, false, false, false, false, false, false, false, false, false, false, false] (by kernel_rfl) rfl rfl ⟨((HB.out.cell (World.block_lt_of_cell? w _ hw101_0)).trans hw101_0), ((HB.out.cell (World.block_lt_of_cell? w _ hw102_0)).trans hw102_0)⟩ (fun hHeld => ?_); refine with_tabW pullback_meet.tab5 pullback_meet.bits5 (fun HT_ HW_ => ?_)
        generalize wr.drew = w10 at Q00 HB hx101_0 hx102_0 hHeld ⊢
        refine pure_ (i := 0) (N := some 16) (v := ?_) (a' := ?_) #[true, false, false, false, false, false, false, false, false, false, false, false] rfl rfl (any_of HT_.out (by kernel_rfl)) (fun _ _ _ h => h) (Or.inl ⟨by rfl, ?_⟩) ?_ ?_
        rotate_left
        ·intro w'
         go_simp
         with_reducible rfl
        rotate_left
        ·simp only [Act.put, List.setIfInBounds_toArray, List.set_cons_zero, List.set_cons_succ, i64_w, i32_w]
         rfl
        refine pure_ (i := 1) (N := some 17) (v := ?_) (a' := ?_) #[true, true, false, false, false, false, false, false, false, false, false, false] rfl rfl (any_of HT_.out (by kernel_rfl)) (fun _ _ _ h => h) (Or.inl ⟨by rfl, ?_⟩) ?_ ?_
        rotate_left
        ·intro w'
         go_simp
         with_reducible rfl
        rotate_left
        ·simp only [Act.put, List.setIfInBounds_toArray, List.set_cons_zero, List.set_cons_succ, i64_w, i32_w]
         rfl
        refine pure_ (i := 2) (N := some 18) (v := ?_) (a' := ?_) #[true, true, true, false, false, false, false, false, false, false, false, false] rfl rfl (any_of HT_.out (by kernel_rfl)) (fun _ _ _ h => h) (Or.inl ⟨by rfl, ?_⟩) ?_ ?_
        rotate_left
        ·intro w'
         go_simp
         with_reducible rfl
        rotate_left
        ·simp only [Act.put, List.setIfInBounds_toArray, List.set_cons_zero, List.set_cons_succ, i64_w, i32_w]
         rfl
        refine pure_ (i := 3) (N := some 19) (v := ?_) (a' := ?_) #[true, true, true, true, false, false, false, false, false, false, false, false] rfl rfl (any_of HT_.out (by kernel_rfl)) (fun _ _ _ h => h) (Or.inl ⟨by rfl, ?_⟩) ?_ ?_
        rotate_left
        ·intro w'
         go_simp
         with_reducible rfl
        rotate_left
        ·simp only [Act.put, List.setIfInBounds_toArray, List.set_cons_zero, List.set_cons_succ, i64_w, i32_w]
         rfl
        refine pure_ (i := 5) (N := some 21) (v := ?_) (a' := ?_) #[true, true, true, true, false, true, false, false, false, false, false, false] rfl rfl (any_of HT_.out (by kernel_rfl)) (fun _ _ _ h => h) (Or.inl ⟨by rfl, ?_⟩) ?_ ?_
        rotate_left
        ·intro w'
         go_simp
         with_reducible rfl
        rotate_left
        ·simp only [Act.put, List.setIfInBounds_toArray, List.set_cons_zero, List.set_cons_succ, i64_w, i32_w]
         rfl
        refine pure_ (i := 6) (N := some 22) (v := ?_) (a' := ?_) #[true, true, true, true, false, true, true, false, false, false, false, false] rfl rfl (any_of HT_.out (by kernel_rfl)) (fun _ _ _ h => h) (Or.inl ⟨by rfl, ?_⟩) ?_ ?_
        rotate_left
        ·intro w'
         go_simp
         with_reducible rfl
        rotate_left
        ·simp only [Act.put, List.setIfInBounds_toArray, List.set_cons_zero, List.set_cons_succ, i64_w, i32_w]
         rfl
        refine pure_ (i := 7) (N := some 23) (v := ?_) (a' := ?_) #[true, true, true, true, false, true, true, true, false, false, false, false] rfl rfl (any_of HT_.out (by kernel_rfl)) (fun _ _ _ h => h) (Or.inl ⟨by rfl, ?_⟩) ?_ ?_
        rotate_left
        ·intro w'
         go_simp
         with_reducible rfl
        rotate_left
        ·simp only [Act.put, List.setIfInBounds_toArray, List.set_cons_zero, List.set_cons_succ, i64_w, i32_w]
         rfl
        refine take_ (i := 4) (N := some 20) (v := ?_) (a' := ?_) #[true, true, true, true, true, true, true, true, false, false, false, false] rfl rfl (take_ofW HT_.out HW_.out (by kernel_rfl)) (fun _ _ _ h => h) (Or.inl ⟨by rfl, ?_⟩) hHeld ?_ ?_
        rotate_left
        ·rintro w' ⟨s0, s1⟩
         go_simp
         with_reducible rfl
        rotate_left
        ·simp only [Act.put, List.setIfInBounds_toArray, List.set_cons_zero, List.set_cons_succ, i64_w, i32_w]
         rfl
        refine take_ (i := 8) (N := some 24) (v := ?_) (a' := ?_) #[true, true, true, true, true, true, true, true, true, false, false, false] rfl rfl (take_ofW HT_.out HW_.out (by kernel_rfl)) (fun _ _ _ h => h) (Or.inl ⟨by rfl, ?_⟩) hHeld ?_ ?_
        rotate_left
        ·rintro w' ⟨s0, s1⟩
         go_simp
         with_reducible rfl
        rotate_left
        ·simp only [Act.put, List.setIfInBounds_toArray, List.set_cons_zero, List.set_cons_succ, i64_w, i32_w]
         rfl
        refine pure_ (i := 9) (N := some 25) (v := ?_) (a' := ?_) #[true, true, true, true, true, true, true, true, true, true, false, false] rfl rfl (any_of HT_.out (by kernel_rfl)) (fun _ _ _ h => h) (Or.inl ⟨by rfl, ?_⟩) ?_ ?_
        rotate_left
        ·intro w'
         go_simp
         with_reducible rfl
        rotate_left
        ·simp only [Act.put, List.setIfInBounds_toArray, List.set_cons_zero, List.set_cons_succ, i64_w, i32_w]
         rfl
        refine one_ (i := 10) (N := some 26) #[true, true, true, true, true, true, true, true, true, true, true, false] rfl rfl (one_of HT_.out (by kernel_rfl)) (by decide) (fun K hK => ?_)
        refine goes_ Try.func73 (by kernel_rfl) rfl #[.slice A0 l0.length c0, .agg #[.int .i64 (rd l1 x13_1), .int .i64 (rd l2 x13_1)]] (by rfl) rfl rfl aM ?_
        with_reducible refine (api_Pair_73.calls k1 _ _ l0 (rd l1 x13_1) (rd l2 x13_1) t103 _ ?side1 ?side2 A8.out).mono ?_
        (case side1 => repeat (first | exact (cB HR0.out HB.out) | (with_reducible refine cA ?_ _) | (with_reducible refine cN ?_ _) | (with_reducible refine cD ?_)))
        (case side2 => exact HC0.out)
        rintro e w11 ⟨rfl, hb⟩
        refine ⟨_, rfl, ?_⟩
        replace Q00 := uR Q00 hb
        replace HB := uH HB hb
        (try clear hb)
        (try clear hb2)
        (try clear hk)
        (try clear hi)
        refine hK.out _ _ ⟨((HB.out.cell (World.block_lt_of_cell? w _ hw101_0)).trans hw101_0), ((HB.out.cell (World.block_lt_of_cell? w _ hw102_0)).trans hw102_0)⟩ (fun hHeld => ?_)
        clear hK K
        refine norm_ (a' := ?_) ?_ ?_
        rotate_left
        ·show Act.put _ (some 26) _ = _
         simp only [Act.put, List.setIfInBounds_toArray, List.set_cons_zero, List.set_cons_succ, i64_w, i32_w]
         rfl
        refine pure_ (i := 11) (N := some 10) (v := ?_) (a' := ?_) #[true, true, true, true, true, true, true, true, true, true, true, true] rfl rfl (any_of HT_.out (by kernel_rfl)) (fun _ _ _ h => h) (Or.inl ⟨by rfl, ?_⟩) ?_ ?_
        rotate_left
        ·intro w'
         go_simp
         with_reducible rfl
        rotate_left
        ·simp only [Act.put, List.setIfInBounds_toArray, List.set_cons_zero, List.set_cons_succ, i64_w, i32_w]
         rfl
        refine done_ (done_of HT_.out (by kernel_rfl)) ?_
        try go_wp2
        go_ret2
        exact ⟨_, by first | rfl | (simp [errW_none, errW_some] <;> rfl) | (simp [*, errW_none, errW_some] <;> rfl), by first | exact Kd.R_nil _ _ _ _ _ | exact Kd.N_nil _ _ _ _ _ | exact Kd.V_nil _ _ _ _ _ | exact Kd.Q_nil _ _ _ _ _ | exact Kd.S_nil _ _ _ _ _, by repeat (first | (with_reducible first | exact HB.out | apply wA | apply wN | apply wD) | exact HB.out)⟩
       ·rw [if_neg c9] at H
        have c9b0 : decide (t103 < 0) = false := decide_eq_false c9
        clear c9
        by_cases c12 : x8_1.length < 17592186044416
        ·rw [if_pos c12] at H
         have LMc12 := Aside0.mk c12
         clear c12
         obtain ⟨y104, hy104⟩ : ∃ y_ : List Int, y_ = (x8_1 ++ [t103]) := ⟨_, rfl⟩
         replace H : (pullback_meet.l0 k1 l0 l1 l2 y104 (l1.length : Int) (wrap64 (x13_1 + 1))) = some (r1, r2) := by first | (rw [hy104]; with_reducible exact H) | (have H2_ := (Option.bind_some _ _).symm.trans H; rw [hy104]; with_reducible exact H2_) | (have H2_ := (Option.bind_some _ _).symm.trans H; with_reducible exact H2_) | with_reducible exact H | (rw [hy104]; exact H) | exact H
         have Ny104 := Aside0.mk hy104
         clear hy104
         have H' := Aside0.mk H
         clear H
         try go_wp2
         replace Q00 := Aside0.mk (rD Q00.out)
         replace HB := Aside0.mk (wD HB.out)
         have p101 : 0 ≤ (x13_1 : Int) := oT
         have q101 : x13_1 < (l1.length : Int) := oT
         obtain ⟨ad101, e101, hx101_0⟩ := Kd.at_int HR1.out x13_1 p101 q101
         have hw101_0 := hx101_0
         cases e101
         replace hx101_0 := (HB.out.cell (World.block_lt_of_cell? w _ hx101_0)).trans hx101_0
         replace p101 := eq_true p101
         replace q101 := eq_true q101
         have p102 : 0 ≤ (x13_1 : Int) := oT
         have q102 : x13_1 < (l2.length : Int) := oT
         obtain ⟨ad102, e102, hx102_0⟩ := Kd.at_int HR2.out x13_1 p102 q102
         have hw102_0 := hx102_0
         cases e102
         replace hx102_0 := (HB.out.cell (World.block_lt_of_cell? w _ hx102_0)).trans hx102_0
         replace p102 := eq_true p102
         replace q102 := eq_true q102
         refine start_ (n := 12) (S := fun w' => w'.cell? (ad101.add (x13_1).toNat) = some (.int .i64 (rd l1 x13_1)) ∧ w'.cell? (ad102.add (x13_1).toNat) = some (.int .i64 (rd l2 x13_1))) (ds := []) #[false, false, false, false, false, false, false, false, false, false, false, false] (by kernel_rfl) rfl rfl ⟨((HB.out.cell (World.block_lt_of_cell? w _ hw101_0)).trans hw101_0), ((HB.out.cell (World.block_lt_of_cell? w _ hw102_0)).trans hw102_0)⟩ (fun hHeld => ?_); refine with_tabW pullback_meet.tab5 pullback_meet.bits5 (fun HT_ HW_ => ?_)
         generalize wr.drew = w13 at Q00 HB hx101_0 hx102_0 hHeld ⊢
         refine pure_ (i := 0) (N := some 16) (v := ?_) (a' := ?_) #[true, false, false, false, false, false, false, false, false, false, false, false] rfl rfl (any_of HT_.out (by kernel_rfl)) (fun _ _ _ h => h) (Or.inl ⟨by rfl, ?_⟩) ?_ ?_
         rotate_left
         ·intro w'
          go_simp
          with_reducible rfl
         rotate_left
         ·simp only [Act.put, List.setIfInBounds_toArray, List.set_cons_zero, List.set_cons_succ, i64_w, i32_w]
          rfl
         refine pure_ (i := 1) (N := some 17) (v := ?_) (a' := ?_) #[true, true, false, false, false, false, false, false, false, false, false, false] rfl rfl (any_of HT_.out (by kernel_rfl)) (fun _ _ _ h => h) (Or.inl ⟨by rfl, ?_⟩) ?_ ?_
         rotate_left
         ·intro w'
          go_simp
          with_reducible rfl
         rotate_left
         ·simp only [Act.put, List.setIfInBounds_toArray, List.set_cons_zero, List.set_cons_succ, i64_w, i32_w]
          rfl
         refine pure_ (i := 2) (N := some 18) (v := ?_) (a' := ?_) #[true, true, true, false, false, false, false, false, false, false, false, false] rfl rfl (any_of HT_.out (by kernel_rfl)) (fun _ _ _ h => h) (Or.inl ⟨by rfl, ?_⟩) ?_ ?_
         rotate_left
         ·intro w'
          go_simp
          with_reducible rfl
         rotate_left
         ·simp only [Act.put, List.setIfInBounds_toArray, List.set_cons_zero, List.set_cons_succ, i64_w, i32_w]
          rfl
         refine pure_ (i := 3) (N := some 19) (v := ?_) (a' := ?_) #[true, true, true, true, false, false, false, false, false, false, false, false] rfl rfl (any_of HT_.out (by kernel_rfl)) (fun _ _ _ h => h) (Or.inl ⟨by rfl, ?_⟩) ?_ ?_
         rotate_left
         ·intro w'
          go_simp
          with_reducible rfl
         rotate_left
         ·simp only [Act.put, List.setIfInBounds_toArray, List.set_cons_zero, List.set_cons_succ, i64_w, i32_w]
          rfl
         refine pure_ (i := 5) (N := some 21) (v := ?_) (a' := ?_) #[true, true, true, true, false, true, false, false, false, false, false, false] rfl rfl (any_of HT_.out (by kernel_rfl)) (fun _ _ _ h => h) (Or.inl ⟨by rfl, ?_⟩) ?_ ?_
         rotate_left
         ·intro w'
          go_simp
          with_reducible rfl
         rotate_left
         ·simp only [Act.put, List.setIfInBounds_toArray, List.set_cons_zero, List.set_cons_succ, i64_w, i32_w]
          rfl
         refine pure_ (i := 6) (N := some 22) (v := ?_) (a' := ?_) #[true, true, true, true, false, true, true, false, false, false, false, false] rfl rfl (any_of HT_.out (by kernel_rfl)) (fun _ _ _ h => h) (Or.inl ⟨by rfl, ?_⟩) ?_ ?_
         rotate_left
         ·intro w'
          go_simp
          with_reducible rfl
         rotate_left
         ·simp only [Act.put, List.setIfInBounds_toArray, List.set_cons_zero, List.set_cons_succ, i64_w, i32_w]
          rfl
         refine pure_ (i := 7) (N := some 23) (v := ?_) (a' := ?_) #[true, true, true, true, false, true, true, true, false, false, false, false] rfl rfl (any_of HT_.out (by kernel_rfl)) (fun _ _ _ h => h) (Or.inl ⟨by rfl, ?_⟩) ?_ ?_
         rotate_left
         ·intro w'
          go_simp
          with_reducible rfl
         rotate_left
         ·simp only [Act.put, List.setIfInBounds_toArray, List.set_cons_zero, List.set_cons_succ, i64_w, i32_w]
          rfl
         refine take_ (i := 4) (N := some 20) (v := ?_) (a' := ?_) #[true, true, true, true, true, true, true, true, false, false, false, false] rfl rfl (take_ofW HT_.out HW_.out (by kernel_rfl)) (fun _ _ _ h => h) (Or.inl ⟨by rfl, ?_⟩) hHeld ?_ ?_
         rotate_left
         ·rintro w' ⟨s0, s1⟩
          go_simp
          with_reducible rfl
         rotate_left
         ·simp only [Act.put, List.setIfInBounds_toArray, List.set_cons_zero, List.set_cons_succ, i64_w, i32_w]
          rfl
         refine take_ (i := 8) (N := some 24) (v := ?_) (a' := ?_) #[true, true, true, true, true, true, true, true, true, false, false, false] rfl rfl (take_ofW HT_.out HW_.out (by kernel_rfl)) (fun _ _ _ h => h) (Or.inl ⟨by rfl, ?_⟩) hHeld ?_ ?_
         rotate_left
         ·rintro w' ⟨s0, s1⟩
          go_simp
          with_reducible rfl
         rotate_left
         ·simp only [Act.put, List.setIfInBounds_toArray, List.set_cons_zero, List.set_cons_succ, i64_w, i32_w]
          rfl
         refine pure_ (i := 9) (N := some 25) (v := ?_) (a' := ?_) #[true, true, true, true, true, true, true, true, true, true, false, false] rfl rfl (any_of HT_.out (by kernel_rfl)) (fun _ _ _ h => h) (Or.inl ⟨by rfl, ?_⟩) ?_ ?_
         rotate_left
         ·intro w'
          go_simp
          with_reducible rfl
         rotate_left
         ·simp only [Act.put, List.setIfInBounds_toArray, List.set_cons_zero, List.set_cons_succ, i64_w, i32_w]
          rfl
         refine one_ (i := 10) (N := some 26) #[true, true, true, true, true, true, true, true, true, true, true, false] rfl rfl (one_of HT_.out (by kernel_rfl)) (by decide) (fun K hK => ?_)
         refine goes_ Try.func73 (by kernel_rfl) rfl #[.slice A0 l0.length c0, .agg #[.int .i64 (rd l1 x13_1), .int .i64 (rd l2 x13_1)]] (by rfl) rfl rfl aM ?_
         with_reducible refine (api_Pair_73.calls k1 _ _ l0 (rd l1 x13_1) (rd l2 x13_1) t103 _ ?side1 ?side2 A8.out).mono ?_
         (case side1 => repeat (first | exact (cB HR0.out HB.out) | (with_reducible refine cA ?_ _) | (with_reducible refine cN ?_ _) | (with_reducible refine cD ?_)))
         (case side2 => exact HC0.out)
         rintro e w14 ⟨rfl, hb⟩
         refine ⟨_, rfl, ?_⟩
         replace Q00 := uR Q00 hb
         replace HB := uH HB hb
         (try clear hb)
         (try clear hb2)
         (try clear hk)
         (try clear hi)
         refine hK.out _ _ ⟨((HB.out.cell (World.block_lt_of_cell? w _ hw101_0)).trans hw101_0), ((HB.out.cell (World.block_lt_of_cell? w _ hw102_0)).trans hw102_0)⟩ (fun hHeld => ?_)
         clear hK K
         refine norm_ (a' := ?_) ?_ ?_
         rotate_left
         ·show Act.put _ (some 26) _ = _
          simp only [Act.put, List.setIfInBounds_toArray, List.set_cons_zero, List.set_cons_succ, i64_w, i32_w]
          rfl
         refine pure_ (i := 11) (N := some 10) (v := ?_) (a' := ?_) #[true, true, true, true, true, true, true, true, true, true, true, true] rfl rfl (any_of HT_.out (by kernel_rfl)) (fun _ _ _ h => h) (Or.inl ⟨by rfl, ?_⟩) ?_ ?_
         rotate_left
         ·intro w'
          go_simp
          with_reducible rfl
         rotate_left
         ·simp only [Act.put, List.setIfInBounds_toArray, List.set_cons_zero, List.set_cons_succ, i64_w, i32_w]
          rfl
         refine done_ (done_of HT_.out (by kernel_rfl)) ?_
         try go_wp2_with (first | ((with_reducible refine gate_builtin (b := .append) (xs := #[.tmp 29, .tmp 31]) rfl ?_); at_builtin; refine Kd.R_append (Kd.int .i64) (w0 := w) w.heap.size rfl (.tmp 29) (.tmp 31) 22 3 (.int .i64 0) 8 rfl Try.underlying22 info3 rfl (by decide) (by omega) u8 x8_1 t103 [.int .i64 t103] (fun _ => True) (fun _ => False) rfl rfl ?aP (fun _ hk => hk.elim) ?aF ?aO ?aB ?aS ?aL ?_; (case aP => exact rfl); (case aB => exact hB); (case aF => exact (fun _ _ => trivial)); (case aO => exact (pR Q00)); (case aS => exact (below_size hB)); (case aL => have := LMc12.out; omega); intro v105 w15 ho hb hg hat; rw [← Ny104.out] at ho; replace HB := Aside0.mk (hb); have Q01 := Aside0.mk (ho); clear Q00; clear ho hb hg hat))
         go_roundg k1
         case measure => have := HK1.out; omega
         case rel => exact ⟨(y104), (wrap64 (x13_1 + 1)), rS, H', ⟨by have := HK1.out; omega⟩, ⟨pR Q01⟩, ⟨pH HB⟩⟩
        ·rw [if_neg c12] at H
         exact absurd H (by simp)
      ·rw [if_neg c7] at H
       exact absurd H (by simp)
     ·rw [if_neg c6] at H
      exact absurd H (by simp)
    ·rw [if_neg c5] at H
     exact absurd H (by simp)
   ·rw [if_neg c4] at H
    have c4b0 : decide (x13_1 < (l1.length : Int)) = false := decide_eq_false c4
    clear c4
    simp only [Option.some.injEq, Prod.mk.injEq] at H
    obtain ⟨rfl, rfl⟩ := H
    go_wp2
    go_ret2
    exact ⟨_, by first | rfl | (simp [errW_none, errW_some] <;> rfl) | (simp [*, errW_none, errW_some] <;> rfl), by (with_reducible repeat (first | apply rA | apply rN | apply rD)); exact Q00.out, by repeat (first | (with_reducible first | exact HB.out | apply wA | apply wN | apply wD) | exact HB.out)⟩
end Go.Proofs.Ytillofiphkmjjaa.X

namespace Go.Proofs.Ytillofiphkmjjaa.X
open Go.RowKit Go.Proofs.YtillofiphkmjjaaW.PrintWords Go.Proofs.YtillofiphkmjjaaW.PrintLast Go.Proofs.YtillofiphkmjjaaW.PrintMore
open Go.Proofs.YtillofiphkmjjaaW.PrintWords renaming blk_drewN → bN, blk_drew → bD, blk_alloc → bA, below_alloc → wA, pw_below_drewN → wN, below_drew1 → wD, blk_below → bB, below_step → wS, blk_at → bT, blk_grown → bG
open Go.Proofs.YtillofiphkmjjaaW.PrintWords.Kd renaming R_alloc → rA, R_drewN → rN, R_drew → rD, R_below → rB, R_grown → rG, C_below → cB, C_alloc → cA, C_drewN → cN, C_drew → cD
attribute [local go_sem] max2_int min2_int max_two min_two max_three min_three max_four min_four
set_option linter.unusedVariables false
set_option linter.unusedSimpArgs false
/-! ### pullback_Mediate: function 13 -/
mutual
def pullback_Mediate.j0 : Nat → Int → List Int → List (S94) → List Int → List (S94) → List Int → List (S94) → List Int → List Int → List Int → List Int → List Int → List (S94) → List Int → List Int → List Int → List Int → List (S79) → List (S79) → List Int → List (S94) → Option (List Int × List Int × Int)
 | 0, _, _, _, _, _, _, _, _, _, _, _, _, _, _, _, _, _, _, _, _, _ => none
 | k + 1, x11, x102000, x102001, x102002, x102003, x102004, x102005, x102006, x102007, x102008, x102009, x103000, x103001, x104000, x104001, x105000, x105001, x120000, x120001, x120002, x120003 => if x11 = 0 then ((morphism_Valid.f x103000 x103001 x102002 x102003 x105000 x105001).bind fun t121 => (pullback_Mediate.j1 k t121 x104000 x104001 x105000 x105001 x120000 x120001 x120002 x120003)) else (pullback_Mediate.j1 k x11 x104000 x104001 x105000 x105001 x120000 x120001 x120002 x120003)
def pullback_Mediate.j1 : Nat → Int → List Int → List Int → List Int → List Int → List (S79) → List (S79) → List Int → List (S94) → Option (List Int × List Int × Int)
 | 0, _, _, _, _, _, _, _, _, _ => none
 | k + 1, x11, x104000, x104001, x105000, x105001, x120000, x120001, x120002, x120003 => if x11 = 0 then ((pullback_meet.f k x120000 x104000 x105000).bind fun bt122 => ((pullback_meet.f k x120001 x104001 x105001).bind fun bt126 => (if bt122.2 = true then (pullback_Mediate.j2 k bt122.1 bt126.1 (!bt126.2)) else (pullback_Mediate.j2 k bt122.1 bt126.1 true)))) else (some (([] : List Int), ([] : List Int), x11))
def pullback_Mediate.j2 : Nat → List Int → List Int → Bool → Option (List Int × List Int × Int)
 | 0, _, _, _ => none
 | k + 1, x12, x14, x64 => if x64 = true then (some (([] : List Int), ([] : List Int), 11)) else (some (x12, x14, 0))
end
def pullback_Mediate.f (k : Nat) (l0_0 : List Int) (l0_1 : List (S94)) (l0_2 : List Int) (l0_3 : List (S94)) (l0_4 : List Int) (l0_5 : List (S94)) (l0_6 : List Int) (l0_7 : List Int) (l0_8 : List Int) (l0_9 : List Int) (l1_0 : List Int) (l1_1 : List (S94)) (l2_0 : List Int) (l2_1 : List Int) (l3_0 : List Int) (l3_1 : List Int) : Option (List Int × List Int × Int) := (pullback_of.f k l0_0 l0_1 l0_2 l0_3 l0_4 l0_5 l0_6 l0_7 l0_8 l0_9).bind fun bt106 => (if bt106.2.2.2.2 = 0 then ((morphism_Valid.f l1_0 l1_1 l0_0 l0_1 l2_0 l2_1).bind fun t120 => (pullback_Mediate.j0 k t120 l0_0 l0_1 l0_2 l0_3 l0_4 l0_5 l0_6 l0_7 l0_8 l0_9 l1_0 l1_1 l2_0 l2_1 l3_0 l3_1 bt106.1 bt106.2.1 bt106.2.2.1 bt106.2.2.2.1)) else (pullback_Mediate.j0 k bt106.2.2.2.2 l0_0 l0_1 l0_2 l0_3 l0_4 l0_5 l0_6 l0_7 l0_8 l0_9 l1_0 l1_1 l2_0 l2_1 l3_0 l3_1 bt106.1 bt106.2.1 bt106.2.2.1 bt106.2.2.2.1))
theorem pullback_Mediate.mono_l : ∀ k, (∀ y0 y1 y2 y3 y4 y5 y6 y7 y8 y9 y10 y11 y12 y13 y14 y15 y16 y17 y18 y19 y20, LeO (pullback_Mediate.j0 k y0 y1 y2 y3 y4 y5 y6 y7 y8 y9 y10 y11 y12 y13 y14 y15 y16 y17 y18 y19 y20) (pullback_Mediate.j0 (k + 1) y0 y1 y2 y3 y4 y5 y6 y7 y8 y9 y10 y11 y12 y13 y14 y15 y16 y17 y18 y19 y20)) ∧ (∀ y0 y1 y2 y3 y4 y5 y6 y7 y8, LeO (pullback_Mediate.j1 k y0 y1 y2 y3 y4 y5 y6 y7 y8) (pullback_Mediate.j1 (k + 1) y0 y1 y2 y3 y4 y5 y6 y7 y8)) ∧ (∀ y0 y1 y2, LeO (pullback_Mediate.j2 k y0 y1 y2) (pullback_Mediate.j2 (k + 1) y0 y1 y2))
 | 0 => ⟨fun _ _ _ _ _ _ _ _ _ _ _ _ _ _ _ _ _ _ _ _ _ r h => by simp [pullback_Mediate.j0] at h, fun _ _ _ _ _ _ _ _ _ r h => by simp [pullback_Mediate.j1] at h, fun _ _ _ r h => by simp [pullback_Mediate.j2] at h⟩
 | k + 1 => by
  obtain ⟨ih0, ih1, ih2⟩ := pullback_Mediate.mono_l k
  refine ⟨?_, ?_, ?_⟩
  ·intro y0 y1 y2 y3 y4 y5 y6 y7 y8 y9 y10 y11 y12 y13 y14 y15 y16 y17 y18 y19 y20
   unfold pullback_Mediate.j0
   repeat' first
   | (with_reducible exact ih0 _ _ _ _ _ _ _ _ _ _ _ _ _ _ _ _ _ _ _ _ _)
   | (with_reducible exact ih1 _ _ _ _ _ _ _ _ _)
   | (with_reducible exact ih2 _ _ _)
   | (with_reducible exact pullback_meet.mono _ _ _ _)
   | (with_reducible exact pullback_of.mono _ _ _ _ _ _ _ _ _ _ _)
   | (with_reducible exact LeO.refl _)
   | (with_reducible exact LeO.none _)
   | (with_reducible refine LeO.ite ?_ ?_)
   | (with_reducible refine LeO.bind ?_ (fun _ => ?_))
   | exact ih0 _ _ _ _ _ _ _ _ _ _ _ _ _ _ _ _ _ _ _ _ _
   | exact ih1 _ _ _ _ _ _ _ _ _
   | exact ih2 _ _ _
   | exact pullback_meet.mono _ _ _ _
   | exact pullback_of.mono _ _ _ _ _ _ _ _ _ _ _
   | exact LeO.none _
   | refine LeO.ite ?_ ?_
   | refine LeO.bind ?_ (fun _ => ?_)
  ·intro y0 y1 y2 y3 y4 y5 y6 y7 y8
   unfold pullback_Mediate.j1
   repeat' first
   | (with_reducible exact ih0 _ _ _ _ _ _ _ _ _ _ _ _ _ _ _ _ _ _ _ _ _)
   | (with_reducible exact ih1 _ _ _ _ _ _ _ _ _)
   | (with_reducible exact ih2 _ _ _)
   | (with_reducible exact pullback_meet.mono _ _ _ _)
   | (with_reducible exact pullback_of.mono _ _ _ _ _ _ _ _ _ _ _)
   | (with_reducible exact LeO.refl _)
   | (with_reducible exact LeO.none _)
   | (with_reducible refine LeO.ite ?_ ?_)
   | (with_reducible refine LeO.bind ?_ (fun _ => ?_))
   | exact ih0 _ _ _ _ _ _ _ _ _ _ _ _ _ _ _ _ _ _ _ _ _
   | exact ih1 _ _ _ _ _ _ _ _ _
   | exact ih2 _ _ _
   | exact pullback_meet.mono _ _ _ _
   | exact pullback_of.mono _ _ _ _ _ _ _ _ _ _ _
   | exact LeO.none _
   | refine LeO.ite ?_ ?_
   | refine LeO.bind ?_ (fun _ => ?_)
  ·intro y0 y1 y2
   unfold pullback_Mediate.j2
   repeat' first
   | (with_reducible exact ih0 _ _ _ _ _ _ _ _ _ _ _ _ _ _ _ _ _ _ _ _ _)
   | (with_reducible exact ih1 _ _ _ _ _ _ _ _ _)
   | (with_reducible exact ih2 _ _ _)
   | (with_reducible exact pullback_meet.mono _ _ _ _)
   | (with_reducible exact pullback_of.mono _ _ _ _ _ _ _ _ _ _ _)
   | (with_reducible exact LeO.refl _)
   | (with_reducible exact LeO.none _)
   | (with_reducible refine LeO.ite ?_ ?_)
   | (with_reducible refine LeO.bind ?_ (fun _ => ?_))
   | exact ih0 _ _ _ _ _ _ _ _ _ _ _ _ _ _ _ _ _ _ _ _ _
   | exact ih1 _ _ _ _ _ _ _ _ _
   | exact ih2 _ _ _
   | exact pullback_meet.mono _ _ _ _
   | exact pullback_of.mono _ _ _ _ _ _ _ _ _ _ _
   | exact LeO.none _
   | refine LeO.ite ?_ ?_
   | refine LeO.bind ?_ (fun _ => ?_)
theorem pullback_Mediate.mono : ∀ a0 a1 a2 a3 a4 a5 a6 a7 a8 a9 a10 a11 a12 a13 a14 a15 k, LeO (pullback_Mediate.f k a0 a1 a2 a3 a4 a5 a6 a7 a8 a9 a10 a11 a12 a13 a14 a15) (pullback_Mediate.f (k + 1) a0 a1 a2 a3 a4 a5 a6 a7 a8 a9 a10 a11 a12 a13 a14 a15) := by
 intro a0 a1 a2 a3 a4 a5 a6 a7 a8 a9 a10 a11 a12 a13 a14 a15 k
 obtain ⟨ih0, ih1, ih2⟩ := pullback_Mediate.mono_l k
 unfold pullback_Mediate.f
 repeat' first
   | (with_reducible exact ih0 _ _ _ _ _ _ _ _ _ _ _ _ _ _ _ _ _ _ _ _ _)
   | (with_reducible exact ih1 _ _ _ _ _ _ _ _ _)
   | (with_reducible exact ih2 _ _ _)
   | (with_reducible exact pullback_meet.mono _ _ _ _)
   | (with_reducible exact pullback_of.mono _ _ _ _ _ _ _ _ _ _ _)
   | (with_reducible exact LeO.refl _)
   | (with_reducible exact LeO.none _)
   | (with_reducible refine LeO.ite ?_ ?_)
   | (with_reducible refine LeO.bind ?_ (fun _ => ?_))
   | exact ih0 _ _ _ _ _ _ _ _ _ _ _ _ _ _ _ _ _ _ _ _ _
   | exact ih1 _ _ _ _ _ _ _ _ _
   | exact ih2 _ _ _
   | exact pullback_meet.mono _ _ _ _
   | exact pullback_of.mono _ _ _ _ _ _ _ _ _ _ _
   | exact LeO.none _
   | refine LeO.ite ?_ ?_
   | refine LeO.bind ?_ (fun _ => ?_)
set_option maxHeartbeats 8000000 in
set_option maxRecDepth 100000 in
theorem pullback_Mediate.calls (k : Nat) (A0_0 : Option Addr) (c0_0 : Nat) (l0_0 : List Int) (A0_1 : Option Addr) (c0_1 : Nat) (l0_1 : List (S94)) (A0_2 : Option Addr) (c0_2 : Nat) (l0_2 : List Int) (A0_3 : Option Addr) (c0_3 : Nat) (l0_3 : List (S94)) (A0_4 : Option Addr) (c0_4 : Nat) (l0_4 : List Int) (A0_5 : Option Addr) (c0_5 : Nat) (l0_5 : List (S94)) (A0_6 : Option Addr) (c0_6 : Nat) (l0_6 : List Int) (A0_7 : Option Addr) (c0_7 : Nat) (l0_7 : List Int) (A0_8 : Option Addr) (c0_8 : Nat) (l0_8 : List Int) (A0_9 : Option Addr) (c0_9 : Nat) (l0_9 : List Int) (A1_0 : Option Addr) (c1_0 : Nat) (l1_0 : List Int) (A1_1 : Option Addr) (c1_1 : Nat) (l1_1 : List (S94)) (A2_0 : Option Addr) (c2_0 : Nat) (l2_0 : List Int) (A2_1 : Option Addr) (c2_1 : Nat) (l2_1 : List Int) (A3_0 : Option Addr) (c3_0 : Nat) (l3_0 : List Int) (A3_1 : Option Addr) (c3_1 : Nat) (l3_1 : List Int) (r1 : List Int) (r2 : List Int) (r3 : Int) (w : World) (hr0_0 : Kd.C (Kd.int .i64) w A0_0 l0_0.length l0_0) (hc0_0 : l0_0.length ≤ c0_0) (hr0_1 : Kd.C k94 w A0_1 l0_1.length l0_1) (hc0_1 : l0_1.length ≤ c0_1) (hr0_2 : Kd.C (Kd.int .i64) w A0_2 l0_2.length l0_2) (hc0_2 : l0_2.length ≤ c0_2) (hr0_3 : Kd.C k94 w A0_3 l0_3.length l0_3) (hc0_3 : l0_3.length ≤ c0_3) (hr0_4 : Kd.C (Kd.int .i64) w A0_4 l0_4.length l0_4) (hc0_4 : l0_4.length ≤ c0_4) (hr0_5 : Kd.C k94 w A0_5 l0_5.length l0_5) (hc0_5 : l0_5.length ≤ c0_5) (hr0_6 : Kd.C (Kd.int .i64) w A0_6 l0_6.length l0_6) (hc0_6 : l0_6.length ≤ c0_6) (hr0_7 : Kd.C (Kd.int .i64) w A0_7 l0_7.length l0_7) (hc0_7 : l0_7.length ≤ c0_7) (hr0_8 : Kd.C (Kd.int .i64) w A0_8 l0_8.length l0_8) (hc0_8 : l0_8.length ≤ c0_8) (hr0_9 : Kd.C (Kd.int .i64) w A0_9 l0_9.length l0_9) (hc0_9 : l0_9.length ≤ c0_9) (hr1_0 : Kd.C (Kd.int .i64) w A1_0 l1_0.length l1_0) (hc1_0 : l1_0.length ≤ c1_0) (hr1_1 : Kd.C k94 w A1_1 l1_1.length l1_1) (hc1_1 : l1_1.length ≤ c1_1) (hr2_0 : Kd.C (Kd.int .i64) w A2_0 l2_0.length l2_0) (hc2_0 : l2_0.length ≤ c2_0) (hr2_1 : Kd.C (Kd.int .i64) w A2_1 l2_1.length l2_1) (hc2_1 : l2_1.length ≤ c2_1) (hr3_0 : Kd.C (Kd.int .i64) w A3_0 l3_0.length l3_0) (hc3_0 : l3_0.length ≤ c3_0) (hr3_1 : Kd.C (Kd.int .i64) w A3_1 l3_1.length l3_1) (hc3_1 : l3_1.length ≤ c3_1) (h : pullback_Mediate.f k l0_0 l0_1 l0_2 l0_3 l0_4 l0_5 l0_6 l0_7 l0_8 l0_9 l1_0 l1_1 l2_0 l2_1 l3_0 l3_1 = some (r1, r2, r3)) :
  Calls Try.prog 13 #[.agg #[.slice A0_0 l0_0.length c0_0, .slice A0_1 l0_1.length c0_1, .slice A0_2 l0_2.length c0_2, .slice A0_3 l0_3.length c0_3, .slice A0_4 l0_4.length c0_4, .slice A0_5 l0_5.length c0_5, .slice A0_6 l0_6.length c0_6, .slice A0_7 l0_7.length c0_7, .slice A0_8 l0_8.length c0_8, .slice A0_9 l0_9.length c0_9], .agg #[.slice A1_0 l1_0.length c1_0, .slice A1_1 l1_1.length c1_1], .agg #[.slice A2_0 l2_0.length c2_0, .slice A2_1 l2_1.length c2_1], .agg #[.slice A3_0 l3_0.length c3_0, .slice A3_1 l3_1.length c3_1]] w fun e w' => ∃ v0_ v1_ : Value, e = .returned (.tuple #[.agg #[v0_, v1_], .int .i64 r3]) ∧ Kd.R (Kd.int .i64) 3 w' w.heap.size (fun k_ => some k_ ≠ (v1_ : Value).ownBlock) v0_ r1 ∧ Kd.R (Kd.int .i64) 3 w' w.heap.size (fun k_ => some k_ ≠ (v0_ : Value).ownBlock) v1_ r2 ∧ Below w.heap.size w w' := by
 have hu29 := Try.underlying29
 have hu25 := Try.underlying25
 have hu27 := Try.underlying27
 have hu81 := Try.underlying81
 have HR0_0 := Aside0.mk hr0_0
 have HC0_0 := Aside0.mk hc0_0
 clear hr0_0 hc0_0
 have HR0_1 := Aside0.mk hr0_1
 have HC0_1 := Aside0.mk hc0_1
 clear hr0_1 hc0_1
 have HR0_2 := Aside0.mk hr0_2
 have HC0_2 := Aside0.mk hc0_2
 clear hr0_2 hc0_2
 have HR0_3 := Aside0.mk hr0_3
 have HC0_3 := Aside0.mk hc0_3
 clear hr0_3 hc0_3
 have HR0_4 := Aside0.mk hr0_4
 have HC0_4 := Aside0.mk hc0_4
 clear hr0_4 hc0_4
 have HR0_5 := Aside0.mk hr0_5
 have HC0_5 := Aside0.mk hc0_5
 clear hr0_5 hc0_5
 have HR0_6 := Aside0.mk hr0_6
 have HC0_6 := Aside0.mk hc0_6
 clear hr0_6 hc0_6
 have HR0_7 := Aside0.mk hr0_7
 have HC0_7 := Aside0.mk hc0_7
 clear hr0_7 hc0_7
 have HR0_8 := Aside0.mk hr0_8
 have HC0_8 := Aside0.mk hc0_8
 clear hr0_8 hc0_8
 have HR0_9 := Aside0.mk hr0_9
 have HC0_9 := Aside0.mk hc0_9
 clear hr0_9 hc0_9
 have HR1_0 := Aside0.mk hr1_0
 have HC1_0 := Aside0.mk hc1_0
 clear hr1_0 hc1_0
 have HR1_1 := Aside0.mk hr1_1
 have HC1_1 := Aside0.mk hc1_1
 clear hr1_1 hc1_1
 have HR2_0 := Aside0.mk hr2_0
 have HC2_0 := Aside0.mk hc2_0
 clear hr2_0 hc2_0
 have HR2_1 := Aside0.mk hr2_1
 have HC2_1 := Aside0.mk hc2_1
 clear hr2_1 hc2_1
 have HR3_0 := Aside0.mk hr3_0
 have HC3_0 := Aside0.mk hc3_0
 clear hr3_0 hc3_0
 have HR3_1 := Aside0.mk hr3_1
 have HC3_1 := Aside0.mk hc3_1
 clear hr3_1 hc3_1
 have HB := Aside0.mk (Below.refl w.heap.size w)
 have H : ((pullback_of.f k l0_0 l0_1 l0_2 l0_3 l0_4 l0_5 l0_6 l0_7 l0_8 l0_9).bind fun bt106 => (if bt106.2.2.2.2 = 0 then ((morphism_Valid.f l1_0 l1_1 l0_0 l0_1 l2_0 l2_1).bind fun t120 => (pullback_Mediate.j0 k t120 l0_0 l0_1 l0_2 l0_3 l0_4 l0_5 l0_6 l0_7 l0_8 l0_9 l1_0 l1_1 l2_0 l2_1 l3_0 l3_1 bt106.1 bt106.2.1 bt106.2.2.1 bt106.2.2.2.1)) else (pullback_Mediate.j0 k bt106.2.2.2.2 l0_0 l0_1 l0_2 l0_3 l0_4 l0_5 l0_6 l0_7 l0_8 l0_9 l1_0 l1_1 l2_0 l2_1 l3_0 l3_1 bt106.1 bt106.2.1 bt106.2.2.1 bt106.2.2.2.1))) = some (r1, r2, r3) := h
 clear h
 replace H := Option.bind_eq_some_iff.mp H
 obtain ⟨⟨t106, t109, t112, t115, t118⟩, A50, H⟩ := H
 replace H : (if t118 = 0 then ((morphism_Valid.f l1_0 l1_1 l0_0 l0_1 l2_0 l2_1).bind fun t120 => (pullback_Mediate.j0 k t120 l0_0 l0_1 l0_2 l0_3 l0_4 l0_5 l0_6 l0_7 l0_8 l0_9 l1_0 l1_1 l2_0 l2_1 l3_0 l3_1 t106 t109 t112 t115)) else (pullback_Mediate.j0 k t118 l0_0 l0_1 l0_2 l0_3 l0_4 l0_5 l0_6 l0_7 l0_8 l0_9 l1_0 l1_1 l2_0 l2_1 l3_0 l3_1 t106 t109 t112 t115)) = some (r1, r2, r3) := H
 have A5 := Aside0.mk A50
 clear A50
 have HC6 := Aside0.mk H
 clear H
 go_enter Try.func13, Try.ntmps13
 go_upto_if 22 with (first | ((with_reducible refine gate_dst (N := 4) rfl ?_); refine box_event ?hg (N := 4) ?hd (cs := #[.slice A0_0 l0_0.length c0_0, .slice A0_1 l0_1.length c0_1, .slice A0_2 l0_2.length c0_2, .slice A0_3 l0_3.length c0_3, .slice A0_4 l0_4.length c0_4, .slice A0_5 l0_5.length c0_5, .slice A0_6 l0_6.length c0_6, .slice A0_7 l0_7.length c0_7, .slice A0_8 l0_8.length c0_8, .slice A0_9 l0_9.length c0_9]) (t := 29) ?hr ?_; (case hd => rfl); (case hg => rfl); (case hr => first | (go_simp; done) | (go_simp; rfl)); intro Q07 hg w7 hbox hb; have Q00 := Aside0.mk (hbox); have Q5e := Aside0.mk ((by rw [hg]; exact (below_size hB) : w.heap.size ≤ Q07)); have Q1f := Aside0.mk ((by rw [hg]; exact (below_size hB) : w.heap.size ≤ Q07)); replace HB := uH HB hb; clear hb hbox hg) | ((with_reducible refine gate_dst (N := 5) rfl ?_); refine box_event ?hg (N := 5) ?hd (cs := #[.slice A1_0 l1_0.length c1_0, .slice A1_1 l1_1.length c1_1]) (t := 25) ?hr ?_; (case hd => rfl); (case hg => rfl); (case hr => first | (go_simp; done) | (go_simp; rfl)); intro Q0s hg w8 hbox hb; have Q03 := Aside0.mk (hbox); have Q5f := uS HB hg; have Q1g := uS HB hg; replace HB := uH HB hb; have Q1h := uL Q00 hg; have Q1i := uG Q00 hg; replace Q00 := uB Q00 hb; clear hb hbox hg) | ((with_reducible refine gate_dst (N := 6) rfl ?_); refine box_event ?hg (N := 6) ?hd (cs := #[.slice A2_0 l2_0.length c2_0, .slice A2_1 l2_1.length c2_1]) (t := 27) ?hr ?_; (case hd => rfl); (case hg => rfl); (case hr => first | (go_simp; done) | (go_simp; rfl)); intro Q0q hg w9 hbox hb; have Q04 := Aside0.mk (hbox); have Q5g := uS HB hg; have Q1j := uS HB hg; replace HB := uH HB hb; have Q17 := uL Q00 hg; have Q18 := uG Q00 hg; replace Q00 := uB Q00 hb; have Q1k := uL Q03 hg; have Q1l := uG Q03 hg; replace Q03 := uB Q03 hb; clear hb hbox hg) | ((with_reducible refine gate_dst (N := 7) rfl ?_); refine box_event ?hg (N := 7) ?hd (cs := #[.slice A3_0 l3_0.length c3_0, .slice A3_1 l3_1.length c3_1]) (t := 27) ?hr ?_; (case hd => rfl); (case hg => rfl); (case hr => first | (go_simp; done) | (go_simp; rfl)); intro Q0r hg w10 hbox hb; have Q06 := Aside0.mk (hbox); have Q5h := uS HB hg; have Q1m := uS HB hg; replace HB := uH HB hb; have Q19 := uL Q00 hg; have Q1a := uG Q00 hg; replace Q00 := uB Q00 hb; have Q1n := uL Q03 hg; have Q1o := uG Q03 hg; replace Q03 := uB Q03 hb; have Q1p := uL Q04 hg; have Q1q := uG Q04 hg; replace Q04 := uB Q04 hb; clear hb hbox hg) | ((with_reducible refine gate_dst (N := 8) rfl ?_); refine box_event ?hg (N := 8) ?hd (cs := #[.slice none 0 0, .slice none 0 0]) (t := 27) ?hr ?_; (case hd => rfl); (case hg => rfl); (case hr => first | (go_simp; done) | (go_simp; rfl)); intro Q0e hg w11 hbox hb; have Q05 := Aside0.mk (hbox); have Q5i := uS HB hg; have Q1r := uS HB hg; replace HB := uH HB hb; have Q0x := uL Q00 hg; have Q0y := uG Q00 hg; replace Q00 := uB Q00 hb; have Q0z := uL Q03 hg; have Q10 := uG Q03 hg; replace Q03 := uB Q03 hb; have Q11 := uL Q04 hg; have Q12 := uG Q04 hg; replace Q04 := uB Q04 hb; have Q13 := uL Q06 hg; have Q14 := uG Q06 hg; replace Q06 := uB Q06 hb; clear hb hbox hg; have Q5j := Q1h.out; have Q5k := Q1i.out; have Q5l := Q17.out; have Q5m := Q18.out; have Q5n := Q19.out; have Q5o := Q1a.out; have Q5p := Q0x.out; have Q5q := Q0y.out; have Q1s : w11.cell? ⟨Q07, 0, none⟩ = some (.slice A0_0 l0_0.length c0_0) := (blk_cell Q00.out 0).trans rfl; have Q1t : w11.cell? ⟨Q07, 1, none⟩ = some (.slice A0_1 l0_1.length c0_1) := (blk_cell Q00.out 1).trans rfl; have Q1u : w11.cell? ⟨Q07, 2, none⟩ = some (.slice A0_2 l0_2.length c0_2) := (blk_cell Q00.out 2).trans rfl; have Q1v : w11.cell? ⟨Q07, 3, none⟩ = some (.slice A0_3 l0_3.length c0_3) := (blk_cell Q00.out 3).trans rfl; have Q1w : w11.cell? ⟨Q07, 4, none⟩ = some (.slice A0_4 l0_4.length c0_4) := (blk_cell Q00.out 4).trans rfl; have Q1x : w11.cell? ⟨Q07, 5, none⟩ = some (.slice A0_5 l0_5.length c0_5) := (blk_cell Q00.out 5).trans rfl; have Q1y : w11.cell? ⟨Q07, 6, none⟩ = some (.slice A0_6 l0_6.length c0_6) := (blk_cell Q00.out 6).trans rfl; have Q1z : w11.cell? ⟨Q07, 7, none⟩ = some (.slice A0_7 l0_7.length c0_7) := (blk_cell Q00.out 7).trans rfl; have Q20 : w11.cell? ⟨Q07, 8, none⟩ = some (.slice A0_8 l0_8.length c0_8) := (blk_cell Q00.out 8).trans rfl; have Q21 : w11.cell? ⟨Q07, 9, none⟩ = some (.slice A0_9 l0_9.length c0_9) := (blk_cell Q00.out 9).trans rfl; have Q22 := blk_frozen Q00.out 0; have Q23 := blk_frozen Q00.out 1; have Q24 := blk_frozen Q00.out 2; have Q25 := blk_frozen Q00.out 3; have Q26 := blk_frozen Q00.out 4; have Q27 := blk_frozen Q00.out 5; have Q28 := blk_frozen Q00.out 6; have Q29 := blk_frozen Q00.out 7; have Q2a := blk_frozen Q00.out 8; have Q2b := blk_frozen Q00.out 9) | ((with_reducible refine gate_callee (f := 41) rfl ?_); refine goesL_ (some 18) rfl rfl Try.func41 (by kernel_rfl) rfl #[.agg #[.slice A0_0 l0_0.length c0_0, .slice A0_1 l0_1.length c0_1, .slice A0_2 l0_2.length c0_2, .slice A0_3 l0_3.length c0_3, .slice A0_4 l0_4.length c0_4, .slice A0_5 l0_5.length c0_5, .slice A0_6 l0_6.length c0_6, .slice A0_7 l0_7.length c0_7, .slice A0_8 l0_8.length c0_8, .slice A0_9 l0_9.length c0_9]] rfl aM ?_; (with_reducible refine (pullback_of.calls k _ _ l0_0 _ _ l0_1 _ _ l0_2 _ _ l0_3 _ _ l0_4 _ _ l0_5 _ _ l0_6 _ _ l0_7 _ _ l0_8 _ _ l0_9 t106 t109 t112 t115 t118 _ ?side1 ?side2 ?side3 ?side4 ?side5 ?side6 ?side7 ?side8 ?side9 ?side10 ?side11 ?side12 ?side13 ?side14 ?side15 ?side16 ?side17 ?side18 ?side19 ?side20 A5.out).mono ?_); (case side1 => repeat (first | exact (cB HR0_0.out HB.out) | (with_reducible refine cA ?_ _) | (with_reducible refine cN ?_ _) | (with_reducible refine cD ?_))); (case side2 => exact HC0_0.out); (case side3 => repeat (first | exact (cB HR0_1.out HB.out) | (with_reducible refine cA ?_ _) | (with_reducible refine cN ?_ _) | (with_reducible refine cD ?_))); (case side4 => exact HC0_1.out); (case side5 => repeat (first | exact (cB HR0_2.out HB.out) | (with_reducible refine cA ?_ _) | (with_reducible refine cN ?_ _) | (with_reducible refine cD ?_))); (case side6 => exact HC0_2.out); (case side7 => repeat (first | exact (cB HR0_3.out HB.out) | (with_reducible refine cA ?_ _) | (with_reducible refine cN ?_ _) | (with_reducible refine cD ?_))); (case side8 => exact HC0_3.out); (case side9 => repeat (first | exact (cB HR0_4.out HB.out) | (with_reducible refine cA ?_ _) | (with_reducible refine cN ?_ _) | (with_reducible refine cD ?_))); (case side10 => exact HC0_4.out); (case side11 => repeat (first | exact (cB HR0_5.out HB.out) | (with_reducible refine cA ?_ _) | (with_reducible refine cN ?_ _) | (with_reducible refine cD ?_))); (case side12 => exact HC0_5.out); (case side13 => repeat (first | exact (cB HR0_6.out HB.out) | (with_reducible refine cA ?_ _) | (with_reducible refine cN ?_ _) | (with_reducible refine cD ?_))); (case side14 => exact HC0_6.out); (case side15 => repeat (first | exact (cB HR0_7.out HB.out) | (with_reducible refine cA ?_ _) | (with_reducible refine cN ?_ _) | (with_reducible refine cD ?_))); (case side16 => exact HC0_7.out); (case side17 => repeat (first | exact (cB HR0_8.out HB.out) | (with_reducible refine cA ?_ _) | (with_reducible refine cN ?_ _) | (with_reducible refine cD ?_))); (case side18 => exact HC0_8.out); (case side19 => repeat (first | exact (cB HR0_9.out HB.out) | (with_reducible refine cA ?_ _) | (with_reducible refine cN ?_ _) | (with_reducible refine cD ?_))); (case side20 => exact HC0_9.out); rintro e w17 ⟨v107, v110, v113, v116, rfl, ho0, ho1, ho2, ho3, hb⟩; refine ⟨_, rfl, ?_⟩; have Q0t := Aside0.mk (Kd.R_lower ho0 (below_size (pH HB))); have Q0u := Aside0.mk (Kd.R_lower ho1 (below_size (pH HB))); have Q0v := Aside0.mk (Kd.R_lower ho2 (below_size (pH HB))); have Q0w := Aside0.mk (Kd.R_lower ho3 (below_size (pH HB))); replace Q00 := uB Q00 hb; replace Q03 := uB Q03 hb; replace Q04 := uB Q04 hb; replace Q06 := uB Q06 hb; replace Q05 := uB Q05 hb; replace HB := uH HB hb; (try clear hb); (try clear hb2); (try clear hk); (try clear hi); (try clear ho0); (try clear ho1); (try clear ho2); (try clear ho3)) | ((with_reducible refine gate_dst (N := 10) rfl ?_); refine box_event ?hg (N := 10) ?hd (cs := #[.slice none 0 0, .slice none 0 0, .slice none 0 0, .slice none 0 0]) (t := 81) ?hr ?_; (case hd => rfl); (case hg => rfl); (case hr => first | (go_simp; done) | (go_simp; rfl)); intro Q02 hg w18 hbox hb; replace Q0t := uR Q0t hb; replace Q0u := uR Q0u hb; replace Q0v := uR Q0v hb; replace Q0w := uR Q0w hb; have Q01 := Aside0.mk (hbox); have Q5r := uS HB hg; have Q2c := uS HB hg; replace HB := uH HB hb; have Q0l := uL Q00 hg; have Q1b := uG Q00 hg; replace Q00 := uB Q00 hb; have Q0m := uL Q03 hg; have Q1c := uG Q03 hg; replace Q03 := uB Q03 hb; have Q0o := uL Q04 hg; have Q2d := uG Q04 hg; replace Q04 := uB Q04 hb; have Q0p := uL Q06 hg; have Q2e := uG Q06 hg; replace Q06 := uB Q06 hb; have Q0k := uL Q05 hg; have Q15 := uG Q05 hg; replace Q05 := uB Q05 hb; clear hb hbox hg; obtain ⟨Q08, Q09, Q4c⟩ := Kd.R_slice Q0t.out; subst Q4c; have Q5s := Q1b.out; have Q5t := Q0l.out; have Q5u := Q1c.out; have Q5v := Q0m.out; have Q5w := Q2d.out; have Q5x := Q0o.out; have Q5y := Q2e.out; have Q5z := Q0p.out; have Q60 := Q15.out; have Q61 := Q0k.out; have Q2f : w18.cell? ⟨Q02, 0, none⟩ = some (.slice none 0 0) := (blk_cell Q01.out 0).trans rfl; have Q2g : w18.cell? ⟨Q02, 1, none⟩ = some (.slice none 0 0) := (blk_cell Q01.out 1).trans rfl; have Q2h : w18.cell? ⟨Q02, 2, none⟩ = some (.slice none 0 0) := (blk_cell Q01.out 2).trans rfl; have Q2i : w18.cell? ⟨Q02, 3, none⟩ = some (.slice none 0 0) := (blk_cell Q01.out 3).trans rfl; have Q2j := blk_frozen Q01.out 0; have Q2k := blk_frozen Q01.out 1; have Q2l := blk_frozen Q01.out 2; have Q2m := blk_frozen Q01.out 3; obtain ⟨Q0a, Q0b, Q4d⟩ := Kd.R_slice Q0u.out; subst Q4d; obtain ⟨Q0c, Q0d, Q4e⟩ := Kd.R_slice Q0v.out; subst Q4e; obtain ⟨Q0f, Q0g, Q4f⟩ := Kd.R_slice Q0w.out; subst Q4f))
 (try simp only [Act.put, List.setIfInBounds_toArray, List.set_cons_zero, List.set_cons_succ])
 go_cut [11] (fun v11 wc => ∃ (kq : Nat) (x11_5 : Int), v11 = .int .i64 x11_5 ∧ Aside0 (pullback_Mediate.j0 kq x11_5 l0_0 l0_1 l0_2 l0_3 l0_4 l0_5 l0_6 l0_7 l0_8 l0_9 l1_0 l1_1 l2_0 l2_1 l3_0 l3_1 t106 t109 t112 t115 = some (r1, r2, r3)) ∧ Aside0 (kq ≤ k) ∧ Aside0 (Kd.R k79 79 wc w.heap.size (fun k_ => some k_ ≠ ((.slice Q0a t109.length Q0b) : Value).ownBlock) (.slice Q08 t106.length Q09) t106) ∧ Aside0 (Kd.R k79 79 wc w.heap.size (fun k_ => some k_ ≠ ((.slice Q08 t106.length Q09) : Value).ownBlock) (.slice Q0a t109.length Q0b) t109) ∧ Aside0 (Kd.R (Kd.int .i64) 3 wc w.heap.size (fun _ => True) (.slice Q0c t112.length Q0d) t112) ∧ Aside0 (Kd.R k94 94 wc w.heap.size (fun _ => True) (.slice Q0f t115.length Q0g) t115) ∧ Aside0 (wc.heap[Q07]? = some (.cells #[(.slice A0_0 l0_0.length c0_0), (.slice A0_1 l0_1.length c0_1), (.slice A0_2 l0_2.length c0_2), (.slice A0_3 l0_3.length c0_3), (.slice A0_4 l0_4.length c0_4), (.slice A0_5 l0_5.length c0_5), (.slice A0_6 l0_6.length c0_6), (.slice A0_7 l0_7.length c0_7), (.slice A0_8 l0_8.length c0_8), (.slice A0_9 l0_9.length c0_9)] 29 (0, 0))) ∧ Aside0 (wc.heap[Q0s]? = some (.cells #[(.slice A1_0 l1_0.length c1_0), (.slice A1_1 l1_1.length c1_1)] 25 (0, 0))) ∧ Aside0 (wc.heap[Q0q]? = some (.cells #[(.slice A2_0 l2_0.length c2_0), (.slice A2_1 l2_1.length c2_1)] 27 (0, 0))) ∧ Aside0 (wc.heap[Q0r]? = some (.cells #[(.slice A3_0 l3_0.length c3_0), (.slice A3_1 l3_1.length c3_1)] 27 (0, 0))) ∧ Aside0 (wc.heap[Q0e]? = some (.cells #[(.slice none 0 0), (.slice none 0 0)] 27 (0, 0))) ∧ Aside0 (wc.heap[Q02]? = some (.cells #[(.slice Q08 t106.length Q09), (.slice Q0a t109.length Q0b), (.slice Q0c t112.length Q0d), (.slice Q0f t115.length Q0g)] 81 (0, 0))) ∧ Aside0 (Below w.heap.size w wc))
 case first =>
  have H := HC6.out
  clear HC6
  by_cases c29 : t118 = 0
  ·rw [if_pos c29] at H
   have c29b0 : (t118 == 0) = true := beq_iff_eq.mpr c29
   have c29b1 : (t118 != 0) = false := bne_eq_false_iff_eq.mpr c29
   clear c29
   (first | rw [c29b0] | (simp only [i64_w, i32_w]; rw [c29b0]) | skip)
   replace H := Option.bind_eq_some_iff.mp H
   obtain ⟨t120, A300, H⟩ := H
   replace H : (pullback_Mediate.j0 k t120 l0_0 l0_1 l0_2 l0_3 l0_4 l0_5 l0_6 l0_7 l0_8 l0_9 l1_0 l1_1 l2_0 l2_1 l3_0 l3_1 t106 t109 t112 t115) = some (r1, r2, r3) := H
   have A30 := Aside0.mk A300
   clear A300
   have H' := Aside0.mk H
   clear H
   have Q62 := Q1i.out
   have Q63 := Q1h.out
   have Q64 := Q1k.out
   have Q65 := Q1l.out
   have Q66 := Q1n.out
   have Q67 := Q1o.out
   have Q68 := Q0z.out
   have Q69 := Q10.out
   have Q6a := Q0m.out
   have Q6b := Q1c.out
   have Q2n : w18.cell? ⟨Q0s, 0, none⟩ = some (.slice A1_0 l1_0.length c1_0) := (blk_cell Q03.out 0).trans rfl
   have Q2o : w18.cell? ⟨Q0s, 1, none⟩ = some (.slice A1_1 l1_1.length c1_1) := (blk_cell Q03.out 1).trans rfl
   have Q2p := blk_frozen Q03.out 0
   have Q2q := blk_frozen Q03.out 1
   have Q6c := Q17.out
   have Q6d := Q18.out
   have Q6e := Q19.out
   have Q6f := Q1a.out
   have Q6g := Q0x.out
   have Q6h := Q0y.out
   have Q6i := Q0l.out
   have Q6j := Q1b.out
   have Q2r : w18.cell? ⟨Q07, 0, none⟩ = some (.slice A0_0 l0_0.length c0_0) := (blk_cell Q00.out 0).trans rfl
   have Q2s : w18.cell? ⟨Q07, 1, none⟩ = some (.slice A0_1 l0_1.length c0_1) := (blk_cell Q00.out 1).trans rfl
   have Q2t : w18.cell? ⟨Q07, 2, none⟩ = some (.slice A0_2 l0_2.length c0_2) := (blk_cell Q00.out 2).trans rfl
   have Q2u : w18.cell? ⟨Q07, 3, none⟩ = some (.slice A0_3 l0_3.length c0_3) := (blk_cell Q00.out 3).trans rfl
   have Q2v : w18.cell? ⟨Q07, 4, none⟩ = some (.slice A0_4 l0_4.length c0_4) := (blk_cell Q00.out 4).trans rfl
   have Q2w : w18.cell? ⟨Q07, 5, none⟩ = some (.slice A0_5 l0_5.length c0_5) := (blk_cell Q00.out 5).trans rfl
   have Q2x : w18.cell? ⟨Q07, 6, none⟩ = some (.slice A0_6 l0_6.length c0_6) := (blk_cell Q00.out 6).trans rfl
   have Q2y : w18.cell? ⟨Q07, 7, none⟩ = some (.slice A0_7 l0_7.length c0_7) := (blk_cell Q00.out 7).trans rfl
   have Q2z : w18.cell? ⟨Q07, 8, none⟩ = some (.slice A0_8 l0_8.length c0_8) := (blk_cell Q00.out 8).trans rfl
   have Q30 : w18.cell? ⟨Q07, 9, none⟩ = some (.slice A0_9 l0_9.length c0_9) := (blk_cell Q00.out 9).trans rfl
   have Q31 := blk_frozen Q00.out 0
   have Q32 := blk_frozen Q00.out 1
   have Q33 := blk_frozen Q00.out 2
   have Q34 := blk_frozen Q00.out 3
   have Q35 := blk_frozen Q00.out 4
   have Q36 := blk_frozen Q00.out 5
   have Q37 := blk_frozen Q00.out 6
   have Q38 := blk_frozen Q00.out 7
   have Q39 := blk_frozen Q00.out 8
   have Q3a := blk_frozen Q00.out 9
   have Q6k := Q1p.out
   have Q6l := Q1q.out
   have Q6m := Q11.out
   have Q6n := Q12.out
   have Q6o := Q0o.out
   have Q6p := Q2d.out
   have Q3b : w18.cell? ⟨Q0q, 0, none⟩ = some (.slice A2_0 l2_0.length c2_0) := (blk_cell Q04.out 0).trans rfl
   have Q3c : w18.cell? ⟨Q0q, 1, none⟩ = some (.slice A2_1 l2_1.length c2_1) := (blk_cell Q04.out 1).trans rfl
   have Q3d := blk_frozen Q04.out 0
   have Q3e := blk_frozen Q04.out 1
   go_wp2_with (first | ((with_reducible refine gate_callee (f := 42) rfl ?_); refine goesL_ (some 27) rfl rfl Try.func42 (by kernel_rfl) rfl #[.agg #[.slice A1_0 l1_0.length c1_0, .slice A1_1 l1_1.length c1_1], .agg #[.slice A0_0 l0_0.length c0_0, .slice A0_1 l0_1.length c0_1], .agg #[.slice A2_0 l2_0.length c2_0, .slice A2_1 l2_1.length c2_1]] rfl aM ?_; (with_reducible refine (morphism_Valid.calls _ _ l1_0 _ _ l1_1 _ _ l0_0 _ _ l0_1 _ _ l2_0 _ _ l2_1 t120 _ ?side1 ?side2 ?side3 ?side4 ?side5 ?side6 ?side7 ?side8 ?side9 ?side10 ?side11 ?side12 A30.out).mono ?_); (case side1 => exact cB HR1_0.out (pH HB)); (case side2 => exact HC1_0.out); (case side3 => exact cB HR1_1.out (pH HB)); (case side4 => exact HC1_1.out); (case side5 => exact cB HR0_0.out (pH HB)); (case side6 => exact HC0_0.out); (case side7 => exact cB HR0_1.out (pH HB)); (case side8 => exact HC0_1.out); (case side9 => exact cB HR2_0.out (pH HB)); (case side10 => exact HC2_0.out); (case side11 => exact cB HR2_1.out (pH HB)); (case side12 => exact HC2_1.out); rintro e w46 ⟨rfl, hb⟩; refine ⟨_, rfl, ?_⟩; replace Q0t := Aside0.mk (rB (by (with_reducible repeat (first | apply rA | apply rN | apply rD)); exact (Kd.R_mono (Kd.R_far (p := ⟨Q02, 3, none⟩) (Kd.R_far (p := ⟨Q02, 2, none⟩) (Kd.R_far (p := ⟨Q02, 1, none⟩) (Kd.R_far (p := ⟨Q02, 0, none⟩) (Kd.R_types Q0t.out Q01.out (by decide)) (fun _ hk => hk.2) (.slice Q08 t106.length Q09)) (fun _ hk => hk.2) (.slice Q0a t109.length Q0b)) (fun _ hk => hk.2) (.slice Q0c t112.length Q0d)) (fun _ hk => hk.2) (.slice Q0f t115.length Q0g)) (fun _ h_ => h_.1))) hb); replace Q0u := Aside0.mk (rB (by (with_reducible repeat (first | apply rA | apply rN | apply rD)); exact (Kd.R_mono (Kd.R_far (p := ⟨Q02, 3, none⟩) (Kd.R_far (p := ⟨Q02, 2, none⟩) (Kd.R_far (p := ⟨Q02, 1, none⟩) (Kd.R_far (p := ⟨Q02, 0, none⟩) (Kd.R_types Q0u.out Q01.out (by decide)) (fun _ hk => hk.2) (.slice Q08 t106.length Q09)) (fun _ hk => hk.2) (.slice Q0a t109.length Q0b)) (fun _ hk => hk.2) (.slice Q0c t112.length Q0d)) (fun _ hk => hk.2) (.slice Q0f t115.length Q0g)) (fun _ h_ => h_.1))) hb); replace Q0v := Aside0.mk (rB (by (with_reducible repeat (first | apply rA | apply rN | apply rD)); exact (Kd.R_mono (Kd.R_far (p := ⟨Q02, 3, none⟩) (Kd.R_far (p := ⟨Q02, 2, none⟩) (Kd.R_far (p := ⟨Q02, 1, none⟩) (Kd.R_far (p := ⟨Q02, 0, none⟩) (Kd.R_types Q0v.out Q01.out (by decide)) (fun _ hk => hk.2) (.slice Q08 t106.length Q09)) (fun _ hk => hk.2) (.slice Q0a t109.length Q0b)) (fun _ hk => hk.2) (.slice Q0c t112.length Q0d)) (fun _ hk => hk.2) (.slice Q0f t115.length Q0g)) (fun _ h_ => h_.1))) hb); replace Q0w := Aside0.mk (rB (by (with_reducible repeat (first | apply rA | apply rN | apply rD)); exact (Kd.R_mono (Kd.R_far (p := ⟨Q02, 3, none⟩) (Kd.R_far (p := ⟨Q02, 2, none⟩) (Kd.R_far (p := ⟨Q02, 1, none⟩) (Kd.R_far (p := ⟨Q02, 0, none⟩) (Kd.R_types Q0w.out Q01.out (by decide)) (fun _ hk => hk.2) (.slice Q08 t106.length Q09)) (fun _ hk => hk.2) (.slice Q0a t109.length Q0b)) (fun _ hk => hk.2) (.slice Q0c t112.length Q0d)) (fun _ hk => hk.2) (.slice Q0f t115.length Q0g)) (fun _ h_ => h_.1))) hb); replace Q00 := Aside0.mk (bB (g := Q07) (o := .cells #[.slice A0_0 l0_0.length c0_0, .slice A0_1 l0_1.length c0_1, .slice A0_2 l0_2.length c0_2, .slice A0_3 l0_3.length c0_3, .slice A0_4 l0_4.length c0_4, .slice A0_5 l0_5.length c0_5, .slice A0_6 l0_6.length c0_6, .slice A0_7 l0_7.length c0_7, .slice A0_8 l0_8.length c0_8, .slice A0_9 l0_9.length c0_9] 29 (0, 0)) (by (with_reducible repeat (first | refine bN ?_ _ | refine bD ?_ | refine bA ?_ _)); refine blk_far ?_ Q0l.out _; (with_reducible repeat (first | refine bN ?_ _ | refine bD ?_ | refine bA ?_ _)); refine blk_far ?_ Q0l.out _; (with_reducible repeat (first | refine bN ?_ _ | refine bD ?_ | refine bA ?_ _)); refine blk_far ?_ Q0l.out _; (with_reducible repeat (first | refine bN ?_ _ | refine bD ?_ | refine bA ?_ _)); refine blk_far ?_ Q0l.out _; (with_reducible repeat (first | refine bN ?_ _ | refine bD ?_ | refine bA ?_ _)); exact Q00.out) hb); replace Q03 := Aside0.mk (bB (g := Q0s) (o := .cells #[.slice A1_0 l1_0.length c1_0, .slice A1_1 l1_1.length c1_1] 25 (0, 0)) (by (with_reducible repeat (first | refine bN ?_ _ | refine bD ?_ | refine bA ?_ _)); refine blk_far ?_ Q0m.out _; (with_reducible repeat (first | refine bN ?_ _ | refine bD ?_ | refine bA ?_ _)); refine blk_far ?_ Q0m.out _; (with_reducible repeat (first | refine bN ?_ _ | refine bD ?_ | refine bA ?_ _)); refine blk_far ?_ Q0m.out _; (with_reducible repeat (first | refine bN ?_ _ | refine bD ?_ | refine bA ?_ _)); refine blk_far ?_ Q0m.out _; (with_reducible repeat (first | refine bN ?_ _ | refine bD ?_ | refine bA ?_ _)); exact Q03.out) hb); replace Q04 := Aside0.mk (bB (g := Q0q) (o := .cells #[.slice A2_0 l2_0.length c2_0, .slice A2_1 l2_1.length c2_1] 27 (0, 0)) (by (with_reducible repeat (first | refine bN ?_ _ | refine bD ?_ | refine bA ?_ _)); refine blk_far ?_ Q0o.out _; (with_reducible repeat (first | refine bN ?_ _ | refine bD ?_ | refine bA ?_ _)); refine blk_far ?_ Q0o.out _; (with_reducible repeat (first | refine bN ?_ _ | refine bD ?_ | refine bA ?_ _)); refine blk_far ?_ Q0o.out _; (with_reducible repeat (first | refine bN ?_ _ | refine bD ?_ | refine bA ?_ _)); refine blk_far ?_ Q0o.out _; (with_reducible repeat (first | refine bN ?_ _ | refine bD ?_ | refine bA ?_ _)); exact Q04.out) hb); replace Q06 := Aside0.mk (bB (g := Q0r) (o := .cells #[.slice A3_0 l3_0.length c3_0, .slice A3_1 l3_1.length c3_1] 27 (0, 0)) (by (with_reducible repeat (first | refine bN ?_ _ | refine bD ?_ | refine bA ?_ _)); refine blk_far ?_ Q0p.out _; (with_reducible repeat (first | refine bN ?_ _ | refine bD ?_ | refine bA ?_ _)); refine blk_far ?_ Q0p.out _; (with_reducible repeat (first | refine bN ?_ _ | refine bD ?_ | refine bA ?_ _)); refine blk_far ?_ Q0p.out _; (with_reducible repeat (first | refine bN ?_ _ | refine bD ?_ | refine bA ?_ _)); refine blk_far ?_ Q0p.out _; (with_reducible repeat (first | refine bN ?_ _ | refine bD ?_ | refine bA ?_ _)); exact Q06.out) hb); replace Q05 := Aside0.mk (bB (g := Q0e) (o := .cells #[.slice none 0 0, .slice none 0 0] 27 (0, 0)) (by (with_reducible repeat (first | refine bN ?_ _ | refine bD ?_ | refine bA ?_ _)); refine blk_far ?_ Q0k.out _; (with_reducible repeat (first | refine bN ?_ _ | refine bD ?_ | refine bA ?_ _)); refine blk_far ?_ Q0k.out _; (with_reducible repeat (first | refine bN ?_ _ | refine bD ?_ | refine bA ?_ _)); refine blk_far ?_ Q0k.out _; (with_reducible repeat (first | refine bN ?_ _ | refine bD ?_ | refine bA ?_ _)); refine blk_far ?_ Q0k.out _; (with_reducible repeat (first | refine bN ?_ _ | refine bD ?_ | refine bA ?_ _)); exact Q05.out) hb); replace Q01 := Aside0.mk (bB (g := Q02) (o := .cells #[.slice Q08 t106.length Q09, .slice Q0a t109.length Q0b, .slice Q0c t112.length Q0d, .slice Q0f t115.length Q0g] 81 (0, 0)) (by (with_reducible repeat (first | refine bN ?_ _ | refine bD ?_ | refine bA ?_ _)); refine blk_put (cs := #[.slice Q08 t106.length Q09, .slice Q0a t109.length Q0b, .slice Q0c t112.length Q0d, .slice none 0 0]) ?_ 3 _ rfl; (with_reducible repeat (first | refine bN ?_ _ | refine bD ?_ | refine bA ?_ _)); refine blk_put (cs := #[.slice Q08 t106.length Q09, .slice Q0a t109.length Q0b, .slice none 0 0, .slice none 0 0]) ?_ 2 _ rfl; (with_reducible repeat (first | refine bN ?_ _ | refine bD ?_ | refine bA ?_ _)); refine blk_put (cs := #[.slice Q08 t106.length Q09, .slice none 0 0, .slice none 0 0, .slice none 0 0]) ?_ 1 _ rfl; (with_reducible repeat (first | refine bN ?_ _ | refine bD ?_ | refine bA ?_ _)); refine blk_put (cs := #[.slice none 0 0, .slice none 0 0, .slice none 0 0, .slice none 0 0]) ?_ 0 _ rfl; (with_reducible repeat (first | refine bN ?_ _ | refine bD ?_ | refine bA ?_ _)); exact Q01.out) hb); replace HB := uH HB hb; (try clear hb); (try clear hb2); (try clear hk); (try clear hi)))
   go_meet
   case rel => exact ⟨_, (t120), rS, H', ⟨by first | omega | exact Nat.le_refl _⟩, ⟨pR Q0t⟩, ⟨pR Q0u⟩, ⟨pR Q0v⟩, ⟨pR Q0w⟩, ⟨pB Q00⟩, ⟨pB Q03⟩, ⟨pB Q04⟩, ⟨pB Q06⟩, ⟨pB Q05⟩, ⟨pB Q01⟩, ⟨pH HB⟩⟩
  ·rw [if_neg c29] at H
   have c29b0 : (t118 == 0) = false := beq_eq_false_iff_ne.mpr c29
   have c29b1 : (t118 != 0) = true := bne_iff_ne.mpr c29
   (first | rw [c29b0] | (simp only [i64_w, i32_w]; rw [c29b0]) | skip)
   have H' := Aside0.mk H
   clear H
   go_wp2
   go_meet
   case rel => exact ⟨_, (t118), rS, H', ⟨by first | omega | exact Nat.le_refl _⟩, ⟨by (with_reducible repeat (first | apply rA | apply rN | apply rD)); exact Kd.R_mono (Kd.R_far (p := ⟨Q02, 3, none⟩) (Kd.R_far (p := ⟨Q02, 2, none⟩) (Kd.R_far (p := ⟨Q02, 1, none⟩) (Kd.R_far (p := ⟨Q02, 0, none⟩) (Kd.R_types Q0t.out Q01.out (by decide)) (fun _ hk => hk.2) (.slice Q08 t106.length Q09)) (fun _ hk => hk.2) (.slice Q0a t109.length Q0b)) (fun _ hk => hk.2) (.slice Q0c t112.length Q0d)) (fun _ hk => hk.2) (.slice Q0f t115.length Q0g)) (fun _ hk => hk.1)⟩, ⟨by (with_reducible repeat (first | apply rA | apply rN | apply rD)); exact Kd.R_mono (Kd.R_far (p := ⟨Q02, 3, none⟩) (Kd.R_far (p := ⟨Q02, 2, none⟩) (Kd.R_far (p := ⟨Q02, 1, none⟩) (Kd.R_far (p := ⟨Q02, 0, none⟩) (Kd.R_types Q0u.out Q01.out (by decide)) (fun _ hk => hk.2) (.slice Q08 t106.length Q09)) (fun _ hk => hk.2) (.slice Q0a t109.length Q0b)) (fun _ hk => hk.2) (.slice Q0c t112.length Q0d)) (fun _ hk => hk.2) (.slice Q0f t115.length Q0g)) (fun _ hk => hk.1)⟩, ⟨by (with_reducible repeat (first | apply rA | apply rN | apply rD)); exact Kd.R_mono (Kd.R_far (p := ⟨Q02, 3, none⟩) (Kd.R_far (p := ⟨Q02, 2, none⟩) (Kd.R_far (p := ⟨Q02, 1, none⟩) (Kd.R_far (p := ⟨Q02, 0, none⟩) (Kd.R_types Q0v.out Q01.out (by decide)) (fun _ hk => hk.2) (.slice Q08 t106.length Q09)) (fun _ hk => hk.2) (.slice Q0a t109.length Q0b)) (fun _ hk => hk.2) (.slice Q0c t112.length Q0d)) (fun _ hk => hk.2) (.slice Q0f t115.length Q0g)) (fun _ hk => trivial)⟩, ⟨by (with_reducible repeat (first | apply rA | apply rN | apply rD)); exact Kd.R_mono (Kd.R_far (p := ⟨Q02, 3, none⟩) (Kd.R_far (p := ⟨Q02, 2, none⟩) (Kd.R_far (p := ⟨Q02, 1, none⟩) (Kd.R_far (p := ⟨Q02, 0, none⟩) (Kd.R_types Q0w.out Q01.out (by decide)) (fun _ hk => hk.2) (.slice Q08 t106.length Q09)) (fun _ hk => hk.2) (.slice Q0a t109.length Q0b)) (fun _ hk => hk.2) (.slice Q0c t112.length Q0d)) (fun _ hk => hk.2) (.slice Q0f t115.length Q0g)) (fun _ hk => trivial)⟩, ⟨by (with_reducible repeat (first | refine bN ?_ _ | refine bD ?_ | refine bA ?_ _)); refine blk_far ?_ Q0l.out _; (with_reducible repeat (first | refine bN ?_ _ | refine bD ?_ | refine bA ?_ _)); refine blk_far ?_ Q0l.out _; (with_reducible repeat (first | refine bN ?_ _ | refine bD ?_ | refine bA ?_ _)); refine blk_far ?_ Q0l.out _; (with_reducible repeat (first | refine bN ?_ _ | refine bD ?_ | refine bA ?_ _)); refine blk_far ?_ Q0l.out _; (with_reducible repeat (first | refine bN ?_ _ | refine bD ?_ | refine bA ?_ _)); exact Q00.out⟩, ⟨by (with_reducible repeat (first | refine bN ?_ _ | refine bD ?_ | refine bA ?_ _)); refine blk_far ?_ Q0m.out _; (with_reducible repeat (first | refine bN ?_ _ | refine bD ?_ | refine bA ?_ _)); refine blk_far ?_ Q0m.out _; (with_reducible repeat (first | refine bN ?_ _ | refine bD ?_ | refine bA ?_ _)); refine blk_far ?_ Q0m.out _; (with_reducible repeat (first | refine bN ?_ _ | refine bD ?_ | refine bA ?_ _)); refine blk_far ?_ Q0m.out _; (with_reducible repeat (first | refine bN ?_ _ | refine bD ?_ | refine bA ?_ _)); exact Q03.out⟩, ⟨by (with_reducible repeat (first | refine bN ?_ _ | refine bD ?_ | refine bA ?_ _)); refine blk_far ?_ Q0o.out _; (with_reducible repeat (first | refine bN ?_ _ | refine bD ?_ | refine bA ?_ _)); refine blk_far ?_ Q0o.out _; (with_reducible repeat (first | refine bN ?_ _ | refine bD ?_ | refine bA ?_ _)); refine blk_far ?_ Q0o.out _; (with_reducible repeat (first | refine bN ?_ _ | refine bD ?_ | refine bA ?_ _)); refine blk_far ?_ Q0o.out _; (with_reducible repeat (first | refine bN ?_ _ | refine bD ?_ | refine bA ?_ _)); exact Q04.out⟩, ⟨by (with_reducible repeat (first | refine bN ?_ _ | refine bD ?_ | refine bA ?_ _)); refine blk_far ?_ Q0p.out _; (with_reducible repeat (first | refine bN ?_ _ | refine bD ?_ | refine bA ?_ _)); refine blk_far ?_ Q0p.out _; (with_reducible repeat (first | refine bN ?_ _ | refine bD ?_ | refine bA ?_ _)); refine blk_far ?_ Q0p.out _; (with_reducible repeat (first | refine bN ?_ _ | refine bD ?_ | refine bA ?_ _)); refine blk_far ?_ Q0p.out _; (with_reducible repeat (first | refine bN ?_ _ | refine bD ?_ | refine bA ?_ _)); exact Q06.out⟩, ⟨by (with_reducible repeat (first | refine bN ?_ _ | refine bD ?_ | refine bA ?_ _)); refine blk_far ?_ Q0k.out _; (with_reducible repeat (first | refine bN ?_ _ | refine bD ?_ | refine bA ?_ _)); refine blk_far ?_ Q0k.out _; (with_reducible repeat (first | refine bN ?_ _ | refine bD ?_ | refine bA ?_ _)); refine blk_far ?_ Q0k.out _; (with_reducible repeat (first | refine bN ?_ _ | refine bD ?_ | refine bA ?_ _)); refine blk_far ?_ Q0k.out _; (with_reducible repeat (first | refine bN ?_ _ | refine bD ?_ | refine bA ?_ _)); exact Q05.out⟩, ⟨by (with_reducible repeat (first | refine bN ?_ _ | refine bD ?_ | refine bA ?_ _)); refine blk_put (cs := #[.slice Q08 t106.length Q09, .slice Q0a t109.length Q0b, .slice Q0c t112.length Q0d, .slice none 0 0]) ?_ 3 _ rfl; (with_reducible repeat (first | refine bN ?_ _ | refine bD ?_ | refine bA ?_ _)); refine blk_put (cs := #[.slice Q08 t106.length Q09, .slice Q0a t109.length Q0b, .slice none 0 0, .slice none 0 0]) ?_ 2 _ rfl; (with_reducible repeat (first | refine bN ?_ _ | refine bD ?_ | refine bA ?_ _)); refine blk_put (cs := #[.slice Q08 t106.length Q09, .slice none 0 0, .slice none 0 0, .slice none 0 0]) ?_ 1 _ rfl; (with_reducible repeat (first | refine bN ?_ _ | refine bD ?_ | refine bA ?_ _)); refine blk_put (cs := #[.slice none 0 0, .slice none 0 0, .slice none 0 0, .slice none 0 0]) ?_ 0 _ rfl; (with_reducible repeat (first | refine bN ?_ _ | refine bD ?_ | refine bA ?_ _)); exact Q01.out⟩, ⟨pH HB⟩⟩
 case rest =>
  clear HC6
  try clear c1; try clear c2; try clear p2; try clear c3; try clear c4; try clear c12; try clear c13; try clear c14; try clear c15; try clear c20; try clear c21; try clear c22; try clear c23; try clear c24; try clear c29; try clear c29b0; try clear c29b1; try clear c31; try clear c32; try clear c33; try clear c34; try clear c35; try clear c37; try clear c38; try clear c39; try clear c40; try clear c41; try clear c42; try clear c43; try clear c44; try clear Q1s; try clear Q1t; try clear Q1u; try clear Q1v; try clear Q1w; try clear Q1x; try clear Q1y; try clear Q1z; try clear Q20; try clear Q21; try clear Q2f; try clear Q2g; try clear Q2h; try clear Q2i; try clear Q2n; try clear Q2o; try clear Q2r; try clear Q2s; try clear Q2t; try clear Q2u; try clear Q2v; try clear Q2w; try clear Q2x; try clear Q2y; try clear Q2z; try clear Q30; try clear Q3b; try clear Q3c; try clear Q22; try clear Q23; try clear Q24; try clear Q25; try clear Q26; try clear Q27; try clear Q28; try clear Q29; try clear Q2a; try clear Q2b; try clear Q2j; try clear Q2k; try clear Q2l; try clear Q2m; try clear Q2p; try clear Q2q; try clear Q31; try clear Q32; try clear Q33; try clear Q34; try clear Q35; try clear Q36; try clear Q37; try clear Q38; try clear Q39; try clear Q3a; try clear Q3d; try clear Q3e
  obtain ⟨kq, x11_5, rfl, HA, HJ5, Q0h, Q0i, Q0j, Q0n, Q00, Q03, Q04, Q06, Q05, Q01, HB⟩ := hcut
  cases kq with
  | zero => exact absurd HA.out (by simp [pullback_Mediate.j0])
  | succ kj5 =>
   have H := HA.out
   clear HA
   simp only [pullback_Mediate.j0] at H
   have HC47 := Aside0.mk H
   clear H
   go_upto_if 29 with (fail)
   go_cut [11] (fun v11 wc => ∃ (kq : Nat) (x11_46 : Int), v11 = .int .i64 x11_46 ∧ Aside0 (pullback_Mediate.j1 kq x11_46 l2_0 l2_1 l3_0 l3_1 t106 t109 t112 t115 = some (r1, r2, r3)) ∧ Aside0 (kq ≤ kj5) ∧ Aside0 (Kd.R k79 79 wc w.heap.size (fun k_ => some k_ ≠ ((.slice Q0a t109.length Q0b) : Value).ownBlock) (.slice Q08 t106.length Q09) t106) ∧ Aside0 (Kd.R k79 79 wc w.heap.size (fun k_ => some k_ ≠ ((.slice Q08 t106.length Q09) : Value).ownBlock) (.slice Q0a t109.length Q0b) t109) ∧ Aside0 (Kd.R (Kd.int .i64) 3 wc w.heap.size (fun _ => True) (.slice Q0c t112.length Q0d) t112) ∧ Aside0 (Kd.R k94 94 wc w.heap.size (fun _ => True) (.slice Q0f t115.length Q0g) t115) ∧ Aside0 (wc.heap[Q07]? = some (.cells #[(.slice A0_0 l0_0.length c0_0), (.slice A0_1 l0_1.length c0_1), (.slice A0_2 l0_2.length c0_2), (.slice A0_3 l0_3.length c0_3), (.slice A0_4 l0_4.length c0_4), (.slice A0_5 l0_5.length c0_5), (.slice A0_6 l0_6.length c0_6), (.slice A0_7 l0_7.length c0_7), (.slice A0_8 l0_8.length c0_8), (.slice A0_9 l0_9.length c0_9)] 29 (0, 0))) ∧ Aside0 (wc.heap[Q0s]? = some (.cells #[(.slice A1_0 l1_0.length c1_0), (.slice A1_1 l1_1.length c1_1)] 25 (0, 0))) ∧ Aside0 (wc.heap[Q0q]? = some (.cells #[(.slice A2_0 l2_0.length c2_0), (.slice A2_1 l2_1.length c2_1)] 27 (0, 0))) ∧ Aside0 (wc.heap[Q0r]? = some (.cells #[(.slice A3_0 l3_0.length c3_0), (.slice A3_1 l3_1.length c3_1)] 27 (0, 0))) ∧ Aside0 (wc.heap[Q0e]? = some (.cells #[(.slice none 0 0), (.slice none 0 0)] 27 (0, 0))) ∧ Aside0 (wc.heap[Q02]? = some (.cells #[(.slice Q08 t106.length Q09), (.slice Q0a t109.length Q0b), (.slice Q0c t112.length Q0d), (.slice Q0f t115.length Q0g)] 81 (0, 0))) ∧ Aside0 (Below w.heap.size w wc))
   case first =>
    have H := HC47.out
    clear HC47
    by_cases c48 : x11_5 = 0
    ·rw [if_pos c48] at H
     have c48b0 : (x11_5 == 0) = true := beq_iff_eq.mpr c48
     have c48b1 : (x11_5 != 0) = false := bne_eq_false_iff_eq.mpr c48
     clear c48
     (first | rw [c48b0] | (simp only [i64_w, i32_w]; rw [c48b0]) | skip)
     replace H := Option.bind_eq_some_iff.mp H
     obtain ⟨t121, A490, H⟩ := H
     replace H : (pullback_Mediate.j1 kj5 t121 l2_0 l2_1 l3_0 l3_1 t106 t109 t112 t115) = some (r1, r2, r3) := H
     have A49 := Aside0.mk A490
     clear A490
     have H' := Aside0.mk H
     clear H
     have Q6q := Q1i.out
     have Q6r := Q1h.out
     have Q6s := Q1k.out
     have Q6t := Q1l.out
     have Q6u := Q1n.out
     have Q6v := Q1o.out
     have Q6w := Q0z.out
     have Q6x := Q10.out
     have Q6y := Q0m.out
     have Q6z := Q1c.out
     have Q3h : wc.cell? ⟨Q0s, 0, none⟩ = some (.slice A1_0 l1_0.length c1_0) := (blk_cell Q03.out 0).trans rfl
     have Q3i : wc.cell? ⟨Q0s, 1, none⟩ = some (.slice A1_1 l1_1.length c1_1) := (blk_cell Q03.out 1).trans rfl
     have Q3j := blk_frozen Q03.out 0
     have Q3k := blk_frozen Q03.out 1
     have Q70 := Q17.out
     have Q71 := Q18.out
     have Q72 := Q19.out
     have Q73 := Q1a.out
     have Q74 := Q0x.out
     have Q75 := Q0y.out
     have Q76 := Q0l.out
     have Q77 := Q1b.out
     have Q3l : wc.cell? ⟨Q07, 0, none⟩ = some (.slice A0_0 l0_0.length c0_0) := (blk_cell Q00.out 0).trans rfl
     have Q3m : wc.cell? ⟨Q07, 1, none⟩ = some (.slice A0_1 l0_1.length c0_1) := (blk_cell Q00.out 1).trans rfl
     have Q3n : wc.cell? ⟨Q07, 2, none⟩ = some (.slice A0_2 l0_2.length c0_2) := (blk_cell Q00.out 2).trans rfl
     have Q3o : wc.cell? ⟨Q07, 3, none⟩ = some (.slice A0_3 l0_3.length c0_3) := (blk_cell Q00.out 3).trans rfl
     have Q3p : wc.cell? ⟨Q07, 4, none⟩ = some (.slice A0_4 l0_4.length c0_4) := (blk_cell Q00.out 4).trans rfl
     have Q3q : wc.cell? ⟨Q07, 5, none⟩ = some (.slice A0_5 l0_5.length c0_5) := (blk_cell Q00.out 5).trans rfl
     have Q3r : wc.cell? ⟨Q07, 6, none⟩ = some (.slice A0_6 l0_6.length c0_6) := (blk_cell Q00.out 6).trans rfl
     have Q3s : wc.cell? ⟨Q07, 7, none⟩ = some (.slice A0_7 l0_7.length c0_7) := (blk_cell Q00.out 7).trans rfl
     have Q3t : wc.cell? ⟨Q07, 8, none⟩ = some (.slice A0_8 l0_8.length c0_8) := (blk_cell Q00.out 8).trans rfl
     have Q3u : wc.cell? ⟨Q07, 9, none⟩ = some (.slice A0_9 l0_9.length c0_9) := (blk_cell Q00.out 9).trans rfl
     have Q3v := blk_frozen Q00.out 0
     have Q3w := blk_frozen Q00.out 1
     have Q3x := blk_frozen Q00.out 2
     have Q3y := blk_frozen Q00.out 3
     have Q3z := blk_frozen Q00.out 4
     have Q40 := blk_frozen Q00.out 5
     have Q41 := blk_frozen Q00.out 6
     have Q42 := blk_frozen Q00.out 7
     have Q43 := blk_frozen Q00.out 8
     have Q44 := blk_frozen Q00.out 9
     have Q78 := Q1q.out
     have Q79 := Q1p.out
     have Q7a := Q13.out
     have Q7b := Q14.out
     have Q7c := Q0p.out
     have Q7d := Q2e.out
     have Q45 : wc.cell? ⟨Q0r, 0, none⟩ = some (.slice A3_0 l3_0.length c3_0) := (blk_cell Q06.out 0).trans rfl
     have Q46 : wc.cell? ⟨Q0r, 1, none⟩ = some (.slice A3_1 l3_1.length c3_1) := (blk_cell Q06.out 1).trans rfl
     have Q47 := blk_frozen Q06.out 0
     have Q48 := blk_frozen Q06.out 1
     go_wp2_with (first | ((with_reducible refine gate_callee (f := 42) rfl ?_); refine goesL_ (some 34) rfl rfl Try.func42 (by kernel_rfl) rfl #[.agg #[.slice A1_0 l1_0.length c1_0, .slice A1_1 l1_1.length c1_1], .agg #[.slice A0_2 l0_2.length c0_2, .slice A0_3 l0_3.length c0_3], .agg #[.slice A3_0 l3_0.length c3_0, .slice A3_1 l3_1.length c3_1]] rfl aM ?_; (with_reducible refine (morphism_Valid.calls _ _ l1_0 _ _ l1_1 _ _ l0_2 _ _ l0_3 _ _ l3_0 _ _ l3_1 t121 _ ?side1 ?side2 ?side3 ?side4 ?side5 ?side6 ?side7 ?side8 ?side9 ?side10 ?side11 ?side12 A49.out).mono ?_); (case side1 => repeat (first | exact (cB HR1_0.out HB.out) | (with_reducible refine cA ?_ _) | (with_reducible refine cN ?_ _) | (with_reducible refine cD ?_))); (case side2 => exact HC1_0.out); (case side3 => repeat (first | exact (cB HR1_1.out HB.out) | (with_reducible refine cA ?_ _) | (with_reducible refine cN ?_ _) | (with_reducible refine cD ?_))); (case side4 => exact HC1_1.out); (case side5 => repeat (first | exact (cB HR0_2.out HB.out) | (with_reducible refine cA ?_ _) | (with_reducible refine cN ?_ _) | (with_reducible refine cD ?_))); (case side6 => exact HC0_2.out); (case side7 => repeat (first | exact (cB HR0_3.out HB.out) | (with_reducible refine cA ?_ _) | (with_reducible refine cN ?_ _) | (with_reducible refine cD ?_))); (case side8 => exact HC0_3.out); (case side9 => repeat (first | exact (cB HR3_0.out HB.out) | (with_reducible refine cA ?_ _) | (with_reducible refine cN ?_ _) | (with_reducible refine cD ?_))); (case side10 => exact HC3_0.out); (case side11 => repeat (first | exact (cB HR3_1.out HB.out) | (with_reducible refine cA ?_ _) | (with_reducible refine cN ?_ _) | (with_reducible refine cD ?_))); (case side12 => exact HC3_1.out); rintro e w65 ⟨rfl, hb⟩; refine ⟨_, rfl, ?_⟩; replace Q0h := uR Q0h hb; replace Q0i := uR Q0i hb; replace Q0j := uR Q0j hb; replace Q0n := uR Q0n hb; replace Q00 := uB Q00 hb; replace Q03 := uB Q03 hb; replace Q04 := uB Q04 hb; replace Q06 := uB Q06 hb; replace Q05 := uB Q05 hb; replace Q01 := uB Q01 hb; replace HB := uH HB hb; (try clear hb); (try clear hb2); (try clear hk); (try clear hi)))
     go_meet
     case rel => exact ⟨_, (t121), rS, H', ⟨by have := HJ5.out; first | omega | exact Nat.le_refl _⟩, ⟨pR Q0h⟩, ⟨pR Q0i⟩, ⟨pR Q0j⟩, ⟨pR Q0n⟩, ⟨pB Q00⟩, ⟨pB Q03⟩, ⟨pB Q04⟩, ⟨pB Q06⟩, ⟨pB Q05⟩, ⟨pB Q01⟩, ⟨pH HB⟩⟩
    ·rw [if_neg c48] at H
     have c48b0 : (x11_5 == 0) = false := beq_eq_false_iff_ne.mpr c48
     have c48b1 : (x11_5 != 0) = true := bne_iff_ne.mpr c48
     (first | rw [c48b0] | (simp only [i64_w, i32_w]; rw [c48b0]) | skip)
     have H' := Aside0.mk H
     clear H
     go_wp2
     go_meet
     case rel => exact ⟨_, (x11_5), rS, H', ⟨by have := HJ5.out; first | omega | exact Nat.le_refl _⟩, ⟨pR Q0h⟩, ⟨pR Q0i⟩, ⟨pR Q0j⟩, ⟨pR Q0n⟩, ⟨pB Q00⟩, ⟨pB Q03⟩, ⟨pB Q04⟩, ⟨pB Q06⟩, ⟨pB Q05⟩, ⟨pB Q01⟩, ⟨pH HB⟩⟩
   case rest =>
    clear HC47
    try clear c1; try clear c2; try clear p2; try clear c3; try clear c4; try clear c5; try clear c6; try clear c12; try clear c13; try clear c14; try clear c15; try clear c20; try clear c21; try clear c22; try clear c23; try clear c24; try clear c29; try clear c29b0; try clear c29b1; try clear c31; try clear c32; try clear c33; try clear c34; try clear c35; try clear c37; try clear c38; try clear c39; try clear c40; try clear c41; try clear c42; try clear c43; try clear c44; try clear c48; try clear c48b0; try clear c48b1; try clear c50; try clear c51; try clear c52; try clear c53; try clear c54; try clear c56; try clear c57; try clear c58; try clear c59; try clear c61; try clear c62; try clear c63; try clear Q1s; try clear Q1t; try clear Q1u; try clear Q1v; try clear Q1w; try clear Q1x; try clear Q1y; try clear Q1z; try clear Q20; try clear Q21; try clear Q2f; try clear Q2g; try clear Q2h; try clear Q2i; try clear Q2n; try clear Q2o; try clear Q2r; try clear Q2s; try clear Q2t; try clear Q2u; try clear Q2v; try clear Q2w; try clear Q2x; try clear Q2y; try clear Q2z; try clear Q30; try clear Q3b; try clear Q3c; try clear Q3h; try clear Q3i; try clear Q3l; try clear Q3m; try clear Q3n; try clear Q3o; try clear Q3p; try clear Q3q; try clear Q3r; try clear Q3s; try clear Q3t; try clear Q3u; try clear Q45; try clear Q46; try clear Q22; try clear Q23; try clear Q24; try clear Q25; try clear Q26; try clear Q27; try clear Q28; try clear Q29; try clear Q2a; try clear Q2b; try clear Q2j; try clear Q2k; try clear Q2l; try clear Q2m; try clear Q2p; try clear Q2q; try clear Q31; try clear Q32; try clear Q33; try clear Q34; try clear Q35; try clear Q36; try clear Q37; try clear Q38; try clear Q39; try clear Q3a; try clear Q3d; try clear Q3e; try clear Q3j; try clear Q3k; try clear Q3v; try clear Q3w; try clear Q3x; try clear Q3y; try clear Q3z; try clear Q40; try clear Q41; try clear Q42; try clear Q43; try clear Q44; try clear Q47; try clear Q48; try clear p2
    obtain ⟨kq, x11_46, rfl, HA, HJ46, Q0h, Q0i, Q0j, Q0n, Q00, Q03, Q04, Q06, Q05, Q01, HB⟩ := hcut
    cases kq with
    | zero => exact absurd HA.out (by simp [pullback_Mediate.j1])
    | succ kj46 =>
     have H := HA.out
     clear HA
     simp only [pullback_Mediate.j1] at H
     by_cases c66 : x11_46 = 0
     ·rw [if_pos c66] at H
      have c66b0 : (x11_46 == 0) = true := beq_iff_eq.mpr c66
      have c66b1 : (x11_46 != 0) = false := bne_eq_false_iff_eq.mpr c66
      clear c66
      replace H := Option.bind_eq_some_iff.mp H
      obtain ⟨⟨t122, t123⟩, A670, H⟩ := H
      replace H : ((pullback_meet.f kj46 t109 l2_1 l3_1).bind fun bt126 => (if t123 = true then (pullback_Mediate.j2 kj46 t122 bt126.1 (!bt126.2)) else (pullback_Mediate.j2 kj46 t122 bt126.1 true))) = some (r1, r2, r3) := H
      have A67 := Aside0.mk A670
      clear A670
      replace H := Option.bind_eq_some_iff.mp H
      obtain ⟨⟨t126, t127⟩, A680, H⟩ := H
      replace H : (if t123 = true then (pullback_Mediate.j2 kj46 t122 t126 (!t127)) else (pullback_Mediate.j2 kj46 t122 t126 true)) = some (r1, r2, r3) := H
      have A68 := Aside0.mk A680
      clear A680
      have HC69 := Aside0.mk H
      clear H
      have Q7e := Q1b.out
      have Q7f := Q0l.out
      have Q7g := Q1c.out
      have Q7h := Q0m.out
      have Q7i := Q2d.out
      have Q7j := Q0o.out
      have Q7k := Q2e.out
      have Q7l := Q0p.out
      have Q7m := Q15.out
      have Q7n := Q0k.out
      have Q4g : wc.cell? ⟨Q02, 0, none⟩ = some (.slice Q08 t106.length Q09) := (blk_cell Q01.out 0).trans rfl
      have Q4h : wc.cell? ⟨Q02, 1, none⟩ = some (.slice Q0a t109.length Q0b) := (blk_cell Q01.out 1).trans rfl
      have Q4i : wc.cell? ⟨Q02, 2, none⟩ = some (.slice Q0c t112.length Q0d) := (blk_cell Q01.out 2).trans rfl
      have Q4j : wc.cell? ⟨Q02, 3, none⟩ = some (.slice Q0f t115.length Q0g) := (blk_cell Q01.out 3).trans rfl
      have Q4k := blk_frozen Q01.out 0
      have Q4l := blk_frozen Q01.out 1
      have Q4m := blk_frozen Q01.out 2
      have Q4n := blk_frozen Q01.out 3
      have Q7o := Q18.out
      have Q7p := Q17.out
      have Q7q := Q1l.out
      have Q7r := Q1k.out
      have Q7s := Q1p.out
      have Q7t := Q1q.out
      have Q7u := Q11.out
      have Q7v := Q12.out
      have Q4o : wc.cell? ⟨Q0q, 0, none⟩ = some (.slice A2_0 l2_0.length c2_0) := (blk_cell Q04.out 0).trans rfl
      have Q4p : wc.cell? ⟨Q0q, 1, none⟩ = some (.slice A2_1 l2_1.length c2_1) := (blk_cell Q04.out 1).trans rfl
      have Q4q := blk_frozen Q04.out 0
      have Q4r := blk_frozen Q04.out 1
      have Q7w := Q1a.out
      have Q7x := Q19.out
      have Q7y := Q1o.out
      have Q7z := Q1n.out
      have Q80 := Q13.out
      have Q81 := Q14.out
      have Q4s : wc.cell? ⟨Q0r, 0, none⟩ = some (.slice A3_0 l3_0.length c3_0) := (blk_cell Q06.out 0).trans rfl
      have Q4t : wc.cell? ⟨Q0r, 1, none⟩ = some (.slice A3_1 l3_1.length c3_1) := (blk_cell Q06.out 1).trans rfl
      have Q4u := blk_frozen Q06.out 0
      have Q4v := blk_frozen Q06.out 1
      go_upto_region 10 with (first | ((with_reducible refine gate_callee (f := 43) rfl ?_); refine goesL_ (some 46) rfl rfl Try.func43 (by kernel_rfl) rfl #[.slice Q08 t106.length Q09, .slice A2_0 l2_0.length c2_0, .slice A3_0 l3_0.length c3_0] rfl aM ?_; (with_reducible refine (pullback_meet.calls kj46 _ _ t106 _ _ l2_0 _ _ l3_0 t122 t123 _ ?side1 ?side2 ?side3 ?side4 ?side5 ?side6 A67.out).mono ?_); (case side1 => repeat (first | exact (Kd.R_reads' Q0h.out).2.2 | (with_reducible refine cA ?_ _) | (with_reducible refine cN ?_ _) | (with_reducible refine cD ?_))); (case side2 => exact (Kd.R_reads' Q0h.out).2.1); (case side3 => repeat (first | exact (cB HR2_0.out HB.out) | (with_reducible refine cA ?_ _) | (with_reducible refine cN ?_ _) | (with_reducible refine cD ?_))); (case side4 => exact HC2_0.out); (case side5 => repeat (first | exact (cB HR3_0.out HB.out) | (with_reducible refine cA ?_ _) | (with_reducible refine cN ?_ _) | (with_reducible refine cD ?_))); (case side6 => exact HC3_0.out); rintro e w85 ⟨v124, rfl, ho0, hb⟩; refine ⟨_, rfl, ?_⟩; replace Q0h := uR Q0h hb; replace Q0i := uR Q0i hb; replace Q0n := uR Q0n hb; have Q16 := Aside0.mk (Kd.R_lower (Kd.R_new' ho0 (Kd.R_lt (pR Q0j))) (below_size (pH HB))); replace Q0j := eR Q0j (Kd.R_base ho0) hb; replace Q00 := uB Q00 hb; replace Q03 := uB Q03 hb; replace Q04 := uB Q04 hb; replace Q06 := uB Q06 hb; replace Q05 := uB Q05 hb; replace Q01 := uB Q01 hb; replace HB := uH HB hb; (try clear hb); (try clear hb2); (try clear hk); (try clear hi); (try clear ho0); have Q4w : w85.cell? ⟨Q02, 0, none⟩ = some (.slice Q08 t106.length Q09) := (blk_cell Q01.out 0).trans rfl; have Q4x : w85.cell? ⟨Q02, 1, none⟩ = some (.slice Q0a t109.length Q0b) := (blk_cell Q01.out 1).trans rfl; have Q4y : w85.cell? ⟨Q02, 2, none⟩ = some (.slice Q0c t112.length Q0d) := (blk_cell Q01.out 2).trans rfl; have Q4z : w85.cell? ⟨Q02, 3, none⟩ = some (.slice Q0f t115.length Q0g) := (blk_cell Q01.out 3).trans rfl; have Q50 := blk_frozen Q01.out 0; have Q51 := blk_frozen Q01.out 1; have Q52 := blk_frozen Q01.out 2; have Q53 := blk_frozen Q01.out 3; have Q54 : w85.cell? ⟨Q0q, 0, none⟩ = some (.slice A2_0 l2_0.length c2_0) := (blk_cell Q04.out 0).trans rfl; have Q55 : w85.cell? ⟨Q0q, 1, none⟩ = some (.slice A2_1 l2_1.length c2_1) := (blk_cell Q04.out 1).trans rfl; have Q56 := blk_frozen Q04.out 0; have Q57 := blk_frozen Q04.out 1; have Q58 : w85.cell? ⟨Q0r, 0, none⟩ = some (.slice A3_0 l3_0.length c3_0) := (blk_cell Q06.out 0).trans rfl; have Q59 : w85.cell? ⟨Q0r, 1, none⟩ = some (.slice A3_1 l3_1.length c3_1) := (blk_cell Q06.out 1).trans rfl; have Q5a := blk_frozen Q06.out 0; have Q5b := blk_frozen Q06.out 1) | ((with_reducible refine gate_callee (f := 43) rfl ?_); refine goesL_ (some 56) rfl rfl Try.func43 (by kernel_rfl) rfl #[.slice Q0a t109.length Q0b, .slice A2_1 l2_1.length c2_1, .slice A3_1 l3_1.length c3_1] rfl aM ?_; (with_reducible refine (pullback_meet.calls kj46 _ _ t109 _ _ l2_1 _ _ l3_1 t126 t127 _ ?side1 ?side2 ?side3 ?side4 ?side5 ?side6 A68.out).mono ?_); (case side1 => repeat (first | exact (Kd.R_reads' Q0i.out).2.2 | (with_reducible refine cA ?_ _) | (with_reducible refine cN ?_ _) | (with_reducible refine cD ?_))); (case side2 => exact (Kd.R_reads' Q0i.out).2.1); (case side3 => repeat (first | exact (cB HR2_1.out HB.out) | (with_reducible refine cA ?_ _) | (with_reducible refine cN ?_ _) | (with_reducible refine cD ?_))); (case side4 => exact HC2_1.out); (case side5 => repeat (first | exact (cB HR3_1.out HB.out) | (with_reducible refine cA ?_ _) | (with_reducible refine cN ?_ _) | (with_reducible refine cD ?_))); (case side6 => exact HC3_1.out); rintro e w89 ⟨v128, rfl, ho0, hb⟩; refine ⟨_, rfl, ?_⟩; replace Q0h := uR Q0h hb; replace Q0i := uR Q0i hb; replace Q0n := uR Q0n hb; have Q49 := Aside0.mk (Kd.R_lower (Kd.R_new' (Kd.R_new' ho0 (Kd.R_lt (pR Q0j))) (Kd.R_lt (pR Q16))) (below_size (pH HB))); replace Q0j := eR Q0j (Kd.R_base ho0) hb; replace Q16 := eR Q16 (Kd.R_base ho0) hb; replace Q00 := uB Q00 hb; replace Q03 := uB Q03 hb; replace Q04 := uB Q04 hb; replace Q06 := uB Q06 hb; replace Q05 := uB Q05 hb; replace Q01 := uB Q01 hb; replace HB := uH HB hb; (try clear hb); (try clear hb2); (try clear hk); (try clear hi); (try clear ho0)))
      (try simp only [Act.put, List.setIfInBounds_toArray, List.set_cons_zero, List.set_cons_succ])
      go_cut [64] (fun v64 wc => ∃ (kq : Nat) (x64_68 : Bool), v64 = .bool x64_68 ∧ Aside0 (pullback_Mediate.j2 kq t122 t126 x64_68 = some (r1, r2, r3)) ∧ Aside0 (kq ≤ kj46) ∧ Aside0 (Kd.R (Kd.int .i64) 3 wc w.heap.size (fun k_ => some k_ ≠ (v128 : Value).ownBlock ∧ some k_ ≠ ((.slice Q0c t112.length Q0d) : Value).ownBlock) v124 t122) ∧ Aside0 (Kd.R (Kd.int .i64) 3 wc w.heap.size (fun k_ => some k_ ≠ (v124 : Value).ownBlock ∧ some k_ ≠ ((.slice Q0c t112.length Q0d) : Value).ownBlock) v128 t126) ∧ Aside0 (Kd.R k79 79 wc w.heap.size (fun k_ => some k_ ≠ ((.slice Q0a t109.length Q0b) : Value).ownBlock) (.slice Q08 t106.length Q09) t106) ∧ Aside0 (Kd.R k79 79 wc w.heap.size (fun k_ => some k_ ≠ ((.slice Q08 t106.length Q09) : Value).ownBlock) (.slice Q0a t109.length Q0b) t109) ∧ Aside0 (Kd.R (Kd.int .i64) 3 wc w.heap.size (fun k_ => some k_ ≠ (v124 : Value).ownBlock ∧ some k_ ≠ (v128 : Value).ownBlock) (.slice Q0c t112.length Q0d) t112) ∧ Aside0 (Kd.R k94 94 wc w.heap.size (fun _ => True) (.slice Q0f t115.length Q0g) t115) ∧ Aside0 (wc.heap[Q07]? = some (.cells #[(.slice A0_0 l0_0.length c0_0), (.slice A0_1 l0_1.length c0_1), (.slice A0_2 l0_2.length c0_2), (.slice A0_3 l0_3.length c0_3), (.slice A0_4 l0_4.length c0_4), (.slice A0_5 l0_5.length c0_5), (.slice A0_6 l0_6.length c0_6), (.slice A0_7 l0_7.length c0_7), (.slice A0_8 l0_8.length c0_8), (.slice A0_9 l0_9.length c0_9)] 29 (0, 0))) ∧ Aside0 (wc.heap[Q0s]? = some (.cells #[(.slice A1_0 l1_0.length c1_0), (.slice A1_1 l1_1.length c1_1)] 25 (0, 0))) ∧ Aside0 (wc.heap[Q0q]? = some (.cells #[(.slice A2_0 l2_0.length c2_0), (.slice A2_1 l2_1.length c2_1)] 27 (0, 0))) ∧ Aside0 (wc.heap[Q0r]? = some (.cells #[(.slice A3_0 l3_0.length c3_0), (.slice A3_1 l3_1.length c3_1)] 27 (0, 0))) ∧ Aside0 (wc.heap[Q0e]? = some (.cells #[(.slice none 0 0), (.slice none 0 0)] 27 (0, 0))) ∧ Aside0 (wc.heap[Q02]? = some (.cells #[(.slice Q08 t106.length Q09), (.slice Q0a t109.length Q0b), (.slice Q0c t112.length Q0d), (.slice Q0f t115.length Q0g)] 81 (0, 0))) ∧ Aside0 (Below w.heap.size w wc))
      case first =>
       have H := HC69.out
       clear HC69
       by_cases c90 : t123 = true
       ·subst c90
        have H1 : (pullback_Mediate.j2 kj46 t122 t126 (!t127)) = some (r1, r2, r3) := by rw [if_pos rfl] at H; exact H
        clear H
        have H := H1
        clear H1
        have H' := Aside0.mk H
        clear H
        go_wp2
        go_meet
        case rel => exact ⟨_, (!t127), rS, H', ⟨by have := HJ5.out; have := HJ46.out; first | omega | exact Nat.le_refl _⟩, ⟨by (with_reducible repeat (first | apply rA | apply rN | apply rD)); exact Kd.R_mono Q16.out (fun _ hk => ⟨hk.2, hk.1.2⟩)⟩, ⟨by (with_reducible repeat (first | apply rA | apply rN | apply rD)); exact Kd.R_mono Q49.out (fun _ hk => ⟨hk.2, hk.1.2⟩)⟩, ⟨pR Q0h⟩, ⟨pR Q0i⟩, ⟨by (with_reducible repeat (first | apply rA | apply rN | apply rD)); exact Kd.R_mono Q0j.out (fun _ hk => ⟨hk.1.2, hk.2⟩)⟩, ⟨pR Q0n⟩, ⟨pB Q00⟩, ⟨pB Q03⟩, ⟨pB Q04⟩, ⟨pB Q06⟩, ⟨pB Q05⟩, ⟨pB Q01⟩, ⟨pH HB⟩⟩
       ·replace c90 := Bool.eq_false_iff.mpr c90
        subst c90
        have H1 : (pullback_Mediate.j2 kj46 t122 t126 true) = some (r1, r2, r3) := by rw [if_neg (show ¬ (false = true) by decide)] at H; exact H
        clear H
        have H := H1
        clear H1
        have H' := Aside0.mk H
        clear H
        go_wp2
        go_meet
        case rel => exact ⟨_, (true), rS, H', ⟨by have := HJ5.out; have := HJ46.out; first | omega | exact Nat.le_refl _⟩, ⟨by (with_reducible repeat (first | apply rA | apply rN | apply rD)); exact Kd.R_mono Q16.out (fun _ hk => ⟨hk.2, hk.1.2⟩)⟩, ⟨by (with_reducible repeat (first | apply rA | apply rN | apply rD)); exact Kd.R_mono Q49.out (fun _ hk => ⟨hk.2, hk.1.2⟩)⟩, ⟨pR Q0h⟩, ⟨pR Q0i⟩, ⟨by (with_reducible repeat (first | apply rA | apply rN | apply rD)); exact Kd.R_mono Q0j.out (fun _ hk => ⟨hk.1.2, hk.2⟩)⟩, ⟨pR Q0n⟩, ⟨pB Q00⟩, ⟨pB Q03⟩, ⟨pB Q04⟩, ⟨pB Q06⟩, ⟨pB Q05⟩, ⟨pB Q01⟩, ⟨pH HB⟩⟩
      case rest =>
       clear HC69
       try clear c1; try clear c2; try clear p2; try clear c3; try clear c4; try clear c5; try clear c6; try clear c7; try clear c8; try clear c9; try clear c12; try clear c13; try clear c14; try clear c15; try clear c20; try clear c21; try clear c22; try clear c23; try clear c24; try clear c29; try clear c29b0; try clear c29b1; try clear c31; try clear c32; try clear c33; try clear c34; try clear c35; try clear c37; try clear c38; try clear c39; try clear c40; try clear c41; try clear c42; try clear c43; try clear c44; try clear c48; try clear c48b0; try clear c48b1; try clear c50; try clear c51; try clear c52; try clear c53; try clear c54; try clear c56; try clear c57; try clear c58; try clear c59; try clear c61; try clear c62; try clear c63; try clear c66; try clear c66b0; try clear c66b1; try clear c70; try clear c71; try clear c72; try clear c73; try clear c74; try clear c76; try clear c77; try clear c78; try clear c79; try clear c81; try clear c82; try clear c83; try clear c90; try clear Q1s; try clear Q1t; try clear Q1u; try clear Q1v; try clear Q1w; try clear Q1x; try clear Q1y; try clear Q1z; try clear Q20; try clear Q21; try clear Q2f; try clear Q2g; try clear Q2h; try clear Q2i; try clear Q2n; try clear Q2o; try clear Q2r; try clear Q2s; try clear Q2t; try clear Q2u; try clear Q2v; try clear Q2w; try clear Q2x; try clear Q2y; try clear Q2z; try clear Q30; try clear Q3b; try clear Q3c; try clear Q3h; try clear Q3i; try clear Q3l; try clear Q3m; try clear Q3n; try clear Q3o; try clear Q3p; try clear Q3q; try clear Q3r; try clear Q3s; try clear Q3t; try clear Q3u; try clear Q45; try clear Q46; try clear Q4g; try clear Q4h; try clear Q4i; try clear Q4j; try clear Q4o; try clear Q4p; try clear Q4s; try clear Q4t; try clear Q4w; try clear Q4x; try clear Q4y; try clear Q4z; try clear Q54; try clear Q55; try clear Q58; try clear Q59; try clear Q22; try clear Q23; try clear Q24; try clear Q25; try clear Q26; try clear Q27; try clear Q28; try clear Q29; try clear Q2a; try clear Q2b; try clear Q2j; try clear Q2k; try clear Q2l; try clear Q2m; try clear Q2p; try clear Q2q; try clear Q31; try clear Q32; try clear Q33; try clear Q34; try clear Q35; try clear Q36; try clear Q37; try clear Q38; try clear Q39; try clear Q3a; try clear Q3d; try clear Q3e; try clear Q3j; try clear Q3k; try clear Q3v; try clear Q3w; try clear Q3x; try clear Q3y; try clear Q3z; try clear Q40; try clear Q41; try clear Q42; try clear Q43; try clear Q44; try clear Q47; try clear Q48; try clear Q4k; try clear Q4l; try clear Q4m; try clear Q4n; try clear Q4q; try clear Q4r; try clear Q4u; try clear Q4v; try clear Q50; try clear Q51; try clear Q52; try clear Q53; try clear Q56; try clear Q57; try clear Q5a; try clear Q5b; try clear p2
       obtain ⟨kq, x64_68, rfl, HA, HJ68, Q4a, Q4b, Q0h, Q0i, Q0j, Q0n, Q00, Q03, Q04, Q06, Q05, Q01, HB⟩ := hcut
       cases kq with
       | zero => exact absurd HA.out (by simp [pullback_Mediate.j2])
       | succ kj68 =>
        have H := HA.out
        clear HA
        simp only [pullback_Mediate.j2] at H
        by_cases c91 : x64_68 = true
        ·subst c91
         have H1 : (some (([] : List Int), ([] : List Int), 11)) = some (r1, r2, r3) := by rw [if_pos rfl] at H; exact H
         clear H
         have H := H1
         clear H1
         simp only [Option.some.injEq, Prod.mk.injEq] at H
         obtain ⟨rfl, rfl, rfl⟩ := H
         have Q82 := Q0y.out
         have Q83 := Q0x.out
         have Q84 := Q10.out
         have Q85 := Q0z.out
         have Q86 := Q12.out
         have Q87 := Q11.out
         have Q88 := Q14.out
         have Q89 := Q13.out
         have Q8a := Q0k.out
         have Q8b := Q15.out
         have Q8c : wc.cell? ⟨Q0e, 0, none⟩ = some (.slice none 0 0) := (blk_cell Q05.out 0).trans rfl
         have Q8d : wc.cell? ⟨Q0e, 1, none⟩ = some (.slice none 0 0) := (blk_cell Q05.out 1).trans rfl
         have Q8e := blk_frozen Q05.out 0
         have Q8f := blk_frozen Q05.out 1
         go_wp2
         refine bodyPost_ret (results_ct rfl _ _ Q0e 27 #[.slice none 0 0, .slice none 0 0] (0, 0) _ rfl (by (with_reducible repeat (first | refine bN ?_ _ | refine bD ?_ | refine bA ?_ _)); refine blk_put (cs := #[.slice none 0 0, .slice none 0 0]) ?_ 1 _ rfl; (with_reducible repeat (first | refine bN ?_ _ | refine bD ?_ | refine bA ?_ _)); refine blk_put (cs := #[.slice none 0 0, .slice none 0 0]) ?_ 0 _ rfl; (with_reducible repeat (first | refine bN ?_ _ | refine bD ?_ | refine bA ?_ _)); exact Q05.out) Try.underlying27 rfl (by kernel_rfl)) rfl ?_
         exact ⟨_, _, by first | rfl | (simp [errW_none, errW_some] <;> rfl) | (simp [*, errW_none, errW_some] <;> rfl), by first | exact Kd.R_nil _ _ _ _ _ | exact Kd.N_nil _ _ _ _ _ | exact Kd.V_nil _ _ _ _ _ | exact Kd.Q_nil _ _ _ _ _ | exact Kd.S_nil _ _ _ _ _, by first | exact Kd.R_nil _ _ _ _ _ | exact Kd.N_nil _ _ _ _ _ | exact Kd.V_nil _ _ _ _ _ | exact Kd.Q_nil _ _ _ _ _ | exact Kd.S_nil _ _ _ _ _, by repeat (first | (with_reducible first | exact HB.out | apply wA | apply wN | apply wD | refine below_set ?_ Q1f.out | refine below_set ?_ Q1g.out | refine below_set ?_ Q1j.out | refine below_set ?_ Q1m.out | refine below_set ?_ Q1r.out | refine below_set ?_ Q2c.out) | exact HB.out)⟩
        ·replace c91 := Bool.eq_false_iff.mpr c91
         subst c91
         have H1 : (some (t122, t126, 0)) = some (r1, r2, r3) := by rw [if_neg (show ¬ (false = true) by decide)] at H; exact H
         clear H
         have H := H1
         clear H1
         simp only [Option.some.injEq, Prod.mk.injEq] at H
         obtain ⟨rfl, rfl, rfl⟩ := H
         obtain ⟨Q3f, Q3g, Q5c⟩ := Kd.R_slice Q4b.out
         subst Q5c
         obtain ⟨Q1d, Q1e, Q5d⟩ := Kd.R_slice Q4a.out
         subst Q5d
         have Q8g := Q0y.out
         have Q8h := Q0x.out
         have Q8i := Q10.out
         have Q8j := Q0z.out
         have Q8k := Q12.out
         have Q8l := Q11.out
         have Q8m := Q14.out
         have Q8n := Q13.out
         have Q8o := Q0k.out
         have Q8p := Q15.out
         have Q8q : wc.cell? ⟨Q0e, 0, none⟩ = some (.slice none 0 0) := (blk_cell Q05.out 0).trans rfl
         have Q8r : wc.cell? ⟨Q0e, 1, none⟩ = some (.slice none 0 0) := (blk_cell Q05.out 1).trans rfl
         have Q8s := blk_frozen Q05.out 0
         have Q8t := blk_frozen Q05.out 1
         go_wp2
         refine bodyPost_ret (results_ct rfl _ _ Q0e 27 #[.slice Q1d t122.length Q1e, .slice Q3f t126.length Q3g] (0, 0) _ rfl (by (with_reducible repeat (first | refine bN ?_ _ | refine bD ?_ | refine bA ?_ _)); refine blk_put (cs := #[.slice Q1d t122.length Q1e, .slice none 0 0]) ?_ 1 _ rfl; (with_reducible repeat (first | refine bN ?_ _ | refine bD ?_ | refine bA ?_ _)); refine blk_put (cs := #[.slice none 0 0, .slice none 0 0]) ?_ 0 _ rfl; (with_reducible repeat (first | refine bN ?_ _ | refine bD ?_ | refine bA ?_ _)); exact Q05.out) Try.underlying27 rfl (by kernel_rfl)) rfl ?_
         exact ⟨_, _, by first | rfl | (simp [errW_none, errW_some] <;> rfl) | (simp [*, errW_none, errW_some] <;> rfl), by (with_reducible repeat (first | apply rA | apply rN | apply rD)); exact Kd.R_mono (Kd.R_far (p := ⟨Q0e, 1, none⟩) (Kd.R_far (p := ⟨Q0e, 0, none⟩) (Kd.R_types Q4a.out Q05.out (by decide)) (fun _ hk => hk.2) (.slice Q1d t122.length Q1e)) (fun _ hk => hk.2) (.slice Q3f t126.length Q3g)) (fun _ hk => hk.1.1), by (with_reducible repeat (first | apply rA | apply rN | apply rD)); exact Kd.R_mono (Kd.R_far (p := ⟨Q0e, 1, none⟩) (Kd.R_far (p := ⟨Q0e, 0, none⟩) (Kd.R_types Q4b.out Q05.out (by decide)) (fun _ hk => hk.2) (.slice Q1d t122.length Q1e)) (fun _ hk => hk.2) (.slice Q3f t126.length Q3g)) (fun _ hk => hk.1.1), by repeat (first | (with_reducible first | exact HB.out | apply wA | apply wN | apply wD | refine below_set ?_ Q1f.out | refine below_set ?_ Q1g.out | refine below_set ?_ Q1j.out | refine below_set ?_ Q1m.out | refine below_set ?_ Q1r.out | refine below_set ?_ Q2c.out) | exact HB.out)⟩
     ·rw [if_neg c66] at H
      have c66b0 : (x11_46 == 0) = false := beq_eq_false_iff_ne.mpr c66
      have c66b1 : (x11_46 != 0) = true := bne_iff_ne.mpr c66
      simp only [Option.some.injEq, Prod.mk.injEq] at H
      obtain ⟨rfl, rfl, rfl⟩ := H
      have Q8u := Q0y.out
      have Q8v := Q0x.out
      have Q8w := Q10.out
      have Q8x := Q0z.out
      have Q8y := Q12.out
      have Q8z := Q11.out
      have Q90 := Q14.out
      have Q91 := Q13.out
      have Q92 := Q0k.out
      have Q93 := Q15.out
      have Q94 : wc.cell? ⟨Q0e, 0, none⟩ = some (.slice none 0 0) := (blk_cell Q05.out 0).trans rfl
      have Q95 : wc.cell? ⟨Q0e, 1, none⟩ = some (.slice none 0 0) := (blk_cell Q05.out 1).trans rfl
      have Q96 := blk_frozen Q05.out 0
      have Q97 := blk_frozen Q05.out 1
      go_wp2
      refine bodyPost_ret (results_ct rfl _ _ Q0e 27 #[.slice none 0 0, .slice none 0 0] (0, 0) _ rfl (by (with_reducible repeat (first | refine bN ?_ _ | refine bD ?_ | refine bA ?_ _)); refine blk_put (cs := #[.slice none 0 0, .slice none 0 0]) ?_ 1 _ rfl; (with_reducible repeat (first | refine bN ?_ _ | refine bD ?_ | refine bA ?_ _)); refine blk_put (cs := #[.slice none 0 0, .slice none 0 0]) ?_ 0 _ rfl; (with_reducible repeat (first | refine bN ?_ _ | refine bD ?_ | refine bA ?_ _)); exact Q05.out) Try.underlying27 rfl (by kernel_rfl)) rfl ?_
      exact ⟨_, _, by first | rfl | (simp [errW_none, errW_some] <;> rfl) | (simp [*, errW_none, errW_some] <;> rfl), by first | exact Kd.R_nil _ _ _ _ _ | exact Kd.N_nil _ _ _ _ _ | exact Kd.V_nil _ _ _ _ _ | exact Kd.Q_nil _ _ _ _ _ | exact Kd.S_nil _ _ _ _ _, by first | exact Kd.R_nil _ _ _ _ _ | exact Kd.N_nil _ _ _ _ _ | exact Kd.V_nil _ _ _ _ _ | exact Kd.Q_nil _ _ _ _ _ | exact Kd.S_nil _ _ _ _ _, by repeat (first | (with_reducible first | exact HB.out | apply wA | apply wN | apply wD | refine below_set ?_ Q1f.out | refine below_set ?_ Q1g.out | refine below_set ?_ Q1j.out | refine below_set ?_ Q1m.out | refine below_set ?_ Q1r.out | refine below_set ?_ Q2c.out) | exact HB.out)⟩
end Go.Proofs.Ytillofiphkmjjaa.X

namespace Go.Proofs.Ytillofiphkmjjaa.X
open Go.RowKit Go.Proofs.YtillofiphkmjjaaW.PrintWords Go.Proofs.YtillofiphkmjjaaW.PrintLast Go.Proofs.YtillofiphkmjjaaW.PrintMore
open Go.Proofs.YtillofiphkmjjaaW.PrintWords renaming blk_drewN → bN, blk_drew → bD, blk_alloc → bA, below_alloc → wA, pw_below_drewN → wN, below_drew1 → wD, blk_below → bB, below_step → wS, blk_at → bT, blk_grown → bG
open Go.Proofs.YtillofiphkmjjaaW.PrintWords.Kd renaming R_alloc → rA, R_drewN → rN, R_drew → rD, R_below → rB, R_grown → rG, C_below → cB, C_alloc → cA, C_drewN → cN, C_drew → cD
attribute [local go_sem] max2_int min2_int max_two min_two max_three min_three max_four min_four
set_option linter.unusedVariables false
set_option linter.unusedSimpArgs false
/-! ### pullback_sides: function 51 -/
def pullback_sides.l0 : Nat → List Int → List Int → List (S79) → Int → Int → Option (List Int × List Int)
 | 0, _, _, _, _, _ => none
 | k + 1, x4, x5, x8, x9, x10 => if x10 < x9 then (if 0 ≤ x10 then (if x10 < (x8.length : Int) then ((some (([(rd_T79 x8 x10).f0] : List Int) : List Int)).bind fun y103 => (if x4.length + y103.length < 17592186044416 then ((some (([(rd_T79 x8 x10).f1] : List Int) : List Int)).bind fun y109 => (if x5.length + y109.length < 17592186044416 then (pullback_sides.l0 k (x4 ++ y103) (x5 ++ y109) x8 x9 (wrap64 (x10 + 1))) else (none))) else (none))) else (none)) else (none)) else (some (x4, x5))
def pullback_sides.f (k : Nat) (l0 : List (S79)) : Option (List Int × List Int) := pullback_sides.l0 k ([] : List Int) ([] : List Int) l0 (l0.length : Int) 0
theorem pullback_sides.mono_l : ∀ k, (∀ y0 y1 y2 y3 y4, LeO (pullback_sides.l0 k y0 y1 y2 y3 y4) (pullback_sides.l0 (k + 1) y0 y1 y2 y3 y4))
 | 0 => fun _ _ _ _ _ r h => by simp [pullback_sides.l0] at h
 | k + 1 => by
  have ih0 := pullback_sides.mono_l k
  ·intro y0 y1 y2 y3 y4
   unfold pullback_sides.l0
   repeat' first
   | (with_reducible exact ih0 _ _ _ _ _)
   | (with_reducible exact LeO.refl _)
   | (with_reducible exact LeO.none _)
   | (with_reducible refine LeO.ite ?_ ?_)
   | (with_reducible refine LeO.bind ?_ (fun _ => ?_))
   | exact ih0 _ _ _ _ _
   | exact LeO.none _
   | refine LeO.ite ?_ ?_
   | refine LeO.bind ?_ (fun _ => ?_)
theorem pullback_sides.mono : ∀ a0 k, LeO (pullback_sides.f k a0) (pullback_sides.f (k + 1) a0) := by
 intro a0 k
 have ih0 := pullback_sides.mono_l k
 unfold pullback_sides.f
 repeat' first
   | (with_reducible exact ih0 _ _ _ _ _)
   | (with_reducible exact LeO.refl _)
   | (with_reducible exact LeO.none _)
   | (with_reducible refine LeO.ite ?_ ?_)
   | (with_reducible refine LeO.bind ?_ (fun _ => ?_))
   | exact ih0 _ _ _ _ _
   | exact LeO.none _
   | refine LeO.ite ?_ ?_
   | refine LeO.bind ?_ (fun _ => ?_)
def pullback_sides.T5 : Bool × List (List Nat × List Nat) := (true, [([], []), ([], []), ([1], [1]), ([2], [2]), ([0, 3], [0, 3]), ([], []), ([], []), ([6], [6]), ([7], [7]), ([5, 8, 4], [5, 8]), ([4, 9, 0, 1, 2, 3, 4], [0, 4]), ([9, 10, 0, 1, 2, 3, 4, 5, 6, 7, 8, 9, 10], [5, 9])])
def pullback_sides.B5 : List Nat := [0, 0, 2, 6, 15, 0, 0, 64, 192, 511, 1023, 2047]
theorem pullback_sides.tab5 : rtab .any (opsOf Try.f51 5) = pullback_sides.T5 := by kernel_rfl
theorem pullback_sides.bits5 : waitsOk pullback_sides.T5.2 pullback_sides.B5 = true := by kernel_rfl
set_option maxHeartbeats 8000000 in
set_option maxRecDepth 100000 in
theorem pullback_sides.calls (k : Nat) (A0 : Option Addr) (c0 : Nat) (l0 : List (S79)) (r1 : List Int) (r2 : List Int) (w : World) (hr0 : Kd.C k79 w A0 l0.length l0) (hc0 : l0.length ≤ c0) (h : pullback_sides.f k l0 = some (r1, r2)) :
  Calls Try.prog 51 #[.slice A0 l0.length c0] w fun e w' => ∃ v0_ v1_ : Value, e = .returned (.tuple #[v0_, v1_]) ∧ Kd.R (Kd.int .i64) 3 w' w.heap.size (fun k_ => some k_ ≠ (v1_ : Value).ownBlock) v0_ r1 ∧ Kd.R (Kd.int .i64) 3 w' w.heap.size (fun k_ => some k_ ≠ (v0_ : Value).ownBlock) v1_ r2 ∧ Below w.heap.size w w' := by
 have hu79 := Try.underlying79
 have HR0 := Aside0.mk hr0
 have HC0 := Aside0.mk hc0
 clear hr0 hc0
 have HB := Aside0.mk (Below.refl w.heap.size w)
 have H : (pullback_sides.l0 k ([] : List Int) ([] : List Int) l0 (l0.length : Int) 0) = some (r1, r2) := h
 clear h
 have H' := Aside0.mk H
 clear H
 go_enter Try.func51, Try.ntmps51
 go_wp2
 go_loopg [4, 5, 10] k (fun kq v4 v5 v10 w' => ∃ (x4_1 : List Int) (x5_1 : List Int) (x10_1 : Int), v10 = .int .i64 x10_1 ∧ Aside0 (pullback_sides.l0 kq x4_1 x5_1 l0 (l0.length : Int) x10_1 = some (r1, r2)) ∧ Aside0 (kq ≤ k) ∧ Aside0 (Kd.R (Kd.int .i64) 3 w' w.heap.size (fun k_ => some k_ ≠ (v5 : Value).ownBlock) v4 x4_1) ∧ Aside0 (Kd.R (Kd.int .i64) 3 w' w.heap.size (fun k_ => some k_ ≠ (v4 : Value).ownBlock) v5 x5_1) ∧ Aside0 (Below w.heap.size w w'))
 case atStart => exact ⟨(([] : List Int)), (([] : List Int)), (0), rS, H', ⟨Nat.le_refl _⟩, ⟨by first | exact Kd.R_nil _ _ _ _ _ | exact Kd.N_nil _ _ _ _ _ | exact Kd.V_nil _ _ _ _ _ | exact Kd.Q_nil _ _ _ _ _ | exact Kd.S_nil _ _ _ _ _⟩, ⟨by first | exact Kd.R_nil _ _ _ _ _ | exact Kd.N_nil _ _ _ _ _ | exact Kd.V_nil _ _ _ _ _ | exact Kd.Q_nil _ _ _ _ _ | exact Kd.S_nil _ _ _ _ _⟩, ⟨pH HB⟩⟩
 case round =>
  clear H'
  obtain ⟨x4_1, x5_1, x10_1, rfl, HA, HK1, Q02, Q01, HB⟩ := hrel
  cases gk with
  | zero => exact absurd HA.out (by simp [pullback_sides.l0])
  | succ k1 =>
   have H := HA.out
   clear HA
   simp only [pullback_sides.l0] at H
   by_cases c2 : x10_1 < (l0.length : Int)
   ·rw [if_pos c2] at H
    have c2b0 : decide (x10_1 < (l0.length : Int)) = true := decide_eq_true c2
    clear c2
    by_cases c3 : 0 ≤ x10_1
    ·rw [if_pos c3] at H
     have c3b0 : decide (0 ≤ x10_1) = true := decide_eq_true c3
     clear c3
     by_cases c4 : x10_1 < (l0.length : Int)
     ·rw [if_pos c4] at H
      have c4b0 : decide (x10_1 < (l0.length : Int)) = true := decide_eq_true c4
      clear c4
      obtain ⟨y103, hy103⟩ : ∃ y_ : List Int, y_ = (([(rd_T79 l0 x10_1).f0] : List Int)) := ⟨_, rfl⟩
      replace H : (if x4_1.length + y103.length < 17592186044416 then ((some (([(rd_T79 l0 x10_1).f1] : List Int) : List Int)).bind fun y109 => (if x5_1.length + y109.length < 17592186044416 then (pullback_sides.l0 k1 (x4_1 ++ y103) (x5_1 ++ y109) l0 (l0.length : Int) (wrap64 (x10_1 + 1))) else (none))) else (none)) = some (r1, r2) := by first | (rw [hy103]; with_reducible exact H) | (have H2_ := (Option.bind_some _ _).symm.trans H; rw [hy103]; with_reducible exact H2_) | (have H2_ := (Option.bind_some _ _).symm.trans H; with_reducible exact H2_) | with_reducible exact H | (rw [hy103]; exact H) | exact H
      have Ny103 := Aside0.mk hy103
      clear hy103
      by_cases c5 : x4_1.length + y103.length < 17592186044416
      ·rw [if_pos c5] at H
       have LMc5 := Aside0.mk c5
       clear c5
       obtain ⟨y106, hy106⟩ : ∃ y_ : List Int, y_ = (x4_1 ++ y103) := ⟨_, rfl⟩
       replace H : ((some (([(rd_T79 l0 x10_1).f1] : List Int) : List Int)).bind fun y109 => (if x5_1.length + y109.length < 17592186044416 then (pullback_sides.l0 k1 y106 (x5_1 ++ y109) l0 (l0.length : Int) (wrap64 (x10_1 + 1))) else (none))) = some (r1, r2) := by first | (rw [hy106]; with_reducible exact H) | (have H2_ := (Option.bind_some _ _).symm.trans H; rw [hy106]; with_reducible exact H2_) | (have H2_ := (Option.bind_some _ _).symm.trans H; with_reducible exact H2_) | with_reducible exact H | (rw [hy106]; exact H) | exact H
       have Ny106 := Aside0.mk hy106
       clear hy106
       obtain ⟨y109, hy109⟩ : ∃ y_ : List Int, y_ = (([(rd_T79 l0 x10_1).f1] : List Int)) := ⟨_, rfl⟩
       replace H : (if x5_1.length + y109.length < 17592186044416 then (pullback_sides.l0 k1 y106 (x5_1 ++ y109) l0 (l0.length : Int) (wrap64 (x10_1 + 1))) else (none)) = some (r1, r2) := by first | (rw [hy109]; with_reducible exact H) | (have H2_ := (Option.bind_some _ _).symm.trans H; rw [hy109]; with_reducible exact H2_) | (have H2_ := (Option.bind_some _ _).symm.trans H; with_reducible exact H2_) | with_reducible exact H | (rw [hy109]; exact H) | exact H
       have Ny109 := Aside0.mk hy109
       clear hy109
       by_cases c6 : x5_1.length + y109.length < 17592186044416
       ·rw [if_pos c6] at H
        have LMc6 := Aside0.mk c6
        clear c6
        obtain ⟨y112, hy112⟩ : ∃ y_ : List Int, y_ = (x5_1 ++ y109) := ⟨_, rfl⟩
        replace H : (pullback_sides.l0 k1 y106 y112 l0 (l0.length : Int) (wrap64 (x10_1 + 1))) = some (r1, r2) := by first | (rw [hy112]; with_reducible exact H) | (have H2_ := (Option.bind_some _ _).symm.trans H; rw [hy112]; with_reducible exact H2_) | (have H2_ := (Option.bind_some _ _).symm.trans H; with_reducible exact H2_) | with_reducible exact H | (rw [hy112]; exact H) | exact H
        have Ny112 := Aside0.mk hy112
        clear hy112
        have H' := Aside0.mk H
        clear H
        have p101 : 0 ≤ (x10_1 : Int) := oT
        have q101 : x10_1 < (l0.length : Int) := oT
        obtain ⟨ad101, e101, hx101_0, hx101_1⟩ := at_T79 HR0.out x10_1 p101 q101
        cases e101
        replace hx101_0 := (HB.out.cell (World.block_lt_of_cell? w _ hx101_0)).trans hx101_0
        replace hx101_1 := (HB.out.cell (World.block_lt_of_cell? w _ hx101_1)).trans hx101_1
        replace p101 := eq_true p101
        replace q101 := eq_true q101
        try go_wp2_with (first | ((with_reducible refine gate_dst (N := 7) rfl ?_); refine box_event ?hg (N := 7) ?hd (cs := #[.int .i64 0, .int .i64 0]) (t := 79) ?hr ?_; (case hd => rfl); (case hg => rfl); (case hr => first | (go_simp; done) | (go_simp; rfl)); intro Q03 hg w7 hbox hb; replace Q02 := uR Q02 hb; replace Q01 := uR Q01 hb; have Q00 := Aside0.mk (hbox); have Q0k := Aside0.mk ((by rw [hg]; exact (below_size hB) : w.heap.size ≤ Q03)); have Q0l := Aside0.mk ((by rw [hg]; exact (below_size hB) : w.heap.size ≤ Q03)); replace HB := uH HB hb; clear hb hbox hg; have Q0m : w7.cell? ⟨Q03, 0, none⟩ = some (.int .i64 0) := (blk_cell Q00.out 0).trans rfl; have Q0n : w7.cell? ⟨Q03, 1, none⟩ = some (.int .i64 0) := (blk_cell Q00.out 1).trans rfl; have Q0o := blk_frozen Q00.out 0; have Q0p := blk_frozen Q00.out 1; obtain ⟨Ao9, co9, eo9⟩ := Kd.R_slice Q02.out; subst eo9; obtain ⟨Q06, Q07, Q0i⟩ := Kd.R_slice Q01.out; subst Q0i))
        have n0_ : Aside0 (Kd.R (Kd.int .i64) 3 ((w7.setCell ⟨Q03, 0, none⟩ (.int .i64 ((rd_T79 l0 x10_1).f0))).setCell ⟨Q03, 1, none⟩ (.int .i64 ((rd_T79 l0 x10_1).f1))) w.heap.size (fun k_ => some k_ ≠ (.slice Q06 x5_1.length Q07 : Value).ownBlock) (.slice Ao9 x4_1.length co9) x4_1) := ⟨by (with_reducible repeat (first | apply rA | apply rN | apply rD)); exact Kd.R_mono (Kd.R_far (p := ⟨Q03, 1, none⟩) (Kd.R_far (p := ⟨Q03, 0, none⟩) (Kd.R_types Q02.out Q00.out (by decide)) (fun _ hk => hk.2) (.int .i64 ((rd_T79 l0 x10_1).f0))) (fun _ hk => hk.2) (.int .i64 ((rd_T79 l0 x10_1).f1))) (fun _ hk => hk.1)⟩
        have n1_ : Aside0 (Kd.R (Kd.int .i64) 3 ((w7.setCell ⟨Q03, 0, none⟩ (.int .i64 ((rd_T79 l0 x10_1).f0))).setCell ⟨Q03, 1, none⟩ (.int .i64 ((rd_T79 l0 x10_1).f1))) w.heap.size (fun k_ => some k_ ≠ (.slice Ao9 x4_1.length co9 : Value).ownBlock) (.slice Q06 x5_1.length Q07) x5_1) := ⟨by (with_reducible repeat (first | apply rA | apply rN | apply rD)); exact Kd.R_mono (Kd.R_far (p := ⟨Q03, 1, none⟩) (Kd.R_far (p := ⟨Q03, 0, none⟩) (Kd.R_types Q01.out Q00.out (by decide)) (fun _ hk => hk.2) (.int .i64 ((rd_T79 l0 x10_1).f0))) (fun _ hk => hk.2) (.int .i64 ((rd_T79 l0 x10_1).f1))) (fun _ hk => hk.1)⟩
        have n2_ : Aside0 (((w7.setCell ⟨Q03, 0, none⟩ (.int .i64 ((rd_T79 l0 x10_1).f0))).setCell ⟨Q03, 1, none⟩ (.int .i64 ((rd_T79 l0 x10_1).f1))).heap[Q03]? = some (.cells #[.int .i64 ((rd_T79 l0 x10_1).f0), .int .i64 ((rd_T79 l0 x10_1).f1)] 79 (0, 0))) := ⟨by (with_reducible repeat (first | refine bN ?_ _ | refine bD ?_ | refine bA ?_ _)); refine blk_put (cs := #[.int .i64 ((rd_T79 l0 x10_1).f0), .int .i64 0]) ?_ 1 _ rfl; (with_reducible repeat (first | refine bN ?_ _ | refine bD ?_ | refine bA ?_ _)); refine blk_put (cs := #[.int .i64 0, .int .i64 0]) ?_ 0 _ rfl; (with_reducible repeat (first | refine bN ?_ _ | refine bD ?_ | refine bA ?_ _)); exact Q00.out⟩
        have n3_ : Aside0 (Below w.heap.size w ((w7.setCell ⟨Q03, 0, none⟩ (.int .i64 ((rd_T79 l0 x10_1).f0))).setCell ⟨Q03, 1, none⟩ (.int .i64 ((rd_T79 l0 x10_1).f1)))) := ⟨pH HB⟩
        (try clear Q02)
        (try clear Q01)
        (try clear Q00)
        (try clear HB)
        generalize ((w7.setCell ⟨Q03, 0, none⟩ (.int .i64 ((rd_T79 l0 x10_1).f0))).setCell ⟨Q03, 1, none⟩ (.int .i64 ((rd_T79 l0 x10_1).f1))) = w11 at n0_ n1_ n2_ n3_ ⊢
        have Q02 := n0_
        have Q01 := n1_
        have Q00 := n2_
        have HB := n3_
        clear n0_ n1_ n2_ n3_
        replace Q02 := Aside0.mk (rD Q02.out)
        replace Q01 := Aside0.mk (rD Q01.out)
        replace Q00 := Aside0.mk (bD Q00.out)
        replace HB := Aside0.mk (wD HB.out)
        refine start_ (n := 12) (S := fun w' => w'.cell? ⟨Q03, 0, none⟩ = some (.int .i64 ((rd_T79 l0 x10_1).f0)) ∧ w'.cell? ⟨Q03, 1, none⟩ = some (.int .i64 ((rd_T79 l0 x10_1).f1))) (ds := []) #[false, false, false, false, false, false, false, false, false, false, false, false] (by kernel_rfl) rfl rfl ⟨(blk_cell Q00.out 0).trans rfl, (blk_cell Q00.out 1).trans rfl⟩ (fun hHeld => ?_); refine with_tabW pullback_sides.tab5 pullback_sides.bits5 (fun HT_ HW_ => ?_)
        generalize w11.drew = w12 at Q02 Q01 Q00 HB hHeld ⊢
        refine pure_ (i := 0) (N := some 14) (v := ?_) (a' := ?_) #[true, false, false, false, false, false, false, false, false, false, false, false] rfl rfl (any_of HT_.out (by kernel_rfl)) (fun _ _ _ h => h) (Or.inl ⟨by rfl, ?_⟩) ?_ ?_
        rotate_left
        ·intro w'
         go_simp
         with_reducible rfl
        rotate_left
        ·simp only [Act.put, List.setIfInBounds_toArray, List.set_cons_zero, List.set_cons_succ, i64_w, i32_w]
         rfl
        refine pure_ (i := 1) (N := some 15) (v := ?_) (a' := ?_) #[true, true, false, false, false, false, false, false, false, false, false, false] rfl rfl (any_of HT_.out (by kernel_rfl)) (fun _ _ _ h => h) (Or.inl ⟨by rfl, ?_⟩) ?_ ?_
        rotate_left
        ·intro w'
         go_simp
         with_reducible rfl
        rotate_left
        ·simp only [Act.put, List.setIfInBounds_toArray, List.set_cons_zero, List.set_cons_succ, i64_w, i32_w]
         rfl
        refine pure_ (i := 5) (N := some 19) (v := ?_) (a' := ?_) #[true, true, false, false, false, true, false, false, false, false, false, false] rfl rfl (any_of HT_.out (by kernel_rfl)) (fun _ _ _ h => h) (Or.inl ⟨by rfl, ?_⟩) ?_ ?_
        rotate_left
        ·intro w'
         go_simp
         with_reducible rfl
        rotate_left
        ·simp only [Act.put, List.setIfInBounds_toArray, List.set_cons_zero, List.set_cons_succ, i64_w, i32_w]
         rfl
        refine pure_ (i := 6) (N := some 20) (v := ?_) (a' := ?_) #[true, true, false, false, false, true, true, false, false, false, false, false] rfl rfl (any_of HT_.out (by kernel_rfl)) (fun _ _ _ h => h) (Or.inl ⟨by rfl, ?_⟩) ?_ ?_
        rotate_left
        ·intro w'
         go_simp
         with_reducible rfl
        rotate_left
        ·simp only [Act.put, List.setIfInBounds_toArray, List.set_cons_zero, List.set_cons_succ, i64_w, i32_w]
         rfl
        refine take_ (i := 2) (N := some 16) (v := ?_) (a' := ?_) #[true, true, true, false, false, true, true, false, false, false, false, false] rfl rfl (take_ofW HT_.out HW_.out (by kernel_rfl)) (fun _ _ _ h => h) (Or.inl ⟨by rfl, ?_⟩) hHeld ?_ ?_
        rotate_left
        ·rintro w' ⟨s0, s1⟩
         go_simp
         with_reducible rfl
        rotate_left
        ·simp only [Act.put, List.setIfInBounds_toArray, List.set_cons_zero, List.set_cons_succ, i64_w, i32_w]
         rfl
        refine take_ (i := 7) (N := some 21) (v := ?_) (a' := ?_) #[true, true, true, false, false, true, true, true, false, false, false, false] rfl rfl (take_ofW HT_.out HW_.out (by kernel_rfl)) (fun _ _ _ h => h) (Or.inl ⟨by rfl, ?_⟩) hHeld ?_ ?_
        rotate_left
        ·rintro w' ⟨s0, s1⟩
         go_simp
         with_reducible rfl
        rotate_left
        ·simp only [Act.put, List.setIfInBounds_toArray, List.set_cons_zero, List.set_cons_succ, i64_w, i32_w]
         rfl
        refine join_ (σ := Value × Value × Value) 3 #[true, true, true, true, true, true, true, true, true, false, false, false] (fun s_ => [(17, s_.1), (18, s_.2.1), (22, s_.2.2)]) (fun s_ w' => (w'.cell? ⟨Q03, 0, none⟩ = some (.int .i64 ((rd_T79 l0 x10_1).f0)) ∧ w'.cell? ⟨Q03, 1, none⟩ = some (.int .i64 ((rd_T79 l0 x10_1).f1))) ∧ (Kd.R (Kd.int .i64) 3 w' w.heap.size (fun k_ => some k_ ≠ (s_.2.1 : Value).ownBlock ∧ some k_ ≠ (s_.2.2 : Value).ownBlock ∧ some k_ ≠ (.slice Q06 x5_1.length Q07 : Value).ownBlock) s_.1 y103) ∧ (Kd.R (Kd.int .i64) 3 w' w.heap.size (fun k_ => some k_ ≠ (s_.1 : Value).ownBlock ∧ some k_ ≠ (s_.2.2 : Value).ownBlock ∧ some k_ ≠ (.slice Q06 x5_1.length Q07 : Value).ownBlock) s_.2.1 y106) ∧ (Kd.R (Kd.int .i64) 3 w' w.heap.size (fun k_ => some k_ ≠ (s_.1 : Value).ownBlock ∧ some k_ ≠ (s_.2.1 : Value).ownBlock ∧ some k_ ≠ (.slice Q06 x5_1.length Q07 : Value).ownBlock) s_.2.2 y109) ∧ (Kd.R (Kd.int .i64) 3 w' w.heap.size (fun k_ => some k_ ≠ (s_.1 : Value).ownBlock ∧ some k_ ≠ (s_.2.1 : Value).ownBlock ∧ some k_ ≠ (s_.2.2 : Value).ownBlock) (.slice Q06 x5_1.length Q07) x5_1) ∧ (w'.heap[Q03]? = some (.cells #[.int .i64 ((rd_T79 l0 x10_1).f0), .int .i64 ((rd_T79 l0 x10_1).f1)] 79 (0, 0))) ∧ (Below w.heap.size w w')) ?_ ?_
        rotate_left
        ·intro hCont
         refine two_ (i := 3) (j := 8) (Ni := some 17) (Nj := some 22) #[true, true, true, true, false, true, true, true, false, false, false, false] #[true, true, true, false, false, true, true, true, true, false, false, false] rfl rfl rfl rfl (two_of HT_.out (by kernel_rfl)) (by decide) (by decide) (fun K hK => ?_) (fun K hK => ?_)
         ·skip
          refine Kd.R_lit_step (Kd.int .i64) _ 3 ?hg (N := 17) ?hd (xs := ([(rd_T79 l0 x10_1).f0] : List Int)) (inner := [.int .i64 ((rd_T79 l0 x10_1).f0)]) (ok := fun _ => True) (okp := fun _ => True) ?hr ?hp (fun _ hk => hk) trivial (Below.refl _ _) (Nat.le_refl _) (by simp) ?_; (case hd => rfl); (case hg => rfl); (case hr => first | (go_simp; done) | (go_simp; rfl)); (case hp => exact (Reps.one (show Kd.M (Kd.int .i64) _ _ _ ((rd_T79 l0 x10_1).f0) [.int .i64 ((rd_T79 l0 x10_1).f0)] from rfl) (Reps.none _ _)))
          intro v104 w13 ho14 hb hg_ hnew_
          clear hg_ hnew_
          (first | rw [← Ny103.out] at ho14 | (simp only [Int.reduceToNat] at ho14; rw [← Ny103.out] at ho14))
          have Q04 := Aside0.mk (Kd.R_lower (Kd.R_new' (Kd.R_new' ho14 (Kd.R_lt (pR Q02))) (Kd.R_lt (pR Q01))) (below_size (pH HB)))
          replace Q02 := eR Q02 (Kd.R_base ho14) hb
          replace Q01 := eR Q01 (Kd.R_base ho14) hb
          replace Q00 := uB Q00 hb
          replace HB := uH HB hb
          clear hb ho14
          obtain ⟨Q0c, Q0d, Q0g⟩ := Kd.R_slice Q04.out
          (first | subst Q0g | (injection Q0g with f1_ f2_ f3_; have f4_ := f1_.symm; have f5_ := f3_.symm; clear f1_ f2_ f3_; subst f4_; subst f5_))
          refine hK.out _ _ ⟨(blk_cell Q00.out 0).trans rfl, (blk_cell Q00.out 1).trans rfl⟩ (fun hHeld => ?_)
          clear hK K
          refine norm_ (a' := ?_) ?_ ?_
          rotate_left
          ·show Act.put _ (some 17) _ = _
           simp only [Act.put, List.setIfInBounds_toArray, List.set_cons_zero, List.set_cons_succ, i64_w, i32_w]
           rfl
          refine two_ (i := 4) (j := 8) (Ni := some 18) (Nj := some 22) #[true, true, true, true, true, true, true, true, false, false, false, false] #[true, true, true, true, false, true, true, true, true, false, false, false] rfl rfl rfl rfl (two_of HT_.out (by kernel_rfl)) (by decide) (by decide) (fun K hK => ?_) (fun K hK => ?_)
          ·skip
           refine Kd.R_append_rows_step (Kd.int .i64) (w0 := w) w.heap.size (by rfl) (.tmp 14) (.tmp 17) 22 3 (.int .i64 0) 8 rfl Try.underlying22 info3 rfl (by decide) (by omega) (.slice Ao9 x4_1.length co9) x4_1 y103 _ _ _ (fun k_ => some k_ ≠ (.slice Q06 x5_1.length Q07 : Value).ownBlock ∧ some k_ ≠ (.slice Q0c y103.length Q0d : Value).ownBlock) (fun _ => False) rfl rfl ?aO ?aR (fun _ _ h => h) (fun _ h => h.elim) ?aF ?aB ?aS ?aL ?_
           (case aR => repeat (first | exact (Kd.R_reads' Q04.out).2.2 | (with_reducible refine cA ?_ _) | (with_reducible refine cN ?_ _) | (with_reducible refine cD ?_)))
           (case aB => exact (pH HB))
           (case aF => exact (fun k_ hk => ⟨Kd.fresh' (Kd.R_lt (pR Q01)) k_ hk, Kd.fresh' (Kd.R_lt (pR Q04)) k_ hk⟩))
           (case aO => exact (pR Q02))
           (case aS => exact (below_size (pH HB)))
           (case aL => have := LMc5.out; omega)
           intro v107 w15 ho hb hg hat
           rw [← Ny106.out] at ho
           replace Q01 := Aside0.mk (Kd.R_after (ok := (fun k_ => some k_ ≠ (.slice Q0c y103.length Q0d : Value).ownBlock)) (by (with_reducible repeat (first | apply rA | apply rN | apply rD)); exact Kd.R_mono Q01.out (fun _ hk => ⟨hk.2, hk.1⟩)) hg hat)
           replace Q00 := Aside0.mk (bG (g := Q03) (o := .cells #[.int .i64 ((rd_T79 l0 x10_1).f0), .int .i64 ((rd_T79 l0 x10_1).f1)] 79 (0, 0)) (pB Q00) hg (Kd.R_ne Q02.out Q00.out (by decide)))
           replace Q04 := Aside0.mk (Kd.R_after (ok := (fun k_ => some k_ ≠ (.slice Q06 x5_1.length Q07 : Value).ownBlock)) (by (with_reducible repeat (first | apply rA | apply rN | apply rD)); exact Kd.R_mono Q04.out (fun _ hk => ⟨hk.2, hk.1.2⟩)) hg hat)
           replace HB := Aside0.mk (hb)
           have Q08 := Aside0.mk (ho)
           clear Q02
           clear ho hb hg hat
           refine hK.out _ _ ⟨(blk_cell Q00.out 0).trans rfl, (blk_cell Q00.out 1).trans rfl⟩ (fun hHeld => ?_)
           clear hK K
           refine norm_ (a' := ?_) ?_ ?_
           rotate_left
           ·show Act.put _ (some 18) _ = _
            simp only [Act.put, List.setIfInBounds_toArray, List.set_cons_zero, List.set_cons_succ, i64_w, i32_w]
            rfl
           refine one_ (i := 8) (N := some 22) #[true, true, true, true, true, true, true, true, true, false, false, false] rfl rfl (one_of HT_.out (by kernel_rfl)) (by decide) (fun K hK => ?_)
           refine Kd.R_lit_step (Kd.int .i64) _ 3 ?hg (N := 22) ?hd (xs := ([(rd_T79 l0 x10_1).f1] : List Int)) (inner := [.int .i64 ((rd_T79 l0 x10_1).f1)]) (ok := fun _ => True) (okp := fun _ => True) ?hr ?hp (fun _ hk => hk) trivial (Below.refl _ _) (Nat.le_refl _) (by simp) ?_; (case hd => rfl); (case hg => rfl); (case hr => first | (go_simp; done) | (go_simp; rfl)); (case hp => exact (Reps.one (show Kd.M (Kd.int .i64) _ _ _ ((rd_T79 l0 x10_1).f1) [.int .i64 ((rd_T79 l0 x10_1).f1)] from rfl) (Reps.none _ _)))
           intro v110 w17 ho18 hb hg_ hnew_
           clear hg_ hnew_
           (first | rw [← Ny109.out] at ho18 | (simp only [Int.reduceToNat] at ho18; rw [← Ny109.out] at ho18))
           have Q05 := Aside0.mk (Kd.R_lower (Kd.R_new' (Kd.R_new' (Kd.R_new' ho18 (Kd.R_lt (pR Q01))) (Kd.R_lt (pR Q04))) (Kd.R_lt (pR Q08))) (below_size (pH HB)))
           replace Q01 := eR Q01 (Kd.R_base ho18) hb
           replace Q04 := eR Q04 (Kd.R_base ho18) hb
           replace Q08 := eR Q08 (Kd.R_base ho18) hb
           replace Q00 := uB Q00 hb
           replace HB := uH HB hb
           clear hb ho18
           refine hK.out _ _ ⟨(blk_cell Q00.out 0).trans rfl, (blk_cell Q00.out 1).trans rfl⟩ (fun hHeld => ?_)
           clear hK K
           refine norm_ (a' := ?_) ?_ ?_
           rotate_left
           ·show Act.put _ (some 22) _ = _
            simp only [Act.put, List.setIfInBounds_toArray, List.set_cons_zero, List.set_cons_succ, i64_w, i32_w]
            rfl
           exact norm_ (by simp only [putAll, Act.put, List.setIfInBounds_toArray, List.set_cons_zero, List.set_cons_succ]) (hCont (.slice Q0c y103.length Q0d, v107, v110) _ ⟨hHeld, (by (with_reducible repeat (first | apply rA | apply rN | apply rD)); exact Kd.R_mono Q04.out (fun _ hk => ⟨hk.1.2, ⟨hk.2, hk.1.1⟩⟩)), (by (with_reducible repeat (first | apply rA | apply rN | apply rD)); exact Kd.R_mono Q08.out (fun _ hk => ⟨hk.1.2, ⟨hk.2, hk.1.1⟩⟩)), (by (with_reducible repeat (first | apply rA | apply rN | apply rD)); exact Kd.R_mono Q05.out (fun _ hk => ⟨hk.1.2, ⟨hk.2, hk.1.1.2⟩⟩)), (by (with_reducible repeat (first | apply rA | apply rN | apply rD)); exact Kd.R_mono Q01.out (fun _ hk => ⟨hk.1.1, ⟨hk.1.2, hk.2⟩⟩)), (pB Q00), (pH HB)⟩)
          ·skip
           refine Kd.R_lit_step (Kd.int .i64) _ 3 ?hg (N := 22) ?hd (xs := ([(rd_T79 l0 x10_1).f1] : List Int)) (inner := [.int .i64 ((rd_T79 l0 x10_1).f1)]) (ok := fun _ => True) (okp := fun _ => True) ?hr ?hp (fun _ hk => hk) trivial (Below.refl _ _) (Nat.le_refl _) (by simp) ?_; (case hd => rfl); (case hg => rfl); (case hr => first | (go_simp; done) | (go_simp; rfl)); (case hp => exact (Reps.one (show Kd.M (Kd.int .i64) _ _ _ ((rd_T79 l0 x10_1).f1) [.int .i64 ((rd_T79 l0 x10_1).f1)] from rfl) (Reps.none _ _)))
           intro v110 w15 ho16 hb hg_ hnew_
           clear hg_ hnew_
           (first | rw [← Ny109.out] at ho16 | (simp only [Int.reduceToNat] at ho16; rw [← Ny109.out] at ho16))
           have Q05 := Aside0.mk (Kd.R_lower (Kd.R_new' (Kd.R_new' (Kd.R_new' ho16 (Kd.R_lt (pR Q02))) (Kd.R_lt (pR Q01))) (Kd.R_lt (pR Q04))) (below_size (pH HB)))
           replace Q02 := eR Q02 (Kd.R_base ho16) hb
           replace Q01 := eR Q01 (Kd.R_base ho16) hb
           replace Q04 := eR Q04 (Kd.R_base ho16) hb
           replace Q00 := uB Q00 hb
           replace HB := uH HB hb
           clear hb ho16
           obtain ⟨Q09, Q0a, Q0b⟩ := Kd.R_slice Q04.out
           (first | subst Q0b | (injection Q0b with f1_ f2_ f3_; have f4_ := f1_.symm; have f5_ := f3_.symm; clear f1_ f2_ f3_; subst f4_; subst f5_))
           refine hK.out _ _ ⟨(blk_cell Q00.out 0).trans rfl, (blk_cell Q00.out 1).trans rfl⟩ (fun hHeld => ?_)
           clear hK K
           refine norm_ (a' := ?_) ?_ ?_
           rotate_left
           ·show Act.put _ (some 22) _ = _
            simp only [Act.put, List.setIfInBounds_toArray, List.set_cons_zero, List.set_cons_succ, i64_w, i32_w]
            rfl
           refine one_ (i := 4) (N := some 18) #[true, true, true, true, true, true, true, true, true, false, false, false] rfl rfl (one_of HT_.out (by kernel_rfl)) (by decide) (fun K hK => ?_)
           refine Kd.R_append_rows_step (Kd.int .i64) (w0 := w) w.heap.size (by rfl) (.tmp 14) (.tmp 17) 22 3 (.int .i64 0) 8 rfl Try.underlying22 info3 rfl (by decide) (by omega) (.slice Ao9 x4_1.length co9) x4_1 y103 _ _ _ (fun k_ => some k_ ≠ (.slice Q06 x5_1.length Q07 : Value).ownBlock ∧ some k_ ≠ (.slice Q09 y103.length Q0a : Value).ownBlock ∧ some k_ ≠ (v110 : Value).ownBlock) (fun _ => False) rfl rfl ?aO ?aR (fun _ _ h => h) (fun _ h => h.elim) ?aF ?aB ?aS ?aL ?_
           (case aR => repeat (first | exact (Kd.R_reads' Q04.out).2.2 | (with_reducible refine cA ?_ _) | (with_reducible refine cN ?_ _) | (with_reducible refine cD ?_)))
           (case aB => exact (pH HB))
           (case aF => exact (fun k_ hk => ⟨Kd.fresh' (Kd.R_lt (pR Q01)) k_ hk, Kd.fresh' (Kd.R_lt (pR Q04)) k_ hk, Kd.fresh' (Kd.R_lt (pR Q05)) k_ hk⟩))
           (case aO => exact (by (with_reducible repeat (first | apply rA | apply rN | apply rD)); exact Kd.R_mono Q02.out (fun _ hk => ⟨hk.1.1, ⟨hk.1.2, hk.2⟩⟩)))
           (case aS => exact (below_size (pH HB)))
           (case aL => have := LMc5.out; omega)
           intro v107 w17 ho hb hg hat
           rw [← Ny106.out] at ho
           replace Q01 := Aside0.mk (Kd.R_after (ok := (fun k_ => some k_ ≠ (.slice Q09 y103.length Q0a : Value).ownBlock ∧ some k_ ≠ (v110 : Value).ownBlock)) (by (with_reducible repeat (first | apply rA | apply rN | apply rD)); exact Kd.R_mono Q01.out (fun _ hk => ⟨⟨hk.1.2, hk.2⟩, hk.1.1⟩)) hg hat)
           replace Q00 := Aside0.mk (bG (g := Q03) (o := .cells #[.int .i64 ((rd_T79 l0 x10_1).f0), .int .i64 ((rd_T79 l0 x10_1).f1)] 79 (0, 0)) (pB Q00) hg (Kd.R_ne Q02.out Q00.out (by decide)))
           replace Q04 := Aside0.mk (Kd.R_after (ok := (fun k_ => some k_ ≠ (.slice Q06 x5_1.length Q07 : Value).ownBlock ∧ some k_ ≠ (v110 : Value).ownBlock)) (by (with_reducible repeat (first | apply rA | apply rN | apply rD)); exact Kd.R_mono Q04.out (fun _ hk => ⟨⟨hk.1.2, hk.2⟩, hk.1.1.2⟩)) hg hat)
           replace Q05 := Aside0.mk (Kd.R_after (ok := (fun k_ => some k_ ≠ (.slice Q06 x5_1.length Q07 : Value).ownBlock ∧ some k_ ≠ (.slice Q09 y103.length Q0a : Value).ownBlock)) (by (with_reducible repeat (first | apply rA | apply rN | apply rD)); exact Kd.R_mono Q05.out (fun _ hk => ⟨⟨hk.1.2, hk.2⟩, hk.1.1.2⟩)) hg hat)
           replace HB := Aside0.mk (hb)
           have Q08 := Aside0.mk (ho)
           clear Q02
           clear ho hb hg hat
           refine hK.out _ _ ⟨(blk_cell Q00.out 0).trans rfl, (blk_cell Q00.out 1).trans rfl⟩ (fun hHeld => ?_)
           clear hK K
           refine norm_ (a' := ?_) ?_ ?_
           rotate_left
           ·show Act.put _ (some 18) _ = _
            simp only [Act.put, List.setIfInBounds_toArray, List.set_cons_zero, List.set_cons_succ, i64_w, i32_w]
            rfl
           exact norm_ (by simp only [putAll, Act.put, List.setIfInBounds_toArray, List.set_cons_zero, List.set_cons_succ]) (hCont (.slice Q09 y103.length Q0a, v107, v110) _ ⟨hHeld, (by (with_reducible repeat (first | apply rA | apply rN | apply rD)); exact Kd.R_mono Q04.out (fun _ hk => ⟨hk.2, ⟨hk.1.2, hk.1.1⟩⟩)), (by (with_reducible repeat (first | apply rA | apply rN | apply rD)); exact Kd.R_mono Q08.out (fun _ hk => ⟨hk.2.1, ⟨hk.2.2, hk.1⟩⟩)), (by (with_reducible repeat (first | apply rA | apply rN | apply rD)); exact Kd.R_mono Q05.out (fun _ hk => ⟨hk.1.2, ⟨hk.2, hk.1.1⟩⟩)), (by (with_reducible repeat (first | apply rA | apply rN | apply rD)); exact Kd.R_mono Q01.out (fun _ hk => ⟨hk.1.1, ⟨hk.2, hk.1.2⟩⟩)), (pB Q00), (pH HB)⟩)
         ·skip
          refine Kd.R_lit_step (Kd.int .i64) _ 3 ?hg (N := 22) ?hd (xs := ([(rd_T79 l0 x10_1).f1] : List Int)) (inner := [.int .i64 ((rd_T79 l0 x10_1).f1)]) (ok := fun _ => True) (okp := fun _ => True) ?hr ?hp (fun _ hk => hk) trivial (Below.refl _ _) (Nat.le_refl _) (by simp) ?_; (case hd => rfl); (case hg => rfl); (case hr => first | (go_simp; done) | (go_simp; rfl)); (case hp => exact (Reps.one (show Kd.M (Kd.int .i64) _ _ _ ((rd_T79 l0 x10_1).f1) [.int .i64 ((rd_T79 l0 x10_1).f1)] from rfl) (Reps.none _ _)))
          intro v110 w13 ho14 hb hg_ hnew_
          clear hg_ hnew_
          (first | rw [← Ny109.out] at ho14 | (simp only [Int.reduceToNat] at ho14; rw [← Ny109.out] at ho14))
          have Q05 := Aside0.mk (Kd.R_lower (Kd.R_new' (Kd.R_new' ho14 (Kd.R_lt (pR Q02))) (Kd.R_lt (pR Q01))) (below_size (pH HB)))
          replace Q02 := eR Q02 (Kd.R_base ho14) hb
          replace Q01 := eR Q01 (Kd.R_base ho14) hb
          replace Q00 := uB Q00 hb
          replace HB := uH HB hb
          clear hb ho14
          refine hK.out _ _ ⟨(blk_cell Q00.out 0).trans rfl, (blk_cell Q00.out 1).trans rfl⟩ (fun hHeld => ?_)
          clear hK K
          refine norm_ (a' := ?_) ?_ ?_
          rotate_left
          ·show Act.put _ (some 22) _ = _
           simp only [Act.put, List.setIfInBounds_toArray, List.set_cons_zero, List.set_cons_succ, i64_w, i32_w]
           rfl
          refine one_ (i := 3) (N := some 17) #[true, true, true, true, false, true, true, true, true, false, false, false] rfl rfl (one_of HT_.out (by kernel_rfl)) (by decide) (fun K hK => ?_)
          refine Kd.R_lit_step (Kd.int .i64) _ 3 ?hg (N := 17) ?hd (xs := ([(rd_T79 l0 x10_1).f0] : List Int)) (inner := [.int .i64 ((rd_T79 l0 x10_1).f0)]) (ok := fun _ => True) (okp := fun _ => True) ?hr ?hp (fun _ hk => hk) trivial (Below.refl _ _) (Nat.le_refl _) (by simp) ?_; (case hd => rfl); (case hg => rfl); (case hr => first | (go_simp; done) | (go_simp; rfl)); (case hp => exact (Reps.one (show Kd.M (Kd.int .i64) _ _ _ ((rd_T79 l0 x10_1).f0) [.int .i64 ((rd_T79 l0 x10_1).f0)] from rfl) (Reps.none _ _)))
          intro v104 w15 ho16 hb hg_ hnew_
          clear hg_ hnew_
          (first | rw [← Ny103.out] at ho16 | (simp only [Int.reduceToNat] at ho16; rw [← Ny103.out] at ho16))
          have Q04 := Aside0.mk (Kd.R_lower (Kd.R_new' (Kd.R_new' (Kd.R_new' ho16 (Kd.R_lt (pR Q02))) (Kd.R_lt (pR Q01))) (Kd.R_lt (pR Q05))) (below_size (pH HB)))
          replace Q02 := eR Q02 (Kd.R_base ho16) hb
          replace Q01 := eR Q01 (Kd.R_base ho16) hb
          replace Q05 := eR Q05 (Kd.R_base ho16) hb
          replace Q00 := uB Q00 hb
          replace HB := uH HB hb
          clear hb ho16
          obtain ⟨Q09, Q0a, Q0b⟩ := Kd.R_slice Q04.out
          (first | subst Q0b | (injection Q0b with f1_ f2_ f3_; have f4_ := f1_.symm; have f5_ := f3_.symm; clear f1_ f2_ f3_; subst f4_; subst f5_))
          refine hK.out _ _ ⟨(blk_cell Q00.out 0).trans rfl, (blk_cell Q00.out 1).trans rfl⟩ (fun hHeld => ?_)
          clear hK K
          refine norm_ (a' := ?_) ?_ ?_
          rotate_left
          ·show Act.put _ (some 17) _ = _
           simp only [Act.put, List.setIfInBounds_toArray, List.set_cons_zero, List.set_cons_succ, i64_w, i32_w]
           rfl
          refine one_ (i := 4) (N := some 18) #[true, true, true, true, true, true, true, true, true, false, false, false] rfl rfl (one_of HT_.out (by kernel_rfl)) (by decide) (fun K hK => ?_)
          refine Kd.R_append_rows_step (Kd.int .i64) (w0 := w) w.heap.size (by rfl) (.tmp 14) (.tmp 17) 22 3 (.int .i64 0) 8 rfl Try.underlying22 info3 rfl (by decide) (by omega) (.slice Ao9 x4_1.length co9) x4_1 y103 _ _ _ (fun k_ => some k_ ≠ (.slice Q06 x5_1.length Q07 : Value).ownBlock ∧ some k_ ≠ (v110 : Value).ownBlock ∧ some k_ ≠ (.slice Q09 y103.length Q0a : Value).ownBlock) (fun _ => False) rfl rfl ?aO ?aR (fun _ _ h => h) (fun _ h => h.elim) ?aF ?aB ?aS ?aL ?_
          (case aR => repeat (first | exact (Kd.R_reads' Q04.out).2.2 | (with_reducible refine cA ?_ _) | (with_reducible refine cN ?_ _) | (with_reducible refine cD ?_)))
          (case aB => exact (pH HB))
          (case aF => exact (fun k_ hk => ⟨Kd.fresh' (Kd.R_lt (pR Q01)) k_ hk, Kd.fresh' (Kd.R_lt (pR Q05)) k_ hk, Kd.fresh' (Kd.R_lt (pR Q04)) k_ hk⟩))
          (case aO => exact (by (with_reducible repeat (first | apply rA | apply rN | apply rD)); exact Kd.R_mono Q02.out (fun _ hk => ⟨hk.1.1, ⟨hk.1.2, hk.2⟩⟩)))
          (case aS => exact (below_size (pH HB)))
          (case aL => have := LMc5.out; omega)
          intro v107 w17 ho hb hg hat
          rw [← Ny106.out] at ho
          replace Q01 := Aside0.mk (Kd.R_after (ok := (fun k_ => some k_ ≠ (v110 : Value).ownBlock ∧ some k_ ≠ (.slice Q09 y103.length Q0a : Value).ownBlock)) (by (with_reducible repeat (first | apply rA | apply rN | apply rD)); exact Kd.R_mono Q01.out (fun _ hk => ⟨⟨hk.1.2, hk.2⟩, hk.1.1⟩)) hg hat)
          replace Q00 := Aside0.mk (bG (g := Q03) (o := .cells #[.int .i64 ((rd_T79 l0 x10_1).f0), .int .i64 ((rd_T79 l0 x10_1).f1)] 79 (0, 0)) (pB Q00) hg (Kd.R_ne Q02.out Q00.out (by decide)))
          replace Q05 := Aside0.mk (Kd.R_after (ok := (fun k_ => some k_ ≠ (.slice Q06 x5_1.length Q07 : Value).ownBlock ∧ some k_ ≠ (.slice Q09 y103.length Q0a : Value).ownBlock)) (by (with_reducible repeat (first | apply rA | apply rN | apply rD)); exact Kd.R_mono Q05.out (fun _ hk => ⟨⟨hk.1.2, hk.2⟩, hk.1.1.2⟩)) hg hat)
          replace Q04 := Aside0.mk (Kd.R_after (ok := (fun k_ => some k_ ≠ (.slice Q06 x5_1.length Q07 : Value).ownBlock ∧ some k_ ≠ (v110 : Value).ownBlock)) (by (with_reducible repeat (first | apply rA | apply rN | apply rD)); exact Kd.R_mono Q04.out (fun _ hk => ⟨⟨hk.1.2, hk.2⟩, hk.1.1.2⟩)) hg hat)
          replace HB := Aside0.mk (hb)
          have Q08 := Aside0.mk (ho)
          clear Q02
          clear ho hb hg hat
          refine hK.out _ _ ⟨(blk_cell Q00.out 0).trans rfl, (blk_cell Q00.out 1).trans rfl⟩ (fun hHeld => ?_)
          clear hK K
          refine norm_ (a' := ?_) ?_ ?_
          rotate_left
          ·show Act.put _ (some 18) _ = _
           simp only [Act.put, List.setIfInBounds_toArray, List.set_cons_zero, List.set_cons_succ, i64_w, i32_w]
           rfl
          exact norm_ (by simp only [putAll, Act.put, List.setIfInBounds_toArray, List.set_cons_zero, List.set_cons_succ]) (hCont (.slice Q09 y103.length Q0a, v107, v110) _ ⟨hHeld, (by (with_reducible repeat (first | apply rA | apply rN | apply rD)); exact Kd.R_mono Q04.out (fun _ hk => ⟨hk.2, ⟨hk.1.2, hk.1.1⟩⟩)), (by (with_reducible repeat (first | apply rA | apply rN | apply rD)); exact Kd.R_mono Q08.out (fun _ hk => ⟨hk.2.2, ⟨hk.2.1, hk.1⟩⟩)), (by (with_reducible repeat (first | apply rA | apply rN | apply rD)); exact Kd.R_mono Q05.out (fun _ hk => ⟨hk.1.2, ⟨hk.2, hk.1.1⟩⟩)), (by (with_reducible repeat (first | apply rA | apply rN | apply rD)); exact Kd.R_mono Q01.out (fun _ hk => ⟨hk.1.2, ⟨hk.2, hk.1.1⟩⟩)), (pB Q00), (pH HB)⟩)
        rintro ⟨v104, v107, v110⟩ w19 ⟨hS_, h0_, h1_, h2_, h3_, h4_, h5_⟩
        have n0_ : Aside0 (Kd.R (Kd.int .i64) 3 w19 w.heap.size (fun k_ => some k_ ≠ (v107 : Value).ownBlock ∧ some k_ ≠ (v110 : Value).ownBlock ∧ some k_ ≠ (.slice Q06 x5_1.length Q07 : Value).ownBlock) v104 y103) := ⟨h0_⟩
        have n1_ : Aside0 (Kd.R (Kd.int .i64) 3 w19 w.heap.size (fun k_ => some k_ ≠ (v104 : Value).ownBlock ∧ some k_ ≠ (v110 : Value).ownBlock ∧ some k_ ≠ (.slice Q06 x5_1.length Q07 : Value).ownBlock) v107 y106) := ⟨h1_⟩
        have n2_ : Aside0 (Kd.R (Kd.int .i64) 3 w19 w.heap.size (fun k_ => some k_ ≠ (v104 : Value).ownBlock ∧ some k_ ≠ (v107 : Value).ownBlock ∧ some k_ ≠ (.slice Q06 x5_1.length Q07 : Value).ownBlock) v110 y109) := ⟨h2_⟩
        have n3_ : Aside0 (Kd.R (Kd.int .i64) 3 w19 w.heap.size (fun k_ => some k_ ≠ (v104 : Value).ownBlock ∧ some k_ ≠ (v107 : Value).ownBlock ∧ some k_ ≠ (v110 : Value).ownBlock) (.slice Q06 x5_1.length Q07) x5_1) := ⟨h3_⟩
        have n4_ : Aside0 (w19.heap[Q03]? = some (.cells #[.int .i64 ((rd_T79 l0 x10_1).f0), .int .i64 ((rd_T79 l0 x10_1).f1)] 79 (0, 0))) := ⟨h4_⟩
        have n5_ : Aside0 (Below w.heap.size w w19) := ⟨h5_⟩
        clear Q02
        clear Q01
        clear Q00
        clear HB
        clear h0_ h1_ h2_ h3_ h4_ h5_
        have Q04 := n0_
        have Q08 := n1_
        have Q05 := n2_
        have Q01 := n3_
        have Q00 := n4_
        have HB := n5_
        clear n0_ n1_ n2_ n3_ n4_ n5_
        have hHeld : w19.cell? ⟨Q03, 0, none⟩ = some (.int .i64 ((rd_T79 l0 x10_1).f0)) ∧ w19.cell? ⟨Q03, 1, none⟩ = some (.int .i64 ((rd_T79 l0 x10_1).f1)) := hS_
        obtain ⟨Q0e, Q0f, Q0h⟩ := Kd.R_slice Q05.out
        (first | subst Q0h | (injection Q0h with f1_ f2_ f3_; have f4_ := f1_.symm; have f5_ := f3_.symm; clear f1_ f2_ f3_; subst f4_; subst f5_))
        refine norm_ (a' := ?_) ?_ ?_
        rotate_left
        ·simp only [putAll, Act.put, List.setIfInBounds_toArray, List.set_cons_zero, List.set_cons_succ]
         rfl
        refine one_ (i := 9) (N := some 23) #[true, true, true, true, true, true, true, true, true, true, false, false] rfl rfl (one_of HT_.out (by kernel_rfl)) (by decide) (fun K hK => ?_)
        refine Kd.R_append_rows_step (Kd.int .i64) (w0 := w) w.heap.size (by rfl) (.tmp 19) (.tmp 22) 22 3 (.int .i64 0) 8 rfl Try.underlying22 info3 rfl (by decide) (by omega) (.slice Q06 x5_1.length Q07) x5_1 y109 _ _ _ (fun k_ => some k_ ≠ (v104 : Value).ownBlock ∧ some k_ ≠ (v107 : Value).ownBlock ∧ some k_ ≠ (.slice Q0e y109.length Q0f : Value).ownBlock) (fun _ => False) rfl rfl ?aO ?aR (fun _ _ h => h) (fun _ h => h.elim) ?aF ?aB ?aS ?aL ?_
        (case aR => repeat (first | exact (Kd.R_reads' Q05.out).2.2 | (with_reducible refine cA ?_ _) | (with_reducible refine cN ?_ _) | (with_reducible refine cD ?_)))
        (case aB => exact (pH HB))
        (case aF => exact (fun k_ hk => ⟨Kd.fresh' (Kd.R_lt (pR Q04)) k_ hk, Kd.fresh' (Kd.R_lt (pR Q08)) k_ hk, Kd.fresh' (Kd.R_lt (pR Q05)) k_ hk⟩))
        (case aO => exact (pR Q01))
        (case aS => exact (below_size (pH HB)))
        (case aL => have := LMc6.out; omega)
        intro v113 w20 ho hb hg hat
        rw [← Ny112.out] at ho
        replace Q00 := Aside0.mk (bG (g := Q03) (o := .cells #[.int .i64 ((rd_T79 l0 x10_1).f0), .int .i64 ((rd_T79 l0 x10_1).f1)] 79 (0, 0)) (pB Q00) hg (Kd.R_ne Q01.out Q00.out (by decide)))
        replace Q04 := Aside0.mk (Kd.R_after (ok := (fun k_ => some k_ ≠ (v107 : Value).ownBlock ∧ some k_ ≠ (.slice Q0e y109.length Q0f : Value).ownBlock)) (by (with_reducible repeat (first | apply rA | apply rN | apply rD)); exact Kd.R_mono Q04.out (fun _ hk => ⟨⟨hk.1, hk.2.1⟩, hk.2.2⟩)) hg hat)
        replace Q08 := Aside0.mk (Kd.R_after (ok := (fun k_ => some k_ ≠ (v104 : Value).ownBlock ∧ some k_ ≠ (.slice Q0e y109.length Q0f : Value).ownBlock)) (by (with_reducible repeat (first | apply rA | apply rN | apply rD)); exact Kd.R_mono Q08.out (fun _ hk => ⟨⟨hk.1, hk.2.1⟩, hk.2.2⟩)) hg hat)
        replace Q05 := Aside0.mk (Kd.R_after (ok := (fun k_ => some k_ ≠ (v104 : Value).ownBlock ∧ some k_ ≠ (v107 : Value).ownBlock)) (by (with_reducible repeat (first | apply rA | apply rN | apply rD)); exact Kd.R_mono Q05.out (fun _ hk => ⟨⟨hk.1, hk.2.1⟩, hk.2.2⟩)) hg hat)
        replace HB := Aside0.mk (hb)
        have Q0j := Aside0.mk (ho)
        clear Q01
        clear ho hb hg hat
        refine hK.out _ _ ⟨(blk_cell Q00.out 0).trans rfl, (blk_cell Q00.out 1).trans rfl⟩ (fun hHeld => ?_)
        clear hK K
        refine norm_ (a' := ?_) ?_ ?_
        rotate_left
        ·show Act.put _ (some 23) _ = _
         simp only [Act.put, List.setIfInBounds_toArray, List.set_cons_zero, List.set_cons_succ, i64_w, i32_w]
         rfl
        refine pure_ (i := 10) (N := some 4) (v := ?_) (a' := ?_) #[true, true, true, true, true, true, true, true, true, true, true, false] rfl rfl (any_of HT_.out (by kernel_rfl)) (fun _ _ _ h => h) (Or.inl ⟨by rfl, ?_⟩) ?_ ?_
        rotate_left
        ·intro w'
         go_simp
         with_reducible rfl
        rotate_left
        ·simp only [Act.put, List.setIfInBounds_toArray, List.set_cons_zero, List.set_cons_succ, i64_w, i32_w]
         rfl
        refine pure_ (i := 11) (N := some 5) (v := ?_) (a' := ?_) #[true, true, true, true, true, true, true, true, true, true, true, true] rfl rfl (any_of HT_.out (by kernel_rfl)) (fun _ _ _ h => h) (Or.inl ⟨by rfl, ?_⟩) ?_ ?_
        rotate_left
        ·intro w'
         go_simp
         with_reducible rfl
        rotate_left
        ·simp only [Act.put, List.setIfInBounds_toArray, List.set_cons_zero, List.set_cons_succ, i64_w, i32_w]
         rfl
        refine done_ (done_of HT_.out (by kernel_rfl)) ?_
        try go_wp2
        go_roundg k1
        case measure => have := HK1.out; omega
        case rel => exact ⟨(y106), (y112), (wrap64 (x10_1 + 1)), rS, H', ⟨by have := HK1.out; omega⟩, ⟨by (with_reducible repeat (first | apply rA | apply rN | apply rD)); exact Kd.R_mono Q08.out (fun _ hk => hk.2)⟩, ⟨by (with_reducible repeat (first | apply rA | apply rN | apply rD)); exact Kd.R_mono Q0j.out (fun _ hk => hk.2.1)⟩, ⟨pH HB⟩⟩
       ·rw [if_neg c6] at H
        exact absurd H (by simp)
      ·rw [if_neg c5] at H
       exact absurd H (by simp)
     ·rw [if_neg c4] at H
      exact absurd H (by simp)
    ·rw [if_neg c3] at H
     exact absurd H (by simp)
   ·rw [if_neg c2] at H
    have c2b0 : decide (x10_1 < (l0.length : Int)) = false := decide_eq_false c2
    clear c2
    simp only [Option.some.injEq, Prod.mk.injEq] at H
    obtain ⟨rfl, rfl⟩ := H
    go_wp2
    go_ret2
    exact ⟨_, _, by first | rfl | (simp [errW_none, errW_some] <;> rfl) | (simp [*, errW_none, errW_some] <;> rfl), by (with_reducible repeat (first | apply rA | apply rN | apply rD)); exact Q02.out, by (with_reducible repeat (first | apply rA | apply rN | apply rD)); exact Q01.out, by repeat (first | (with_reducible first | exact HB.out | apply wA | apply wN | apply wD) | exact HB.out)⟩
end Go.Proofs.Ytillofiphkmjjaa.X

namespace Go.Proofs.Ytillofiphkmjjaa.X
open Go.RowKit Go.Proofs.YtillofiphkmjjaaW.PrintWords Go.Proofs.YtillofiphkmjjaaW.PrintLast Go.Proofs.YtillofiphkmjjaaW.PrintMore
open Go.Proofs.YtillofiphkmjjaaW.PrintWords renaming blk_drewN → bN, blk_drew → bD, blk_alloc → bA, below_alloc → wA, pw_below_drewN → wN, below_drew1 → wD, blk_below → bB, below_step → wS, blk_at → bT, blk_grown → bG
open Go.Proofs.YtillofiphkmjjaaW.PrintWords.Kd renaming R_alloc → rA, R_drewN → rN, R_drew → rD, R_below → rB, R_grown → rG, C_below → cB, C_alloc → cA, C_drewN → cN, C_drew → cD
attribute [local go_sem] max2_int min2_int max_two min_two max_three min_three max_four min_four
set_option linter.unusedVariables false
set_option linter.unusedSimpArgs false
/-! ### pullback_Of: function 20 -/
def pullback_Of.f (k : Nat) (l0_0 : List Int) (l0_1 : List (S94)) (l0_2 : List Int) (l0_3 : List (S94)) (l0_4 : List Int) (l0_5 : List (S94)) (l0_6 : List Int) (l0_7 : List Int) (l0_8 : List Int) (l0_9 : List Int) : Option (List Int × (List (S94)) × List Int × List Int × List Int × List Int × Int) := (pullback_of.f k l0_0 l0_1 l0_2 l0_3 l0_4 l0_5 l0_6 l0_7 l0_8 l0_9).bind fun bt105 => (if bt105.2.2.2.2 = 0 then ((pullback_sides.f k bt105.1).bind fun bt121 => ((pullback_sides.f k bt105.2.1).bind fun bt127 => (some (bt105.2.2.1, bt105.2.2.2.1, bt121.1, bt127.1, bt121.2, bt127.2, 0)))) else (some (([] : List Int), ([] : List (S94)), ([] : List Int), ([] : List Int), ([] : List Int), ([] : List Int), bt105.2.2.2.2)))
theorem pullback_Of.mono : ∀ a0 a1 a2 a3 a4 a5 a6 a7 a8 a9 k, LeO (pullback_Of.f k a0 a1 a2 a3 a4 a5 a6 a7 a8 a9) (pullback_Of.f (k + 1) a0 a1 a2 a3 a4 a5 a6 a7 a8 a9) := by
 intro a0 a1 a2 a3 a4 a5 a6 a7 a8 a9 k
 unfold pullback_Of.f
 repeat' first
   | (with_reducible exact pullback_of.mono _ _ _ _ _ _ _ _ _ _ _)
   | (with_reducible exact pullback_sides.mono _ _)
   | (with_reducible exact LeO.refl _)
   | (with_reducible exact LeO.none _)
   | (with_reducible refine LeO.ite ?_ ?_)
   | (with_reducible refine LeO.bind ?_ (fun _ => ?_))
   | exact pullback_of.mono _ _ _ _ _ _ _ _ _ _ _
   | exact pullback_sides.mono _ _
   | exact LeO.none _
   | refine LeO.ite ?_ ?_
   | refine LeO.bind ?_ (fun _ => ?_)
def pullback_Of.T7 : Bool × List (List Nat × List Nat) := (true, [([], []), ([0], [0]), ([], []), ([], []), ([1, 0, 1], [1]), ([2, 4, 0, 1, 2, 4], [2]), ([3, 5, 0, 1, 2, 3, 4, 5], [3]), ([6, 0, 1, 2, 3, 4, 5, 6], [])])
def pullback_Of.B7 : List Nat := [0, 1, 0, 0, 3, 23, 63, 127]
theorem pullback_Of.tab7 : rtab .any (opsOf Try.f20 7) = pullback_Of.T7 := by kernel_rfl
theorem pullback_Of.bits7 : waitsOk pullback_Of.T7.2 pullback_Of.B7 = true := by kernel_rfl
set_option maxHeartbeats 8000000 in
set_option maxRecDepth 100000 in
theorem pullback_Of.calls (k : Nat) (A0_0 : Option Addr) (c0_0 : Nat) (l0_0 : List Int) (A0_1 : Option Addr) (c0_1 : Nat) (l0_1 : List (S94)) (A0_2 : Option Addr) (c0_2 : Nat) (l0_2 : List Int) (A0_3 : Option Addr) (c0_3 : Nat) (l0_3 : List (S94)) (A0_4 : Option Addr) (c0_4 : Nat) (l0_4 : List Int) (A0_5 : Option Addr) (c0_5 : Nat) (l0_5 : List (S94)) (A0_6 : Option Addr) (c0_6 : Nat) (l0_6 : List Int) (A0_7 : Option Addr) (c0_7 : Nat) (l0_7 : List Int) (A0_8 : Option Addr) (c0_8 : Nat) (l0_8 : List Int) (A0_9 : Option Addr) (c0_9 : Nat) (l0_9 : List Int) (r1 : List Int) (r2 : List (S94)) (r3 : List Int) (r4 : List Int) (r5 : List Int) (r6 : List Int) (r7 : Int) (w : World) (hr0_0 : Kd.C (Kd.int .i64) w A0_0 l0_0.length l0_0) (hc0_0 : l0_0.length ≤ c0_0) (hr0_1 : Kd.C k94 w A0_1 l0_1.length l0_1) (hc0_1 : l0_1.length ≤ c0_1) (hr0_2 : Kd.C (Kd.int .i64) w A0_2 l0_2.length l0_2) (hc0_2 : l0_2.length ≤ c0_2) (hr0_3 : Kd.C k94 w A0_3 l0_3.length l0_3) (hc0_3 : l0_3.length ≤ c0_3) (hr0_4 : Kd.C (Kd.int .i64) w A0_4 l0_4.length l0_4) (hc0_4 : l0_4.length ≤ c0_4) (hr0_5 : Kd.C k94 w A0_5 l0_5.length l0_5) (hc0_5 : l0_5.length ≤ c0_5) (hr0_6 : Kd.C (Kd.int .i64) w A0_6 l0_6.length l0_6) (hc0_6 : l0_6.length ≤ c0_6) (hr0_7 : Kd.C (Kd.int .i64) w A0_7 l0_7.length l0_7) (hc0_7 : l0_7.length ≤ c0_7) (hr0_8 : Kd.C (Kd.int .i64) w A0_8 l0_8.length l0_8) (hc0_8 : l0_8.length ≤ c0_8) (hr0_9 : Kd.C (Kd.int .i64) w A0_9 l0_9.length l0_9) (hc0_9 : l0_9.length ≤ c0_9) (h : pullback_Of.f k l0_0 l0_1 l0_2 l0_3 l0_4 l0_5 l0_6 l0_7 l0_8 l0_9 = some (r1, r2, r3, r4, r5, r6, r7)) :
  Calls Try.prog 20 #[.agg #[.slice A0_0 l0_0.length c0_0, .slice A0_1 l0_1.length c0_1, .slice A0_2 l0_2.length c0_2, .slice A0_3 l0_3.length c0_3, .slice A0_4 l0_4.length c0_4, .slice A0_5 l0_5.length c0_5, .slice A0_6 l0_6.length c0_6, .slice A0_7 l0_7.length c0_7, .slice A0_8 l0_8.length c0_8, .slice A0_9 l0_9.length c0_9]] w fun e w' => ∃ v0_ v1_ v2_ v3_ v4_ v5_ : Value, e = .returned (.tuple #[.agg #[v0_, v1_], .agg #[v2_, v3_], .agg #[v4_, v5_], .int .i64 r7]) ∧ Kd.R (Kd.int .i64) 3 w' w.heap.size (fun k_ => some k_ ≠ (v2_ : Value).ownBlock ∧ some k_ ≠ (v3_ : Value).ownBlock ∧ some k_ ≠ (v4_ : Value).ownBlock ∧ some k_ ≠ (v5_ : Value).ownBlock) v0_ r1 ∧ Kd.R k94 94 w' w.heap.size (fun _ => True) v1_ r2 ∧ Kd.R (Kd.int .i64) 3 w' w.heap.size (fun k_ => some k_ ≠ (v0_ : Value).ownBlock ∧ some k_ ≠ (v3_ : Value).ownBlock ∧ some k_ ≠ (v4_ : Value).ownBlock ∧ some k_ ≠ (v5_ : Value).ownBlock) v2_ r3 ∧ Kd.R (Kd.int .i64) 3 w' w.heap.size (fun k_ => some k_ ≠ (v0_ : Value).ownBlock ∧ some k_ ≠ (v2_ : Value).ownBlock ∧ some k_ ≠ (v4_ : Value).ownBlock ∧ some k_ ≠ (v5_ : Value).ownBlock) v3_ r4 ∧ Kd.R (Kd.int .i64) 3 w' w.heap.size (fun k_ => some k_ ≠ (v0_ : Value).ownBlock ∧ some k_ ≠ (v2_ : Value).ownBlock ∧ some k_ ≠ (v3_ : Value).ownBlock ∧ some k_ ≠ (v5_ : Value).ownBlock) v4_ r5 ∧ Kd.R (Kd.int .i64) 3 w' w.heap.size (fun k_ => some k_ ≠ (v0_ : Value).ownBlock ∧ some k_ ≠ (v2_ : Value).ownBlock ∧ some k_ ≠ (v3_ : Value).ownBlock ∧ some k_ ≠ (v4_ : Value).ownBlock) v5_ r6 ∧ Below w.heap.size w w' := by
 have hu29 := Try.underlying29
 have hu25 := Try.underlying25
 have hu27 := Try.underlying27
 have hu81 := Try.underlying81
 have HR0_0 := Aside0.mk hr0_0
 have HC0_0 := Aside0.mk hc0_0
 clear hr0_0 hc0_0
 have HR0_1 := Aside0.mk hr0_1
 have HC0_1 := Aside0.mk hc0_1
 clear hr0_1 hc0_1
 have HR0_2 := Aside0.mk hr0_2
 have HC0_2 := Aside0.mk hc0_2
 clear hr0_2 hc0_2
 have HR0_3 := Aside0.mk hr0_3
 have HC0_3 := Aside0.mk hc0_3
 clear hr0_3 hc0_3
 have HR0_4 := Aside0.mk hr0_4
 have HC0_4 := Aside0.mk hc0_4
 clear hr0_4 hc0_4
 have HR0_5 := Aside0.mk hr0_5
 have HC0_5 := Aside0.mk hc0_5
 clear hr0_5 hc0_5
 have HR0_6 := Aside0.mk hr0_6
 have HC0_6 := Aside0.mk hc0_6
 clear hr0_6 hc0_6
 have HR0_7 := Aside0.mk hr0_7
 have HC0_7 := Aside0.mk hc0_7
 clear hr0_7 hc0_7
 have HR0_8 := Aside0.mk hr0_8
 have HC0_8 := Aside0.mk hc0_8
 clear hr0_8 hc0_8
 have HR0_9 := Aside0.mk hr0_9
 have HC0_9 := Aside0.mk hc0_9
 clear hr0_9 hc0_9
 have HB := Aside0.mk (Below.refl w.heap.size w)
 have H : ((pullback_of.f k l0_0 l0_1 l0_2 l0_3 l0_4 l0_5 l0_6 l0_7 l0_8 l0_9).bind fun bt105 => (if bt105.2.2.2.2 = 0 then ((pullback_sides.f k bt105.1).bind fun bt121 => ((pullback_sides.f k bt105.2.1).bind fun bt127 => (some (bt105.2.2.1, bt105.2.2.2.1, bt121.1, bt127.1, bt121.2, bt127.2, 0)))) else (some (([] : List Int), ([] : List (S94)), ([] : List Int), ([] : List Int), ([] : List Int), ([] : List Int), bt105.2.2.2.2)))) = some (r1, r2, r3, r4, r5, r6, r7) := h
 clear h
 replace H := Option.bind_eq_some_iff.mp H
 obtain ⟨⟨t105, t108, t111, t114, t117⟩, A20, H⟩ := H
 replace H : (if t117 = 0 then ((pullback_sides.f k t105).bind fun bt121 => ((pullback_sides.f k t108).bind fun bt127 => (some (t111, t114, bt121.1, bt127.1, bt121.2, bt127.2, 0)))) else (some (([] : List Int), ([] : List (S94)), ([] : List Int), ([] : List Int), ([] : List Int), ([] : List Int), t117))) = some (r1, r2, r3, r4, r5, r6, r7) := H
 have A2 := Aside0.mk A20
 clear A20
 by_cases c3 : t117 = 0
 ·rw [if_pos c3] at H
  have c3b0 : (t117 == 0) = true := beq_iff_eq.mpr c3
  have c3b1 : (t117 != 0) = false := bne_eq_false_iff_eq.mpr c3
  clear c3
  replace H := Option.bind_eq_some_iff.mp H
  obtain ⟨⟨t121, t122⟩, A40, H⟩ := H
  replace H : ((pullback_sides.f k t108).bind fun bt127 => (some (t111, t114, t121, bt127.1, t122, bt127.2, 0))) = some (r1, r2, r3, r4, r5, r6, r7) := H
  have A4 := Aside0.mk A40
  clear A40
  replace H := Option.bind_eq_some_iff.mp H
  obtain ⟨⟨t127, t128⟩, A50, H⟩ := H
  replace H : (some (t111, t114, t121, t127, t122, t128, 0)) = some (r1, r2, r3, r4, r5, r6, r7) := H
  have A5 := Aside0.mk A50
  clear A50
  simp only [Option.some.injEq, Prod.mk.injEq] at H
  obtain ⟨rfl, rfl, rfl, rfl, rfl, rfl, rfl⟩ := H
  go_enter Try.func20, Try.ntmps20
  try go_wp2_with (first | ((with_reducible refine gate_dst (N := 1) rfl ?_); refine box_event ?hg (N := 1) ?hd (cs := #[.slice A0_0 l0_0.length c0_0, .slice A0_1 l0_1.length c0_1, .slice A0_2 l0_2.length c0_2, .slice A0_3 l0_3.length c0_3, .slice A0_4 l0_4.length c0_4, .slice A0_5 l0_5.length c0_5, .slice A0_6 l0_6.length c0_6, .slice A0_7 l0_7.length c0_7, .slice A0_8 l0_8.length c0_8, .slice A0_9 l0_9.length c0_9]) (t := 29) ?hr ?_; (case hd => rfl); (case hg => rfl); (case hr => first | (go_simp; done) | (go_simp; rfl)); intro Q0h hg w6 hbox hb; have Q00 := Aside0.mk (hbox); have Q29 := Aside0.mk ((by rw [hg]; exact (below_size hB) : w.heap.size ≤ Q0h)); have Q1x := Aside0.mk ((by rw [hg]; exact (below_size hB) : w.heap.size ≤ Q0h)); replace HB := uH HB hb; clear hb hbox hg) | ((with_reducible refine gate_dst (N := 2) rfl ?_); refine box_event ?hg (N := 2) ?hd (cs := #[.slice none 0 0, .slice none 0 0]) (t := 25) ?hr ?_; (case hd => rfl); (case hg => rfl); (case hr => first | (go_simp; done) | (go_simp; rfl)); intro Q09 hg w7 hbox hb; have Q01 := Aside0.mk (hbox); have Q2a := uS HB hg; have Q1y := uS HB hg; replace HB := uH HB hb; have Q1l := uL Q00 hg; have Q1m := uG Q00 hg; replace Q00 := uB Q00 hb; clear hb hbox hg) | ((with_reducible refine gate_dst (N := 3) rfl ?_); refine box_event ?hg (N := 3) ?hd (cs := #[.slice none 0 0, .slice none 0 0]) (t := 27) ?hr ?_; (case hd => rfl); (case hg => rfl); (case hr => first | (go_simp; done) | (go_simp; rfl)); intro Q0a hg w8 hbox hb; have Q04 := Aside0.mk (hbox); have Q2b := uS HB hg; have Q1z := uS HB hg; replace HB := uH HB hb; have Q1n := uL Q00 hg; have Q1o := uG Q00 hg; replace Q00 := uB Q00 hb; have Q17 := uL Q01 hg; have Q18 := uG Q01 hg; replace Q01 := uB Q01 hb; clear hb hbox hg) | ((with_reducible refine gate_dst (N := 4) rfl ?_); refine box_event ?hg (N := 4) ?hd (cs := #[.slice none 0 0, .slice none 0 0]) (t := 27) ?hr ?_; (case hd => rfl); (case hg => rfl); (case hr => first | (go_simp; done) | (go_simp; rfl)); intro Q0b hg w9 hbox hb; have Q05 := Aside0.mk (hbox); have Q2c := uS HB hg; have Q20 := uS HB hg; replace HB := uH HB hb; have Q1p := uL Q00 hg; have Q1q := uG Q00 hg; replace Q00 := uB Q00 hb; have Q19 := uL Q01 hg; have Q1a := uG Q01 hg; replace Q01 := uB Q01 hb; have Q1b := uL Q04 hg; have Q1c := uG Q04 hg; replace Q04 := uB Q04 hb; clear hb hbox hg; have Q2w := Q1l.out; have Q2x := Q1m.out; have Q2y := Q1n.out; have Q2z := Q1o.out; have Q30 := Q1p.out; have Q31 := Q1q.out; have Q32 : w9.cell? ⟨Q0h, 0, none⟩ = some (.slice A0_0 l0_0.length c0_0) := (blk_cell Q00.out 0).trans rfl; have Q33 : w9.cell? ⟨Q0h, 1, none⟩ = some (.slice A0_1 l0_1.length c0_1) := (blk_cell Q00.out 1).trans rfl; have Q34 : w9.cell? ⟨Q0h, 2, none⟩ = some (.slice A0_2 l0_2.length c0_2) := (blk_cell Q00.out 2).trans rfl; have Q35 : w9.cell? ⟨Q0h, 3, none⟩ = some (.slice A0_3 l0_3.length c0_3) := (blk_cell Q00.out 3).trans rfl; have Q36 : w9.cell? ⟨Q0h, 4, none⟩ = some (.slice A0_4 l0_4.length c0_4) := (blk_cell Q00.out 4).trans rfl; have Q37 : w9.cell? ⟨Q0h, 5, none⟩ = some (.slice A0_5 l0_5.length c0_5) := (blk_cell Q00.out 5).trans rfl; have Q38 : w9.cell? ⟨Q0h, 6, none⟩ = some (.slice A0_6 l0_6.length c0_6) := (blk_cell Q00.out 6).trans rfl; have Q39 : w9.cell? ⟨Q0h, 7, none⟩ = some (.slice A0_7 l0_7.length c0_7) := (blk_cell Q00.out 7).trans rfl; have Q3a : w9.cell? ⟨Q0h, 8, none⟩ = some (.slice A0_8 l0_8.length c0_8) := (blk_cell Q00.out 8).trans rfl; have Q3b : w9.cell? ⟨Q0h, 9, none⟩ = some (.slice A0_9 l0_9.length c0_9) := (blk_cell Q00.out 9).trans rfl; have Q3c := blk_frozen Q00.out 0; have Q3d := blk_frozen Q00.out 1; have Q3e := blk_frozen Q00.out 2; have Q3f := blk_frozen Q00.out 3; have Q3g := blk_frozen Q00.out 4; have Q3h := blk_frozen Q00.out 5; have Q3i := blk_frozen Q00.out 6; have Q3j := blk_frozen Q00.out 7; have Q3k := blk_frozen Q00.out 8; have Q3l := blk_frozen Q00.out 9) | ((with_reducible refine gate_callee (f := 41) rfl ?_); refine goesL_ (some 12) rfl rfl Try.func41 (by kernel_rfl) rfl #[.agg #[.slice A0_0 l0_0.length c0_0, .slice A0_1 l0_1.length c0_1, .slice A0_2 l0_2.length c0_2, .slice A0_3 l0_3.length c0_3, .slice A0_4 l0_4.length c0_4, .slice A0_5 l0_5.length c0_5, .slice A0_6 l0_6.length c0_6, .slice A0_7 l0_7.length c0_7, .slice A0_8 l0_8.length c0_8, .slice A0_9 l0_9.length c0_9]] rfl aM ?_; (with_reducible refine (pullback_of.calls k _ _ l0_0 _ _ l0_1 _ _ l0_2 _ _ l0_3 _ _ l0_4 _ _ l0_5 _ _ l0_6 _ _ l0_7 _ _ l0_8 _ _ l0_9 t105 t108 t111 t114 t117 _ ?side1 ?side2 ?side3 ?side4 ?side5 ?side6 ?side7 ?side8 ?side9 ?side10 ?side11 ?side12 ?side13 ?side14 ?side15 ?side16 ?side17 ?side18 ?side19 ?side20 A2.out).mono ?_); (case side1 => repeat (first | exact (cB HR0_0.out HB.out) | (with_reducible refine cA ?_ _) | (with_reducible refine cN ?_ _) | (with_reducible refine cD ?_))); (case side2 => exact HC0_0.out); (case side3 => repeat (first | exact (cB HR0_1.out HB.out) | (with_reducible refine cA ?_ _) | (with_reducible refine cN ?_ _) | (with_reducible refine cD ?_))); (case side4 => exact HC0_1.out); (case side5 => repeat (first | exact (cB HR0_2.out HB.out) | (with_reducible refine cA ?_ _) | (with_reducible refine cN ?_ _) | (with_reducible refine cD ?_))); (case side6 => exact HC0_2.out); (case side7 => repeat (first | exact (cB HR0_3.out HB.out) | (with_reducible refine cA ?_ _) | (with_reducible refine cN ?_ _) | (with_reducible refine cD ?_))); (case side8 => exact HC0_3.out); (case side9 => repeat (first | exact (cB HR0_4.out HB.out) | (with_reducible refine cA ?_ _) | (with_reducible refine cN ?_ _) | (with_reducible refine cD ?_))); (case side10 => exact HC0_4.out); (case side11 => repeat (first | exact (cB HR0_5.out HB.out) | (with_reducible refine cA ?_ _) | (with_reducible refine cN ?_ _) | (with_reducible refine cD ?_))); (case side12 => exact HC0_5.out); (case side13 => repeat (first | exact (cB HR0_6.out HB.out) | (with_reducible refine cA ?_ _) | (with_reducible refine cN ?_ _) | (with_reducible refine cD ?_))); (case side14 => exact HC0_6.out); (case side15 => repeat (first | exact (cB HR0_7.out HB.out) | (with_reducible refine cA ?_ _) | (with_reducible refine cN ?_ _) | (with_reducible refine cD ?_))); (case side16 => exact HC0_7.out); (case side17 => repeat (first | exact (cB HR0_8.out HB.out) | (with_reducible refine cA ?_ _) | (with_reducible refine cN ?_ _) | (with_reducible refine cD ?_))); (case side18 => exact HC0_8.out); (case side19 => repeat (first | exact (cB HR0_9.out HB.out) | (with_reducible refine cA ?_ _) | (with_reducible refine cN ?_ _) | (with_reducible refine cD ?_))); (case side20 => exact HC0_9.out); rintro e w14 ⟨v106, v109, v112, v115, rfl, ho0, ho1, ho2, ho3, hb⟩; refine ⟨_, rfl, ?_⟩; have Q0r := Aside0.mk (Kd.R_lower ho0 (below_size (pH HB))); have Q0s := Aside0.mk (Kd.R_lower ho1 (below_size (pH HB))); have Q0o := Aside0.mk (Kd.R_lower ho2 (below_size (pH HB))); have Q0t := Aside0.mk (Kd.R_lower ho3 (below_size (pH HB))); replace Q00 := uB Q00 hb; replace Q01 := uB Q01 hb; replace Q04 := uB Q04 hb; replace Q05 := uB Q05 hb; replace HB := uH HB hb; (try clear hb); (try clear hb2); (try clear hk); (try clear hi); (try clear ho0); (try clear ho1); (try clear ho2); (try clear ho3)) | ((with_reducible refine gate_dst (N := 6) rfl ?_); refine box_event ?hg (N := 6) ?hd (cs := #[.slice none 0 0, .slice none 0 0, .slice none 0 0, .slice none 0 0]) (t := 81) ?hr ?_; (case hd => rfl); (case hg => rfl); (case hr => first | (go_simp; done) | (go_simp; rfl)); intro Q08 hg w15 hbox hb; replace Q0r := uR Q0r hb; replace Q0s := uR Q0s hb; replace Q0o := uR Q0o hb; replace Q0t := uR Q0t hb; have Q02 := Aside0.mk (hbox); have Q2d := uS HB hg; have Q21 := uS HB hg; replace HB := uH HB hb; have Q11 := uL Q00 hg; have Q22 := uG Q00 hg; replace Q00 := uB Q00 hb; have Q0v := uL Q01 hg; have Q12 := uG Q01 hg; replace Q01 := uB Q01 hb; have Q0w := uL Q04 hg; have Q13 := uG Q04 hg; replace Q04 := uB Q04 hb; have Q0x := uL Q05 hg; have Q14 := uG Q05 hg; replace Q05 := uB Q05 hb; clear hb hbox hg; obtain ⟨Q0p, Q0q, Q2e⟩ := Kd.R_slice Q0r.out; subst Q2e; have Q3m := Q22.out; have Q3n := Q11.out; have Q3o := Q12.out; have Q3p := Q0v.out; have Q3q := Q13.out; have Q3r := Q0w.out; have Q3s := Q14.out; have Q3t := Q0x.out; have Q3u : w15.cell? ⟨Q08, 0, none⟩ = some (.slice none 0 0) := (blk_cell Q02.out 0).trans rfl; have Q3v : w15.cell? ⟨Q08, 1, none⟩ = some (.slice none 0 0) := (blk_cell Q02.out 1).trans rfl; have Q3w : w15.cell? ⟨Q08, 2, none⟩ = some (.slice none 0 0) := (blk_cell Q02.out 2).trans rfl; have Q3x : w15.cell? ⟨Q08, 3, none⟩ = some (.slice none 0 0) := (blk_cell Q02.out 3).trans rfl; have Q3y := blk_frozen Q02.out 0; have Q3z := blk_frozen Q02.out 1; have Q40 := blk_frozen Q02.out 2; have Q41 := blk_frozen Q02.out 3; obtain ⟨Q0y, Q0u, Q2f⟩ := Kd.R_slice Q0s.out; subst Q2f; obtain ⟨Q0m, Q0n, Q2g⟩ := Kd.R_slice Q0o.out; subst Q2g; obtain ⟨Q0z, Q10, Q2h⟩ := Kd.R_slice Q0t.out; subst Q2h) | ((with_reducible refine gate_dst (N := 8) rfl ?_); refine box_event ?hg (N := 8) ?hd (cs := #[.slice none 0 0, .slice none 0 0]) (t := 27) ?hr ?_; (case hd => rfl); (case hg => rfl); (case hr => first | (go_simp; done) | (go_simp; rfl)); intro Q03 hg w25 hbox hb; replace Q0r := Aside0.mk (rB (by (with_reducible repeat (first | apply rA | apply rN | apply rD)); exact (Kd.R_mono (Kd.R_far (p := ⟨Q08, 3, none⟩) (Kd.R_far (p := ⟨Q08, 2, none⟩) (Kd.R_far (p := ⟨Q08, 1, none⟩) (Kd.R_far (p := ⟨Q08, 0, none⟩) (Kd.R_types Q0r.out Q02.out (by decide)) (fun _ hk => hk.2) (.slice Q0p t105.length Q0q)) (fun _ hk => hk.2) (.slice Q0y t108.length Q0u)) (fun _ hk => hk.2) (.slice Q0m t111.length Q0n)) (fun _ hk => hk.2) (.slice Q0z t114.length Q10)) (fun _ h_ => h_.1))) hb); replace Q0s := Aside0.mk (rB (by (with_reducible repeat (first | apply rA | apply rN | apply rD)); exact (Kd.R_mono (Kd.R_far (p := ⟨Q08, 3, none⟩) (Kd.R_far (p := ⟨Q08, 2, none⟩) (Kd.R_far (p := ⟨Q08, 1, none⟩) (Kd.R_far (p := ⟨Q08, 0, none⟩) (Kd.R_types Q0s.out Q02.out (by decide)) (fun _ hk => hk.2) (.slice Q0p t105.length Q0q)) (fun _ hk => hk.2) (.slice Q0y t108.length Q0u)) (fun _ hk => hk.2) (.slice Q0m t111.length Q0n)) (fun _ hk => hk.2) (.slice Q0z t114.length Q10)) (fun _ h_ => h_.1))) hb); replace Q0o := Aside0.mk (rB (by (with_reducible repeat (first | apply rA | apply rN | apply rD)); exact (Kd.R_mono (Kd.R_far (p := ⟨Q08, 3, none⟩) (Kd.R_far (p := ⟨Q08, 2, none⟩) (Kd.R_far (p := ⟨Q08, 1, none⟩) (Kd.R_far (p := ⟨Q08, 0, none⟩) (Kd.R_types Q0o.out Q02.out (by decide)) (fun _ hk => hk.2) (.slice Q0p t105.length Q0q)) (fun _ hk => hk.2) (.slice Q0y t108.length Q0u)) (fun _ hk => hk.2) (.slice Q0m t111.length Q0n)) (fun _ hk => hk.2) (.slice Q0z t114.length Q10)) (fun _ h_ => h_.1))) hb); replace Q0t := Aside0.mk (rB (by (with_reducible repeat (first | apply rA | apply rN | apply rD)); exact (Kd.R_mono (Kd.R_far (p := ⟨Q08, 3, none⟩) (Kd.R_far (p := ⟨Q08, 2, none⟩) (Kd.R_far (p := ⟨Q08, 1, none⟩) (Kd.R_far (p := ⟨Q08, 0, none⟩) (Kd.R_types Q0t.out Q02.out (by decide)) (fun _ hk => hk.2) (.slice Q0p t105.length Q0q)) (fun _ hk => hk.2) (.slice Q0y t108.length Q0u)) (fun _ hk => hk.2) (.slice Q0m t111.length Q0n)) (fun _ hk => hk.2) (.slice Q0z t114.length Q10)) (fun _ h_ => h_.1))) hb); have Q07 := Aside0.mk (hbox); have Q42 := uS HB hg; have Q2i := uS HB hg; replace HB := uH HB hb; have Q23 := Aside0.mk ((by rw [hg]; exact Nat.ne_of_lt (blk_lt (g := Q0h) (o := .cells #[.slice A0_0 l0_0.length c0_0, .slice A0_1 l0_1.length c0_1, .slice A0_2 l0_2.length c0_2, .slice A0_3 l0_3.length c0_3, .slice A0_4 l0_4.length c0_4, .slice A0_5 l0_5.length c0_5, .slice A0_6 l0_6.length c0_6, .slice A0_7 l0_7.length c0_7, .slice A0_8 l0_8.length c0_8, .slice A0_9 l0_9.length c0_9] 29 (0, 0)) (by (with_reducible repeat (first | refine bN ?_ _ | refine bD ?_ | refine bA ?_ _)); refine blk_far ?_ Q11.out _; (with_reducible repeat (first | refine bN ?_ _ | refine bD ?_ | refine bA ?_ _)); refine blk_far ?_ Q11.out _; (with_reducible repeat (first | refine bN ?_ _ | refine bD ?_ | refine bA ?_ _)); refine blk_far ?_ Q11.out _; (with_reducible repeat (first | refine bN ?_ _ | refine bD ?_ | refine bA ?_ _)); refine blk_far ?_ Q11.out _; (with_reducible repeat (first | refine bN ?_ _ | refine bD ?_ | refine bA ?_ _)); exact Q00.out)) : Q0h ≠ Q03)); have Q2j := Aside0.mk ((by rw [hg]; exact Nat.ne_of_gt (blk_lt (g := Q0h) (o := .cells #[.slice A0_0 l0_0.length c0_0, .slice A0_1 l0_1.length c0_1, .slice A0_2 l0_2.length c0_2, .slice A0_3 l0_3.length c0_3, .slice A0_4 l0_4.length c0_4, .slice A0_5 l0_5.length c0_5, .slice A0_6 l0_6.length c0_6, .slice A0_7 l0_7.length c0_7, .slice A0_8 l0_8.length c0_8, .slice A0_9 l0_9.length c0_9] 29 (0, 0)) (by (with_reducible repeat (first | refine bN ?_ _ | refine bD ?_ | refine bA ?_ _)); refine blk_far ?_ Q11.out _; (with_reducible repeat (first | refine bN ?_ _ | refine bD ?_ | refine bA ?_ _)); refine blk_far ?_ Q11.out _; (with_reducible repeat (first | refine bN ?_ _ | refine bD ?_ | refine bA ?_ _)); refine blk_far ?_ Q11.out _; (with_reducible repeat (first | refine bN ?_ _ | refine bD ?_ | refine bA ?_ _)); refine blk_far ?_ Q11.out _; (with_reducible repeat (first | refine bN ?_ _ | refine bD ?_ | refine bA ?_ _)); exact Q00.out)) : Q03 ≠ Q0h)); replace Q00 := Aside0.mk (bB (g := Q0h) (o := .cells #[.slice A0_0 l0_0.length c0_0, .slice A0_1 l0_1.length c0_1, .slice A0_2 l0_2.length c0_2, .slice A0_3 l0_3.length c0_3, .slice A0_4 l0_4.length c0_4, .slice A0_5 l0_5.length c0_5, .slice A0_6 l0_6.length c0_6, .slice A0_7 l0_7.length c0_7, .slice A0_8 l0_8.length c0_8, .slice A0_9 l0_9.length c0_9] 29 (0, 0)) (by (with_reducible repeat (first | refine bN ?_ _ | refine bD ?_ | refine bA ?_ _)); refine blk_far ?_ Q11.out _; (with_reducible repeat (first | refine bN ?_ _ | refine bD ?_ | refine bA ?_ _)); refine blk_far ?_ Q11.out _; (with_reducible repeat (first | refine bN ?_ _ | refine bD ?_ | refine bA ?_ _)); refine blk_far ?_ Q11.out _; (with_reducible repeat (first | refine bN ?_ _ | refine bD ?_ | refine bA ?_ _)); refine blk_far ?_ Q11.out _; (with_reducible repeat (first | refine bN ?_ _ | refine bD ?_ | refine bA ?_ _)); exact Q00.out) hb); have Q1r := Aside0.mk ((by rw [hg]; exact Nat.ne_of_lt (blk_lt (g := Q09) (o := .cells #[.slice none 0 0, .slice none 0 0] 25 (0, 0)) (by (with_reducible repeat (first | refine bN ?_ _ | refine bD ?_ | refine bA ?_ _)); refine blk_far ?_ Q0v.out _; (with_reducible repeat (first | refine bN ?_ _ | refine bD ?_ | refine bA ?_ _)); refine blk_far ?_ Q0v.out _; (with_reducible repeat (first | refine bN ?_ _ | refine bD ?_ | refine bA ?_ _)); refine blk_far ?_ Q0v.out _; (with_reducible repeat (first | refine bN ?_ _ | refine bD ?_ | refine bA ?_ _)); refine blk_far ?_ Q0v.out _; (with_reducible repeat (first | refine bN ?_ _ | refine bD ?_ | refine bA ?_ _)); exact Q01.out)) : Q09 ≠ Q03)); have Q1f := Aside0.mk ((by rw [hg]; exact Nat.ne_of_gt (blk_lt (g := Q09) (o := .cells #[.slice none 0 0, .slice none 0 0] 25 (0, 0)) (by (with_reducible repeat (first | refine bN ?_ _ | refine bD ?_ | refine bA ?_ _)); refine blk_far ?_ Q0v.out _; (with_reducible repeat (first | refine bN ?_ _ | refine bD ?_ | refine bA ?_ _)); refine blk_far ?_ Q0v.out _; (with_reducible repeat (first | refine bN ?_ _ | refine bD ?_ | refine bA ?_ _)); refine blk_far ?_ Q0v.out _; (with_reducible repeat (first | refine bN ?_ _ | refine bD ?_ | refine bA ?_ _)); refine blk_far ?_ Q0v.out _; (with_reducible repeat (first | refine bN ?_ _ | refine bD ?_ | refine bA ?_ _)); exact Q01.out)) : Q03 ≠ Q09)); replace Q01 := Aside0.mk (bB (g := Q09) (o := .cells #[.slice none 0 0, .slice none 0 0] 25 (0, 0)) (by (with_reducible repeat (first | refine bN ?_ _ | refine bD ?_ | refine bA ?_ _)); refine blk_far ?_ Q0v.out _; (with_reducible repeat (first | refine bN ?_ _ | refine bD ?_ | refine bA ?_ _)); refine blk_far ?_ Q0v.out _; (with_reducible repeat (first | refine bN ?_ _ | refine bD ?_ | refine bA ?_ _)); refine blk_far ?_ Q0v.out _; (with_reducible repeat (first | refine bN ?_ _ | refine bD ?_ | refine bA ?_ _)); refine blk_far ?_ Q0v.out _; (with_reducible repeat (first | refine bN ?_ _ | refine bD ?_ | refine bA ?_ _)); exact Q01.out) hb); have Q1s := Aside0.mk ((by rw [hg]; exact Nat.ne_of_lt (blk_lt (g := Q0a) (o := .cells #[.slice none 0 0, .slice none 0 0] 27 (0, 0)) (by (with_reducible repeat (first | refine bN ?_ _ | refine bD ?_ | refine bA ?_ _)); refine blk_far ?_ Q0w.out _; (with_reducible repeat (first | refine bN ?_ _ | refine bD ?_ | refine bA ?_ _)); refine blk_far ?_ Q0w.out _; (with_reducible repeat (first | refine bN ?_ _ | refine bD ?_ | refine bA ?_ _)); refine blk_far ?_ Q0w.out _; (with_reducible repeat (first | refine bN ?_ _ | refine bD ?_ | refine bA ?_ _)); refine blk_far ?_ Q0w.out _; (with_reducible repeat (first | refine bN ?_ _ | refine bD ?_ | refine bA ?_ _)); exact Q04.out)) : Q0a ≠ Q03)); have Q1g := Aside0.mk ((by rw [hg]; exact Nat.ne_of_gt (blk_lt (g := Q0a) (o := .cells #[.slice none 0 0, .slice none 0 0] 27 (0, 0)) (by (with_reducible repeat (first | refine bN ?_ _ | refine bD ?_ | refine bA ?_ _)); refine blk_far ?_ Q0w.out _; (with_reducible repeat (first | refine bN ?_ _ | refine bD ?_ | refine bA ?_ _)); refine blk_far ?_ Q0w.out _; (with_reducible repeat (first | refine bN ?_ _ | refine bD ?_ | refine bA ?_ _)); refine blk_far ?_ Q0w.out _; (with_reducible repeat (first | refine bN ?_ _ | refine bD ?_ | refine bA ?_ _)); refine blk_far ?_ Q0w.out _; (with_reducible repeat (first | refine bN ?_ _ | refine bD ?_ | refine bA ?_ _)); exact Q04.out)) : Q03 ≠ Q0a)); replace Q04 := Aside0.mk (bB (g := Q0a) (o := .cells #[.slice none 0 0, .slice none 0 0] 27 (0, 0)) (by (with_reducible repeat (first | refine bN ?_ _ | refine bD ?_ | refine bA ?_ _)); refine blk_far ?_ Q0w.out _; (with_reducible repeat (first | refine bN ?_ _ | refine bD ?_ | refine bA ?_ _)); refine blk_far ?_ Q0w.out _; (with_reducible repeat (first | refine bN ?_ _ | refine bD ?_ | refine bA ?_ _)); refine blk_far ?_ Q0w.out _; (with_reducible repeat (first | refine bN ?_ _ | refine bD ?_ | refine bA ?_ _)); refine blk_far ?_ Q0w.out _; (with_reducible repeat (first | refine bN ?_ _ | refine bD ?_ | refine bA ?_ _)); exact Q04.out) hb); have Q1t := Aside0.mk ((by rw [hg]; exact Nat.ne_of_lt (blk_lt (g := Q0b) (o := .cells #[.slice none 0 0, .slice none 0 0] 27 (0, 0)) (by (with_reducible repeat (first | refine bN ?_ _ | refine bD ?_ | refine bA ?_ _)); refine blk_far ?_ Q0x.out _; (with_reducible repeat (first | refine bN ?_ _ | refine bD ?_ | refine bA ?_ _)); refine blk_far ?_ Q0x.out _; (with_reducible repeat (first | refine bN ?_ _ | refine bD ?_ | refine bA ?_ _)); refine blk_far ?_ Q0x.out _; (with_reducible repeat (first | refine bN ?_ _ | refine bD ?_ | refine bA ?_ _)); refine blk_far ?_ Q0x.out _; (with_reducible repeat (first | refine bN ?_ _ | refine bD ?_ | refine bA ?_ _)); exact Q05.out)) : Q0b ≠ Q03)); have Q1h := Aside0.mk ((by rw [hg]; exact Nat.ne_of_gt (blk_lt (g := Q0b) (o := .cells #[.slice none 0 0, .slice none 0 0] 27 (0, 0)) (by (with_reducible repeat (first | refine bN ?_ _ | refine bD ?_ | refine bA ?_ _)); refine blk_far ?_ Q0x.out _; (with_reducible repeat (first | refine bN ?_ _ | refine bD ?_ | refine bA ?_ _)); refine blk_far ?_ Q0x.out _; (with_reducible repeat (first | refine bN ?_ _ | refine bD ?_ | refine bA ?_ _)); refine blk_far ?_ Q0x.out _; (with_reducible repeat (first | refine bN ?_ _ | refine bD ?_ | refine bA ?_ _)); refine blk_far ?_ Q0x.out _; (with_reducible repeat (first | refine bN ?_ _ | refine bD ?_ | refine bA ?_ _)); exact Q05.out)) : Q03 ≠ Q0b)); replace Q05 := Aside0.mk (bB (g := Q0b) (o := .cells #[.slice none 0 0, .slice none 0 0] 27 (0, 0)) (by (with_reducible repeat (first | refine bN ?_ _ | refine bD ?_ | refine bA ?_ _)); refine blk_far ?_ Q0x.out _; (with_reducible repeat (first | refine bN ?_ _ | refine bD ?_ | refine bA ?_ _)); refine blk_far ?_ Q0x.out _; (with_reducible repeat (first | refine bN ?_ _ | refine bD ?_ | refine bA ?_ _)); refine blk_far ?_ Q0x.out _; (with_reducible repeat (first | refine bN ?_ _ | refine bD ?_ | refine bA ?_ _)); refine blk_far ?_ Q0x.out _; (with_reducible repeat (first | refine bN ?_ _ | refine bD ?_ | refine bA ?_ _)); exact Q05.out) hb); have Q24 := Aside0.mk ((by rw [hg]; exact Nat.ne_of_lt (blk_lt (g := Q08) (o := .cells #[.slice Q0p t105.length Q0q, .slice Q0y t108.length Q0u, .slice Q0m t111.length Q0n, .slice Q0z t114.length Q10] 81 (0, 0)) (by (with_reducible repeat (first | refine bN ?_ _ | refine bD ?_ | refine bA ?_ _)); refine blk_put (cs := #[.slice Q0p t105.length Q0q, .slice Q0y t108.length Q0u, .slice Q0m t111.length Q0n, .slice none 0 0]) ?_ 3 _ rfl; (with_reducible repeat (first | refine bN ?_ _ | refine bD ?_ | refine bA ?_ _)); refine blk_put (cs := #[.slice Q0p t105.length Q0q, .slice Q0y t108.length Q0u, .slice none 0 0, .slice none 0 0]) ?_ 2 _ rfl; (with_reducible repeat (first | refine bN ?_ _ | refine bD ?_ | refine bA ?_ _)); refine blk_put (cs := #[.slice Q0p t105.length Q0q, .slice none 0 0, .slice none 0 0, .slice none 0 0]) ?_ 1 _ rfl; (with_reducible repeat (first | refine bN ?_ _ | refine bD ?_ | refine bA ?_ _)); refine blk_put (cs := #[.slice none 0 0, .slice none 0 0, .slice none 0 0, .slice none 0 0]) ?_ 0 _ rfl; (with_reducible repeat (first | refine bN ?_ _ | refine bD ?_ | refine bA ?_ _)); exact Q02.out)) : Q08 ≠ Q03)); have Q2k := Aside0.mk ((by rw [hg]; exact Nat.ne_of_gt (blk_lt (g := Q08) (o := .cells #[.slice Q0p t105.length Q0q, .slice Q0y t108.length Q0u, .slice Q0m t111.length Q0n, .slice Q0z t114.length Q10] 81 (0, 0)) (by (with_reducible repeat (first | refine bN ?_ _ | refine bD ?_ | refine bA ?_ _)); refine blk_put (cs := #[.slice Q0p t105.length Q0q, .slice Q0y t108.length Q0u, .slice Q0m t111.length Q0n, .slice none 0 0]) ?_ 3 _ rfl; (with_reducible repeat (first | refine bN ?_ _ | refine bD ?_ | refine bA ?_ _)); refine blk_put (cs := #[.slice Q0p t105.length Q0q, .slice Q0y t108.length Q0u, .slice none 0 0, .slice none 0 0]) ?_ 2 _ rfl; (with_reducible repeat (first | refine bN ?_ _ | refine bD ?_ | refine bA ?_ _)); refine blk_put (cs := #[.slice Q0p t105.length Q0q, .slice none 0 0, .slice none 0 0, .slice none 0 0]) ?_ 1 _ rfl; (with_reducible repeat (first | refine bN ?_ _ | refine bD ?_ | refine bA ?_ _)); refine blk_put (cs := #[.slice none 0 0, .slice none 0 0, .slice none 0 0, .slice none 0 0]) ?_ 0 _ rfl; (with_reducible repeat (first | refine bN ?_ _ | refine bD ?_ | refine bA ?_ _)); exact Q02.out)) : Q03 ≠ Q08)); replace Q02 := Aside0.mk (bB (g := Q08) (o := .cells #[.slice Q0p t105.length Q0q, .slice Q0y t108.length Q0u, .slice Q0m t111.length Q0n, .slice Q0z t114.length Q10] 81 (0, 0)) (by (with_reducible repeat (first | refine bN ?_ _ | refine bD ?_ | refine bA ?_ _)); refine blk_put (cs := #[.slice Q0p t105.length Q0q, .slice Q0y t108.length Q0u, .slice Q0m t111.length Q0n, .slice none 0 0]) ?_ 3 _ rfl; (with_reducible repeat (first | refine bN ?_ _ | refine bD ?_ | refine bA ?_ _)); refine blk_put (cs := #[.slice Q0p t105.length Q0q, .slice Q0y t108.length Q0u, .slice none 0 0, .slice none 0 0]) ?_ 2 _ rfl; (with_reducible repeat (first | refine bN ?_ _ | refine bD ?_ | refine bA ?_ _)); refine blk_put (cs := #[.slice Q0p t105.length Q0q, .slice none 0 0, .slice none 0 0, .slice none 0 0]) ?_ 1 _ rfl; (with_reducible repeat (first | refine bN ?_ _ | refine bD ?_ | refine bA ?_ _)); refine blk_put (cs := #[.slice none 0 0, .slice none 0 0, .slice none 0 0, .slice none 0 0]) ?_ 0 _ rfl; (with_reducible repeat (first | refine bN ?_ _ | refine bD ?_ | refine bA ?_ _)); exact Q02.out) hb); clear hb hbox hg) | ((with_reducible refine gate_dst (N := 9) rfl ?_); refine box_event ?hg (N := 9) ?hd (cs := #[.slice none 0 0, .slice none 0 0]) (t := 27) ?hr ?_; (case hd => rfl); (case hg => rfl); (case hr => first | (go_simp; done) | (go_simp; rfl)); intro Q06 hg w26 hbox hb; replace Q0r := uR Q0r hb; replace Q0s := uR Q0s hb; replace Q0o := uR Q0o hb; replace Q0t := uR Q0t hb; have Q0c := Aside0.mk (hbox); have Q43 := uS HB hg; have Q2l := uS HB hg; replace HB := uH HB hb; have Q25 := uL Q00 hg; have Q2m := uG Q00 hg; replace Q00 := uB Q00 hb; have Q1u := uL Q01 hg; have Q1i := uG Q01 hg; replace Q01 := uB Q01 hb; have Q1v := uL Q04 hg; have Q1j := uG Q04 hg; replace Q04 := uB Q04 hb; have Q1w := uL Q05 hg; have Q1k := uG Q05 hg; replace Q05 := uB Q05 hb; have Q26 := uL Q02 hg; have Q2n := uG Q02 hg; replace Q02 := uB Q02 hb; have Q27 := uL Q07 hg; have Q28 := uG Q07 hg; replace Q07 := uB Q07 hb; clear hb hbox hg; have Q44 := Q24.out; have Q45 := Q2k.out; have Q46 := Q26.out; have Q47 := Q2n.out; have Q48 : w26.cell? ⟨Q08, 0, none⟩ = some (.slice Q0p t105.length Q0q) := (blk_cell Q02.out 0).trans rfl; have Q49 : w26.cell? ⟨Q08, 1, none⟩ = some (.slice Q0y t108.length Q0u) := (blk_cell Q02.out 1).trans rfl; have Q4a : w26.cell? ⟨Q08, 2, none⟩ = some (.slice Q0m t111.length Q0n) := (blk_cell Q02.out 2).trans rfl; have Q4b : w26.cell? ⟨Q08, 3, none⟩ = some (.slice Q0z t114.length Q10) := (blk_cell Q02.out 3).trans rfl; have Q4c := blk_frozen Q02.out 0; have Q4d := blk_frozen Q02.out 1; have Q4e := blk_frozen Q02.out 2; have Q4f := blk_frozen Q02.out 3) | ((with_reducible refine gate_callee (f := 51) rfl ?_); refine goesL_ (some 24) rfl rfl Try.func51 (by kernel_rfl) rfl #[.slice Q0p t105.length Q0q] rfl aM ?_; (with_reducible refine (pullback_sides.calls k _ _ t105 t121 t122 _ ?side1 ?side2 A4.out).mono ?_); (case side1 => repeat (first | exact (Kd.R_reads' Q0r.out).2.2 | (with_reducible refine cA ?_ _) | (with_reducible refine cN ?_ _) | (with_reducible refine cD ?_))); (case side2 => exact (Kd.R_reads' Q0r.out).2.1); rintro e w30 ⟨v123, v125, rfl, ho0, ho1, hb⟩; refine ⟨_, rfl, ?_⟩; replace Q0r := uR Q0r hb; replace Q0s := uR Q0s hb; replace Q0t := uR Q0t hb; have Q15 := Aside0.mk (Kd.R_lower (Kd.R_new' ho0 (Kd.R_lt (pR Q0o))) (below_size (pH HB))); have Q16 := Aside0.mk (Kd.R_lower (Kd.R_new' ho1 (Kd.R_lt (pR Q0o))) (below_size (pH HB))); replace Q0o := Aside0.mk (Kd.R_mono (Kd.R_told (Kd.R_told (Kd.R_old (pR Q0o) hb) (Kd.R_base ho0)) (Kd.R_base ho1)) (fun _ h_ => h_.1)); replace Q00 := uB Q00 hb; replace Q01 := uB Q01 hb; replace Q04 := uB Q04 hb; replace Q05 := uB Q05 hb; replace Q02 := uB Q02 hb; replace Q07 := uB Q07 hb; replace Q0c := uB Q0c hb; replace HB := uH HB hb; (try clear hb); (try clear hb2); (try clear hk); (try clear hi); (try clear ho0); (try clear ho1); obtain ⟨Q0i, Q0j, Q2o⟩ := Kd.R_slice Q15.out; subst Q2o; have Q4g := Q2j.out; have Q4h := Q23.out; have Q4i := Q1f.out; have Q4j := Q1r.out; have Q4k := Q1g.out; have Q4l := Q1s.out; have Q4m := Q1h.out; have Q4n := Q1t.out; have Q4o := Q27.out; have Q4p := Q28.out; have Q4q : w30.cell? ⟨Q03, 0, none⟩ = some (.slice none 0 0) := (blk_cell Q07.out 0).trans rfl; have Q4r : w30.cell? ⟨Q03, 1, none⟩ = some (.slice none 0 0) := (blk_cell Q07.out 1).trans rfl; have Q4s := blk_frozen Q07.out 0; have Q4t := blk_frozen Q07.out 1; obtain ⟨Q0k, Q0l, Q2p⟩ := Kd.R_slice Q16.out; subst Q2p; have Q4u := Q2m.out; have Q4v := Q25.out; have Q4w := Q1i.out; have Q4x := Q1u.out; have Q4y := Q1j.out; have Q4z := Q1v.out; have Q50 := Q1k.out; have Q51 := Q1w.out; have Q52 : w30.cell? ⟨Q06, 0, none⟩ = some (.slice none 0 0) := (blk_cell Q0c.out 0).trans rfl; have Q53 : w30.cell? ⟨Q06, 1, none⟩ = some (.slice none 0 0) := (blk_cell Q0c.out 1).trans rfl; have Q54 := blk_frozen Q0c.out 0; have Q55 := blk_frozen Q0c.out 1; have Q56 : w30.cell? ⟨Q08, 0, none⟩ = some (.slice Q0p t105.length Q0q) := (blk_cell Q02.out 0).trans rfl; have Q57 : w30.cell? ⟨Q08, 1, none⟩ = some (.slice Q0y t108.length Q0u) := (blk_cell Q02.out 1).trans rfl; have Q58 : w30.cell? ⟨Q08, 2, none⟩ = some (.slice Q0m t111.length Q0n) := (blk_cell Q02.out 2).trans rfl; have Q59 : w30.cell? ⟨Q08, 3, none⟩ = some (.slice Q0z t114.length Q10) := (blk_cell Q02.out 3).trans rfl; have Q5a := blk_frozen Q02.out 0; have Q5b := blk_frozen Q02.out 1; have Q5c := blk_frozen Q02.out 2; have Q5d := blk_frozen Q02.out 3) | ((with_reducible refine gate_callee (f := 51) rfl ?_); refine goesL_ (some 32) rfl rfl Try.func51 (by kernel_rfl) rfl #[.slice Q0y t108.length Q0u] rfl aM ?_; (with_reducible refine (pullback_sides.calls k _ _ t108 t127 t128 _ ?side1 ?side2 A5.out).mono ?_); (case side1 => refine (Kd.R_reads' (e := 79) (base := w.heap.size) (ok := fun k_ => some k_ ≠ (.slice Q0p t105.length Q0q : Value).ownBlock) (n := t108.length) (c := Q0u) ?_).2.2; exact (by (with_reducible repeat (first | apply rA | apply rN | apply rD)); exact (Kd.R_mono (Kd.R_mono (Kd.R_far (p := ⟨Q06, 0, none⟩) (Kd.R_far (p := ⟨Q03, 0, none⟩) (Kd.R_types (Kd.R_types Q0s.out Q07.out (by decide)) Q0c.out (by decide)) (fun _ hk => hk.1.2) (.slice Q0i t121.length Q0j)) (fun _ hk => hk.2) (.slice Q0k t122.length Q0l)) (fun _ h_ => h_.1)) (fun _ h_ => h_.1)))); (case side2 => exact (Kd.R_reads' Q0s.out).2.1); rintro e w45 ⟨v129, v131, rfl, ho0, ho1, hb⟩; refine ⟨_, rfl, ?_⟩; replace Q0r := Aside0.mk (rB (by (with_reducible repeat (first | apply rA | apply rN | apply rD)); exact (Kd.R_mono (Kd.R_mono (Kd.R_far (p := ⟨Q06, 0, none⟩) (Kd.R_far (p := ⟨Q03, 0, none⟩) (Kd.R_types (Kd.R_types Q0r.out Q07.out (by decide)) Q0c.out (by decide)) (fun _ hk => hk.1.2) (.slice Q0i t121.length Q0j)) (fun _ hk => hk.2) (.slice Q0k t122.length Q0l)) (fun _ h_ => h_.1)) (fun _ h_ => h_.1))) hb); replace Q0s := Aside0.mk (rB (by (with_reducible repeat (first | apply rA | apply rN | apply rD)); exact (Kd.R_mono (Kd.R_mono (Kd.R_far (p := ⟨Q06, 0, none⟩) (Kd.R_far (p := ⟨Q03, 0, none⟩) (Kd.R_types (Kd.R_types Q0s.out Q07.out (by decide)) Q0c.out (by decide)) (fun _ hk => hk.1.2) (.slice Q0i t121.length Q0j)) (fun _ hk => hk.2) (.slice Q0k t122.length Q0l)) (fun _ h_ => h_.1)) (fun _ h_ => h_.1))) hb); replace Q0t := Aside0.mk (rB (by (with_reducible repeat (first | apply rA | apply rN | apply rD)); exact (Kd.R_mono (Kd.R_mono (Kd.R_far (p := ⟨Q06, 0, none⟩) (Kd.R_far (p := ⟨Q03, 0, none⟩) (Kd.R_types (Kd.R_types Q0t.out Q07.out (by decide)) Q0c.out (by decide)) (fun _ hk => hk.1.2) (.slice Q0i t121.length Q0j)) (fun _ hk => hk.2) (.slice Q0k t122.length Q0l)) (fun _ h_ => h_.1)) (fun _ h_ => h_.1))) hb); have Q1d := Aside0.mk (Kd.R_lower (Kd.R_new' (Kd.R_new' (Kd.R_new' ho0 (Kd.R_lt (by (with_reducible repeat (first | apply rA | apply rN | apply rD)); exact (Kd.R_mono (Kd.R_mono (Kd.R_far (p := ⟨Q06, 0, none⟩) (Kd.R_far (p := ⟨Q03, 0, none⟩) (Kd.R_types (Kd.R_types Q0o.out Q07.out (by decide)) Q0c.out (by decide)) (fun _ hk => hk.1.2) (.slice Q0i t121.length Q0j)) (fun _ hk => hk.2) (.slice Q0k t122.length Q0l)) (fun _ h_ => h_.1)) (fun _ h_ => h_.1))))) (Kd.R_lt (by (with_reducible repeat (first | apply rA | apply rN | apply rD)); exact (Kd.R_mono (Kd.R_mono (Kd.R_far (p := ⟨Q06, 0, none⟩) (Kd.R_far (p := ⟨Q03, 0, none⟩) (Kd.R_types (Kd.R_types Q15.out Q07.out (by decide)) Q0c.out (by decide)) (fun _ hk => hk.1.2) (.slice Q0i t121.length Q0j)) (fun _ hk => hk.2) (.slice Q0k t122.length Q0l)) (fun _ h_ => h_.1)) (fun _ h_ => h_.1))))) (Kd.R_lt (by (with_reducible repeat (first | apply rA | apply rN | apply rD)); exact (Kd.R_mono (Kd.R_mono (Kd.R_far (p := ⟨Q06, 0, none⟩) (Kd.R_far (p := ⟨Q03, 0, none⟩) (Kd.R_types (Kd.R_types Q16.out Q07.out (by decide)) Q0c.out (by decide)) (fun _ hk => hk.1.2) (.slice Q0i t121.length Q0j)) (fun _ hk => hk.2) (.slice Q0k t122.length Q0l)) (fun _ h_ => h_.1)) (fun _ h_ => h_.1))))) (below_size (pH HB))); have Q1e := Aside0.mk (Kd.R_lower (Kd.R_new' (Kd.R_new' (Kd.R_new' ho1 (Kd.R_lt (by (with_reducible repeat (first | apply rA | apply rN | apply rD)); exact (Kd.R_mono (Kd.R_mono (Kd.R_far (p := ⟨Q06, 0, none⟩) (Kd.R_far (p := ⟨Q03, 0, none⟩) (Kd.R_types (Kd.R_types Q0o.out Q07.out (by decide)) Q0c.out (by decide)) (fun _ hk => hk.1.2) (.slice Q0i t121.length Q0j)) (fun _ hk => hk.2) (.slice Q0k t122.length Q0l)) (fun _ h_ => h_.1)) (fun _ h_ => h_.1))))) (Kd.R_lt (by (with_reducible repeat (first | apply rA | apply rN | apply rD)); exact (Kd.R_mono (Kd.R_mono (Kd.R_far (p := ⟨Q06, 0, none⟩) (Kd.R_far (p := ⟨Q03, 0, none⟩) (Kd.R_types (Kd.R_types Q15.out Q07.out (by decide)) Q0c.out (by decide)) (fun _ hk => hk.1.2) (.slice Q0i t121.length Q0j)) (fun _ hk => hk.2) (.slice Q0k t122.length Q0l)) (fun _ h_ => h_.1)) (fun _ h_ => h_.1))))) (Kd.R_lt (by (with_reducible repeat (first | apply rA | apply rN | apply rD)); exact (Kd.R_mono (Kd.R_mono (Kd.R_far (p := ⟨Q06, 0, none⟩) (Kd.R_far (p := ⟨Q03, 0, none⟩) (Kd.R_types (Kd.R_types Q16.out Q07.out (by decide)) Q0c.out (by decide)) (fun _ hk => hk.1.2) (.slice Q0i t121.length Q0j)) (fun _ hk => hk.2) (.slice Q0k t122.length Q0l)) (fun _ h_ => h_.1)) (fun _ h_ => h_.1))))) (below_size (pH HB))); replace Q0o := Aside0.mk (Kd.R_mono (Kd.R_told (Kd.R_told (Kd.R_old (by (with_reducible repeat (first | apply rA | apply rN | apply rD)); exact (Kd.R_mono (Kd.R_mono (Kd.R_far (p := ⟨Q06, 0, none⟩) (Kd.R_far (p := ⟨Q03, 0, none⟩) (Kd.R_types (Kd.R_types Q0o.out Q07.out (by decide)) Q0c.out (by decide)) (fun _ hk => hk.1.2) (.slice Q0i t121.length Q0j)) (fun _ hk => hk.2) (.slice Q0k t122.length Q0l)) (fun _ h_ => h_.1)) (fun _ h_ => h_.1))) hb) (Kd.R_base ho0)) (Kd.R_base ho1)) (fun _ h_ => h_.1)); replace Q15 := Aside0.mk (Kd.R_mono (Kd.R_told (Kd.R_told (Kd.R_old (by (with_reducible repeat (first | apply rA | apply rN | apply rD)); exact (Kd.R_mono (Kd.R_mono (Kd.R_far (p := ⟨Q06, 0, none⟩) (Kd.R_far (p := ⟨Q03, 0, none⟩) (Kd.R_types (Kd.R_types Q15.out Q07.out (by decide)) Q0c.out (by decide)) (fun _ hk => hk.1.2) (.slice Q0i t121.length Q0j)) (fun _ hk => hk.2) (.slice Q0k t122.length Q0l)) (fun _ h_ => h_.1)) (fun _ h_ => h_.1))) hb) (Kd.R_base ho0)) (Kd.R_base ho1)) (fun _ h_ => h_.1)); replace Q16 := Aside0.mk (Kd.R_mono (Kd.R_told (Kd.R_told (Kd.R_old (by (with_reducible repeat (first | apply rA | apply rN | apply rD)); exact (Kd.R_mono (Kd.R_mono (Kd.R_far (p := ⟨Q06, 0, none⟩) (Kd.R_far (p := ⟨Q03, 0, none⟩) (Kd.R_types (Kd.R_types Q16.out Q07.out (by decide)) Q0c.out (by decide)) (fun _ hk => hk.1.2) (.slice Q0i t121.length Q0j)) (fun _ hk => hk.2) (.slice Q0k t122.length Q0l)) (fun _ h_ => h_.1)) (fun _ h_ => h_.1))) hb) (Kd.R_base ho0)) (Kd.R_base ho1)) (fun _ h_ => h_.1)); replace Q00 := Aside0.mk (bB (g := Q0h) (o := .cells #[.slice A0_0 l0_0.length c0_0, .slice A0_1 l0_1.length c0_1, .slice A0_2 l0_2.length c0_2, .slice A0_3 l0_3.length c0_3, .slice A0_4 l0_4.length c0_4, .slice A0_5 l0_5.length c0_5, .slice A0_6 l0_6.length c0_6, .slice A0_7 l0_7.length c0_7, .slice A0_8 l0_8.length c0_8, .slice A0_9 l0_9.length c0_9] 29 (0, 0)) (by (with_reducible repeat (first | refine bN ?_ _ | refine bD ?_ | refine bA ?_ _)); refine blk_far ?_ Q25.out _; (with_reducible repeat (first | refine bN ?_ _ | refine bD ?_ | refine bA ?_ _)); refine blk_far ?_ Q23.out _; (with_reducible repeat (first | refine bN ?_ _ | refine bD ?_ | refine bA ?_ _)); exact Q00.out) hb); replace Q01 := Aside0.mk (bB (g := Q09) (o := .cells #[.slice none 0 0, .slice none 0 0] 25 (0, 0)) (by (with_reducible repeat (first | refine bN ?_ _ | refine bD ?_ | refine bA ?_ _)); refine blk_far ?_ Q1u.out _; (with_reducible repeat (first | refine bN ?_ _ | refine bD ?_ | refine bA ?_ _)); refine blk_far ?_ Q1r.out _; (with_reducible repeat (first | refine bN ?_ _ | refine bD ?_ | refine bA ?_ _)); exact Q01.out) hb); replace Q04 := Aside0.mk (bB (g := Q0a) (o := .cells #[.slice none 0 0, .slice none 0 0] 27 (0, 0)) (by (with_reducible repeat (first | refine bN ?_ _ | refine bD ?_ | refine bA ?_ _)); refine blk_far ?_ Q1v.out _; (with_reducible repeat (first | refine bN ?_ _ | refine bD ?_ | refine bA ?_ _)); refine blk_far ?_ Q1s.out _; (with_reducible repeat (first | refine bN ?_ _ | refine bD ?_ | refine bA ?_ _)); exact Q04.out) hb); replace Q05 := Aside0.mk (bB (g := Q0b) (o := .cells #[.slice none 0 0, .slice none 0 0] 27 (0, 0)) (by (with_reducible repeat (first | refine bN ?_ _ | refine bD ?_ | refine bA ?_ _)); refine blk_far ?_ Q1w.out _; (with_reducible repeat (first | refine bN ?_ _ | refine bD ?_ | refine bA ?_ _)); refine blk_far ?_ Q1t.out _; (with_reducible repeat (first | refine bN ?_ _ | refine bD ?_ | refine bA ?_ _)); exact Q05.out) hb); replace Q02 := Aside0.mk (bB (g := Q08) (o := .cells #[.slice Q0p t105.length Q0q, .slice Q0y t108.length Q0u, .slice Q0m t111.length Q0n, .slice Q0z t114.length Q10] 81 (0, 0)) (by (with_reducible repeat (first | refine bN ?_ _ | refine bD ?_ | refine bA ?_ _)); refine blk_far ?_ Q26.out _; (with_reducible repeat (first | refine bN ?_ _ | refine bD ?_ | refine bA ?_ _)); refine blk_far ?_ Q24.out _; (with_reducible repeat (first | refine bN ?_ _ | refine bD ?_ | refine bA ?_ _)); exact Q02.out) hb); replace Q07 := Aside0.mk (bB (g := Q03) (o := .cells #[.slice Q0i t121.length Q0j, .slice none 0 0] 27 (0, 0)) (by (with_reducible repeat (first | refine bN ?_ _ | refine bD ?_ | refine bA ?_ _)); refine blk_far ?_ Q27.out _; (with_reducible repeat (first | refine bN ?_ _ | refine bD ?_ | refine bA ?_ _)); refine blk_put (cs := #[.slice none 0 0, .slice none 0 0]) ?_ 0 _ rfl; (with_reducible repeat (first | refine bN ?_ _ | refine bD ?_ | refine bA ?_ _)); exact Q07.out) hb); replace Q0c := Aside0.mk (bB (g := Q06) (o := .cells #[.slice Q0k t122.length Q0l, .slice none 0 0] 27 (0, 0)) (by (with_reducible repeat (first | refine bN ?_ _ | refine bD ?_ | refine bA ?_ _)); refine blk_put (cs := #[.slice none 0 0, .slice none 0 0]) ?_ 0 _ rfl; (with_reducible repeat (first | refine bN ?_ _ | refine bD ?_ | refine bA ?_ _)); refine blk_far ?_ Q28.out _; (with_reducible repeat (first | refine bN ?_ _ | refine bD ?_ | refine bA ?_ _)); exact Q0c.out) hb); replace HB := uH HB hb; (try clear hb); (try clear hb2); (try clear hk); (try clear hi); (try clear ho0); (try clear ho1); obtain ⟨Q0d, Q0e, Q2q⟩ := Kd.R_slice Q1d.out; subst Q2q; have Q5e : w45.cell? ⟨Q03, 0, none⟩ = some (.slice Q0i t121.length Q0j) := (blk_cell Q07.out 0).trans rfl; have Q5f : w45.cell? ⟨Q03, 1, none⟩ = some (.slice none 0 0) := (blk_cell Q07.out 1).trans rfl; have Q5g := blk_frozen Q07.out 0; have Q5h := blk_frozen Q07.out 1; obtain ⟨Q0f, Q0g, Q2r⟩ := Kd.R_slice Q1e.out; subst Q2r; have Q5i : w45.cell? ⟨Q06, 0, none⟩ = some (.slice Q0k t122.length Q0l) := (blk_cell Q0c.out 0).trans rfl; have Q5j : w45.cell? ⟨Q06, 1, none⟩ = some (.slice none 0 0) := (blk_cell Q0c.out 1).trans rfl; have Q5k := blk_frozen Q0c.out 0; have Q5l := blk_frozen Q0c.out 1))
  have n0_ : Aside0 (Kd.R k79 79 ((w45.setCell ⟨Q03, 1, none⟩ (.slice Q0d t127.length Q0e)).setCell ⟨Q06, 1, none⟩ (.slice Q0f t128.length Q0g)) w.heap.size (fun k_ => some k_ ≠ (.slice Q0y t108.length Q0u : Value).ownBlock) (.slice Q0p t105.length Q0q) t105) := ⟨by (with_reducible repeat (first | apply rA | apply rN | apply rD)); exact Kd.R_mono (Kd.R_far (p := ⟨Q06, 1, none⟩) (Kd.R_far (p := ⟨Q03, 1, none⟩) (Kd.R_types (Kd.R_types Q0r.out Q07.out (by decide)) Q0c.out (by decide)) (fun _ hk => hk.1.2) (.slice Q0d t127.length Q0e)) (fun _ hk => hk.2) (.slice Q0f t128.length Q0g)) (fun _ hk => hk.1.1)⟩
  have n1_ : Aside0 (Kd.R k79 79 ((w45.setCell ⟨Q03, 1, none⟩ (.slice Q0d t127.length Q0e)).setCell ⟨Q06, 1, none⟩ (.slice Q0f t128.length Q0g)) w.heap.size (fun k_ => some k_ ≠ (.slice Q0p t105.length Q0q : Value).ownBlock) (.slice Q0y t108.length Q0u) t108) := ⟨by (with_reducible repeat (first | apply rA | apply rN | apply rD)); exact Kd.R_mono (Kd.R_far (p := ⟨Q06, 1, none⟩) (Kd.R_far (p := ⟨Q03, 1, none⟩) (Kd.R_types (Kd.R_types Q0s.out Q07.out (by decide)) Q0c.out (by decide)) (fun _ hk => hk.1.2) (.slice Q0d t127.length Q0e)) (fun _ hk => hk.2) (.slice Q0f t128.length Q0g)) (fun _ hk => hk.1.1)⟩
  have n2_ : Aside0 (Kd.R (Kd.int .i64) 3 ((w45.setCell ⟨Q03, 1, none⟩ (.slice Q0d t127.length Q0e)).setCell ⟨Q06, 1, none⟩ (.slice Q0f t128.length Q0g)) w.heap.size (fun k_ => some k_ ≠ (.slice Q0i t121.length Q0j : Value).ownBlock ∧ some k_ ≠ (.slice Q0k t122.length Q0l : Value).ownBlock ∧ some k_ ≠ (.slice Q0d t127.length Q0e : Value).ownBlock ∧ some k_ ≠ (.slice Q0f t128.length Q0g : Value).ownBlock) (.slice Q0m t111.length Q0n) t111) := ⟨by (with_reducible repeat (first | apply rA | apply rN | apply rD)); exact Kd.R_mono (Kd.R_far (p := ⟨Q06, 1, none⟩) (Kd.R_far (p := ⟨Q03, 1, none⟩) (Kd.R_types (Kd.R_types Q0o.out Q07.out (by decide)) Q0c.out (by decide)) (fun _ hk => hk.1.2) (.slice Q0d t127.length Q0e)) (fun _ hk => hk.2) (.slice Q0f t128.length Q0g)) (fun _ hk => ⟨hk.1.1.1.1.1.2, ⟨hk.1.1.1.1.2, ⟨hk.1.1.1.2, hk.1.1.2⟩⟩⟩)⟩
  have n3_ : Aside0 (Kd.R k94 94 ((w45.setCell ⟨Q03, 1, none⟩ (.slice Q0d t127.length Q0e)).setCell ⟨Q06, 1, none⟩ (.slice Q0f t128.length Q0g)) w.heap.size (fun _ => True) (.slice Q0z t114.length Q10) t114) := ⟨by (with_reducible repeat (first | apply rA | apply rN | apply rD)); exact Kd.R_mono (Kd.R_far (p := ⟨Q06, 1, none⟩) (Kd.R_far (p := ⟨Q03, 1, none⟩) (Kd.R_types (Kd.R_types Q0t.out Q07.out (by decide)) Q0c.out (by decide)) (fun _ hk => hk.1.2) (.slice Q0d t127.length Q0e)) (fun _ hk => hk.2) (.slice Q0f t128.length Q0g)) (fun _ hk => trivial)⟩
  have n4_ : Aside0 (Kd.R (Kd.int .i64) 3 ((w45.setCell ⟨Q03, 1, none⟩ (.slice Q0d t127.length Q0e)).setCell ⟨Q06, 1, none⟩ (.slice Q0f t128.length Q0g)) w.heap.size (fun k_ => some k_ ≠ (.slice Q0m t111.length Q0n : Value).ownBlock ∧ some k_ ≠ (.slice Q0k t122.length Q0l : Value).ownBlock ∧ some k_ ≠ (.slice Q0d t127.length Q0e : Value).ownBlock ∧ some k_ ≠ (.slice Q0f t128.length Q0g : Value).ownBlock) (.slice Q0i t121.length Q0j) t121) := ⟨by (with_reducible repeat (first | apply rA | apply rN | apply rD)); exact Kd.R_mono (Kd.R_far (p := ⟨Q06, 1, none⟩) (Kd.R_far (p := ⟨Q03, 1, none⟩) (Kd.R_types (Kd.R_types Q15.out Q07.out (by decide)) Q0c.out (by decide)) (fun _ hk => hk.1.2) (.slice Q0d t127.length Q0e)) (fun _ hk => hk.2) (.slice Q0f t128.length Q0g)) (fun _ hk => ⟨hk.1.1.1.1.2, ⟨hk.1.1.1.1.1, ⟨hk.1.1.1.2, hk.1.1.2⟩⟩⟩)⟩
  have n5_ : Aside0 (Kd.R (Kd.int .i64) 3 ((w45.setCell ⟨Q03, 1, none⟩ (.slice Q0d t127.length Q0e)).setCell ⟨Q06, 1, none⟩ (.slice Q0f t128.length Q0g)) w.heap.size (fun k_ => some k_ ≠ (.slice Q0m t111.length Q0n : Value).ownBlock ∧ some k_ ≠ (.slice Q0i t121.length Q0j : Value).ownBlock ∧ some k_ ≠ (.slice Q0d t127.length Q0e : Value).ownBlock ∧ some k_ ≠ (.slice Q0f t128.length Q0g : Value).ownBlock) (.slice Q0k t122.length Q0l) t122) := ⟨by (with_reducible repeat (first | apply rA | apply rN | apply rD)); exact Kd.R_mono (Kd.R_far (p := ⟨Q06, 1, none⟩) (Kd.R_far (p := ⟨Q03, 1, none⟩) (Kd.R_types (Kd.R_types Q16.out Q07.out (by decide)) Q0c.out (by decide)) (fun _ hk => hk.1.2) (.slice Q0d t127.length Q0e)) (fun _ hk => hk.2) (.slice Q0f t128.length Q0g)) (fun _ hk => ⟨hk.1.1.1.1.2, ⟨hk.1.1.1.1.1, ⟨hk.1.1.1.2, hk.1.1.2⟩⟩⟩)⟩
  have n6_ : Aside0 (Kd.R (Kd.int .i64) 3 ((w45.setCell ⟨Q03, 1, none⟩ (.slice Q0d t127.length Q0e)).setCell ⟨Q06, 1, none⟩ (.slice Q0f t128.length Q0g)) w.heap.size (fun k_ => some k_ ≠ (.slice Q0m t111.length Q0n : Value).ownBlock ∧ some k_ ≠ (.slice Q0i t121.length Q0j : Value).ownBlock ∧ some k_ ≠ (.slice Q0k t122.length Q0l : Value).ownBlock ∧ some k_ ≠ (.slice Q0f t128.length Q0g : Value).ownBlock) (.slice Q0d t127.length Q0e) t127) := ⟨by (with_reducible repeat (first | apply rA | apply rN | apply rD)); exact Kd.R_mono (Kd.R_far (p := ⟨Q06, 1, none⟩) (Kd.R_far (p := ⟨Q03, 1, none⟩) (Kd.R_types (Kd.R_types Q1d.out Q07.out (by decide)) Q0c.out (by decide)) (fun _ hk => hk.1.2) (.slice Q0d t127.length Q0e)) (fun _ hk => hk.2) (.slice Q0f t128.length Q0g)) (fun _ hk => ⟨hk.1.1.1.1.2, ⟨hk.1.1.1.2, ⟨hk.1.1.2, hk.1.1.1.1.1⟩⟩⟩)⟩
  have n7_ : Aside0 (Kd.R (Kd.int .i64) 3 ((w45.setCell ⟨Q03, 1, none⟩ (.slice Q0d t127.length Q0e)).setCell ⟨Q06, 1, none⟩ (.slice Q0f t128.length Q0g)) w.heap.size (fun k_ => some k_ ≠ (.slice Q0m t111.length Q0n : Value).ownBlock ∧ some k_ ≠ (.slice Q0i t121.length Q0j : Value).ownBlock ∧ some k_ ≠ (.slice Q0k t122.length Q0l : Value).ownBlock ∧ some k_ ≠ (.slice Q0d t127.length Q0e : Value).ownBlock) (.slice Q0f t128.length Q0g) t128) := ⟨by (with_reducible repeat (first | apply rA | apply rN | apply rD)); exact Kd.R_mono (Kd.R_far (p := ⟨Q06, 1, none⟩) (Kd.R_far (p := ⟨Q03, 1, none⟩) (Kd.R_types (Kd.R_types Q1e.out Q07.out (by decide)) Q0c.out (by decide)) (fun _ hk => hk.1.2) (.slice Q0d t127.length Q0e)) (fun _ hk => hk.2) (.slice Q0f t128.length Q0g)) (fun _ hk => ⟨hk.1.1.1.1.2, ⟨hk.1.1.1.2, ⟨hk.1.1.2, hk.1.1.1.1.1⟩⟩⟩)⟩
  have n8_ : Aside0 (((w45.setCell ⟨Q03, 1, none⟩ (.slice Q0d t127.length Q0e)).setCell ⟨Q06, 1, none⟩ (.slice Q0f t128.length Q0g)).heap[Q0h]? = some (.cells #[.slice A0_0 l0_0.length c0_0, .slice A0_1 l0_1.length c0_1, .slice A0_2 l0_2.length c0_2, .slice A0_3 l0_3.length c0_3, .slice A0_4 l0_4.length c0_4, .slice A0_5 l0_5.length c0_5, .slice A0_6 l0_6.length c0_6, .slice A0_7 l0_7.length c0_7, .slice A0_8 l0_8.length c0_8, .slice A0_9 l0_9.length c0_9] 29 (0, 0))) := ⟨by (with_reducible repeat (first | refine bN ?_ _ | refine bD ?_ | refine bA ?_ _)); refine blk_far ?_ Q25.out _; (with_reducible repeat (first | refine bN ?_ _ | refine bD ?_ | refine bA ?_ _)); refine blk_far ?_ Q23.out _; (with_reducible repeat (first | refine bN ?_ _ | refine bD ?_ | refine bA ?_ _)); exact Q00.out⟩
  have n9_ : Aside0 (((w45.setCell ⟨Q03, 1, none⟩ (.slice Q0d t127.length Q0e)).setCell ⟨Q06, 1, none⟩ (.slice Q0f t128.length Q0g)).heap[Q09]? = some (.cells #[.slice none 0 0, .slice none 0 0] 25 (0, 0))) := ⟨by (with_reducible repeat (first | refine bN ?_ _ | refine bD ?_ | refine bA ?_ _)); refine blk_far ?_ Q1u.out _; (with_reducible repeat (first | refine bN ?_ _ | refine bD ?_ | refine bA ?_ _)); refine blk_far ?_ Q1r.out _; (with_reducible repeat (first | refine bN ?_ _ | refine bD ?_ | refine bA ?_ _)); exact Q01.out⟩
  have n10_ : Aside0 (((w45.setCell ⟨Q03, 1, none⟩ (.slice Q0d t127.length Q0e)).setCell ⟨Q06, 1, none⟩ (.slice Q0f t128.length Q0g)).heap[Q0a]? = some (.cells #[.slice none 0 0, .slice none 0 0] 27 (0, 0))) := ⟨by (with_reducible repeat (first | refine bN ?_ _ | refine bD ?_ | refine bA ?_ _)); refine blk_far ?_ Q1v.out _; (with_reducible repeat (first | refine bN ?_ _ | refine bD ?_ | refine bA ?_ _)); refine blk_far ?_ Q1s.out _; (with_reducible repeat (first | refine bN ?_ _ | refine bD ?_ | refine bA ?_ _)); exact Q04.out⟩
  have n11_ : Aside0 (((w45.setCell ⟨Q03, 1, none⟩ (.slice Q0d t127.length Q0e)).setCell ⟨Q06, 1, none⟩ (.slice Q0f t128.length Q0g)).heap[Q0b]? = some (.cells #[.slice none 0 0, .slice none 0 0] 27 (0, 0))) := ⟨by (with_reducible repeat (first | refine bN ?_ _ | refine bD ?_ | refine bA ?_ _)); refine blk_far ?_ Q1w.out _; (with_reducible repeat (first | refine bN ?_ _ | refine bD ?_ | refine bA ?_ _)); refine blk_far ?_ Q1t.out _; (with_reducible repeat (first | refine bN ?_ _ | refine bD ?_ | refine bA ?_ _)); exact Q05.out⟩
  have n12_ : Aside0 (((w45.setCell ⟨Q03, 1, none⟩ (.slice Q0d t127.length Q0e)).setCell ⟨Q06, 1, none⟩ (.slice Q0f t128.length Q0g)).heap[Q08]? = some (.cells #[.slice Q0p t105.length Q0q, .slice Q0y t108.length Q0u, .slice Q0m t111.length Q0n, .slice Q0z t114.length Q10] 81 (0, 0))) := ⟨by (with_reducible repeat (first | refine bN ?_ _ | refine bD ?_ | refine bA ?_ _)); refine blk_far ?_ Q26.out _; (with_reducible repeat (first | refine bN ?_ _ | refine bD ?_ | refine bA ?_ _)); refine blk_far ?_ Q24.out _; (with_reducible repeat (first | refine bN ?_ _ | refine bD ?_ | refine bA ?_ _)); exact Q02.out⟩
  have n13_ : Aside0 (((w45.setCell ⟨Q03, 1, none⟩ (.slice Q0d t127.length Q0e)).setCell ⟨Q06, 1, none⟩ (.slice Q0f t128.length Q0g)).heap[Q03]? = some (.cells #[.slice Q0i t121.length Q0j, .slice Q0d t127.length Q0e] 27 (0, 0))) := ⟨by (with_reducible repeat (first | refine bN ?_ _ | refine bD ?_ | refine bA ?_ _)); refine blk_far ?_ Q27.out _; (with_reducible repeat (first | refine bN ?_ _ | refine bD ?_ | refine bA ?_ _)); refine blk_put (cs := #[.slice Q0i t121.length Q0j, .slice none 0 0]) ?_ 1 _ rfl; (with_reducible repeat (first | refine bN ?_ _ | refine bD ?_ | refine bA ?_ _)); exact Q07.out⟩
  have n14_ : Aside0 (((w45.setCell ⟨Q03, 1, none⟩ (.slice Q0d t127.length Q0e)).setCell ⟨Q06, 1, none⟩ (.slice Q0f t128.length Q0g)).heap[Q06]? = some (.cells #[.slice Q0k t122.length Q0l, .slice Q0f t128.length Q0g] 27 (0, 0))) := ⟨by (with_reducible repeat (first | refine bN ?_ _ | refine bD ?_ | refine bA ?_ _)); refine blk_put (cs := #[.slice Q0k t122.length Q0l, .slice none 0 0]) ?_ 1 _ rfl; (with_reducible repeat (first | refine bN ?_ _ | refine bD ?_ | refine bA ?_ _)); refine blk_far ?_ Q28.out _; (with_reducible repeat (first | refine bN ?_ _ | refine bD ?_ | refine bA ?_ _)); exact Q0c.out⟩
  have n15_ : Aside0 (Below w.heap.size w ((w45.setCell ⟨Q03, 1, none⟩ (.slice Q0d t127.length Q0e)).setCell ⟨Q06, 1, none⟩ (.slice Q0f t128.length Q0g))) := ⟨pH HB⟩
  (try clear Q0r)
  (try clear Q0s)
  (try clear Q0o)
  (try clear Q0t)
  (try clear Q15)
  (try clear Q16)
  (try clear Q1d)
  (try clear Q1e)
  (try clear Q00)
  (try clear Q01)
  (try clear Q04)
  (try clear Q05)
  (try clear Q02)
  (try clear Q07)
  (try clear Q0c)
  (try clear HB)
  generalize ((w45.setCell ⟨Q03, 1, none⟩ (.slice Q0d t127.length Q0e)).setCell ⟨Q06, 1, none⟩ (.slice Q0f t128.length Q0g)) = w50 at n0_ n1_ n2_ n3_ n4_ n5_ n6_ n7_ n8_ n9_ n10_ n11_ n12_ n13_ n14_ n15_ ⊢
  have Q0r := n0_
  have Q0s := n1_
  have Q0o := n2_
  have Q0t := n3_
  have Q15 := n4_
  have Q16 := n5_
  have Q1d := n6_
  have Q1e := n7_
  have Q00 := n8_
  have Q01 := n9_
  have Q04 := n10_
  have Q05 := n11_
  have Q02 := n12_
  have Q07 := n13_
  have Q0c := n14_
  have HB := n15_
  clear n0_ n1_ n2_ n3_ n4_ n5_ n6_ n7_ n8_ n9_ n10_ n11_ n12_ n13_ n14_ n15_
  replace Q0r := Aside0.mk (rD Q0r.out)
  replace Q0s := Aside0.mk (rD Q0s.out)
  replace Q0o := Aside0.mk (rD Q0o.out)
  replace Q0t := Aside0.mk (rD Q0t.out)
  replace Q15 := Aside0.mk (rD Q15.out)
  replace Q16 := Aside0.mk (rD Q16.out)
  replace Q1d := Aside0.mk (rD Q1d.out)
  replace Q1e := Aside0.mk (rD Q1e.out)
  replace Q00 := Aside0.mk (bD Q00.out)
  replace Q01 := Aside0.mk (bD Q01.out)
  replace Q04 := Aside0.mk (bD Q04.out)
  replace Q05 := Aside0.mk (bD Q05.out)
  replace Q02 := Aside0.mk (bD Q02.out)
  replace Q07 := Aside0.mk (bD Q07.out)
  replace Q0c := Aside0.mk (bD Q0c.out)
  replace HB := Aside0.mk (wD HB.out)
  refine start_ (n := 8) (S := fun w' => w'.cell? ⟨Q08, 0, none⟩ = some (.slice Q0p t105.length Q0q) ∧ w'.cell? ⟨Q08, 1, none⟩ = some (.slice Q0y t108.length Q0u) ∧ w'.cell? ⟨Q08, 2, none⟩ = some (.slice Q0m t111.length Q0n) ∧ w'.cell? ⟨Q08, 3, none⟩ = some (.slice Q0z t114.length Q10) ∧ w'.cell? ⟨Q03, 0, none⟩ = some (.slice Q0i t121.length Q0j) ∧ w'.cell? ⟨Q03, 1, none⟩ = some (.slice Q0d t127.length Q0e) ∧ w'.cell? ⟨Q06, 0, none⟩ = some (.slice Q0k t122.length Q0l) ∧ w'.cell? ⟨Q06, 1, none⟩ = some (.slice Q0f t128.length Q0g)) (ds := []) #[false, false, false, false, false, false, false, false] (by kernel_rfl) rfl rfl ⟨(blk_cell Q02.out 0).trans rfl, (blk_cell Q02.out 1).trans rfl, (blk_cell Q02.out 2).trans rfl, (blk_cell Q02.out 3).trans rfl, (blk_cell Q07.out 0).trans rfl, (blk_cell Q07.out 1).trans rfl, (blk_cell Q0c.out 0).trans rfl, (blk_cell Q0c.out 1).trans rfl⟩ (fun hHeld => ?_); refine with_tabW pullback_Of.tab7 pullback_Of.bits7 (fun HT_ HW_ => ?_)
  generalize w50.drew = w51 at Q0r Q0s Q0o Q0t Q15 Q16 Q1d Q1e Q00 Q01 Q04 Q05 Q02 Q07 Q0c HB hHeld ⊢
  refine pure_ (i := 0) (N := some 37) (v := ?_) (a' := ?_) #[true, false, false, false, false, false, false, false] rfl rfl (any_of HT_.out (by kernel_rfl)) (fun _ _ _ h => h) (Or.inl ⟨by rfl, ?_⟩) ?_ ?_
  rotate_left
  ·intro w'
   go_simp
   with_reducible rfl
  rotate_left
  ·simp only [Act.put, List.setIfInBounds_toArray, List.set_cons_zero, List.set_cons_succ, i64_w, i32_w]
   rfl
  refine take_ (i := 1) (N := some 38) (v := ?_) (a' := ?_) #[true, true, false, false, false, false, false, false] rfl rfl (take_ofW HT_.out HW_.out (by kernel_rfl)) (fun _ _ _ h => h) (Or.inl ⟨by rfl, ?_⟩) hHeld ?_ ?_
  rotate_left
  ·rintro w' ⟨s0, s1, s2, s3, s4, s5, s6, s7⟩
   go_simp
   with_reducible rfl
  rotate_left
  ·simp only [Act.put, List.setIfInBounds_toArray, List.set_cons_zero, List.set_cons_succ, i64_w, i32_w]
   rfl
  refine take_ (i := 2) (N := some 39) (v := ?_) (a' := ?_) #[true, true, true, false, false, false, false, false] rfl rfl (take_ofW HT_.out HW_.out (by kernel_rfl)) (fun _ _ _ h => h) (Or.inl ⟨by rfl, ?_⟩) hHeld ?_ ?_
  rotate_left
  ·rintro w' ⟨s0, s1, s2, s3, s4, s5, s6, s7⟩
   go_simp
   with_reducible rfl
  rotate_left
  ·simp only [Act.put, List.setIfInBounds_toArray, List.set_cons_zero, List.set_cons_succ, i64_w, i32_w]
   rfl
  refine take_ (i := 3) (N := some 40) (v := ?_) (a' := ?_) #[true, true, true, true, false, false, false, false] rfl rfl (take_ofW HT_.out HW_.out (by kernel_rfl)) (fun _ _ _ h => h) (Or.inl ⟨by rfl, ?_⟩) hHeld ?_ ?_
  rotate_left
  ·rintro w' ⟨s0, s1, s2, s3, s4, s5, s6, s7⟩
   go_simp
   with_reducible rfl
  rotate_left
  ·simp only [Act.put, List.setIfInBounds_toArray, List.set_cons_zero, List.set_cons_succ, i64_w, i32_w]
   rfl
  refine one_ (i := 4) (N := none) #[true, true, true, true, true, false, false, false] rfl rfl (one_of HT_.out (by kernel_rfl)) (by decide) (fun K hK => ?_)
  have Q5m : w51.cell? ⟨Q09, 0, none⟩ = some (.slice none 0 0) := (blk_cell Q01.out 0).trans rfl
  have Q5n := blk_frozen Q01.out 0
  have Q5o := Q1l.out
  have Q5p := Q18.out
  have Q5q := Q1a.out
  have Q5r := Q12.out
  have Q5s := Q1f.out
  have Q5t := Q1i.out
  have Q5u := Q1m.out
  have Q5v := Q17.out
  have Q5w := Q19.out
  have Q5x := Q0v.out
  have Q5y := Q1r.out
  have Q5z := Q1u.out
  have Q60 : w51.cell? ⟨Q09, 1, none⟩ = some (.slice none 0 0) := (blk_cell Q01.out 1).trans rfl
  have Q61 := blk_frozen Q01.out 1
  have Q62 := Q1l.out
  have Q63 := Q18.out
  have Q64 := Q1a.out
  have Q65 := Q12.out
  have Q66 := Q1f.out
  have Q67 := Q1i.out
  have Q68 := Q1m.out
  have Q69 := Q17.out
  have Q6a := Q19.out
  have Q6b := Q0v.out
  have Q6c := Q1r.out
  have Q6d := Q1u.out
  refine skip_ (w1 := ?_) (by rfl) rfl ?_ ?_
  rotate_left
  ·go_simp
   rfl
  refine hK.out _ _ ⟨((cell_far (p := ⟨Q09, _, none⟩) Q12.out _).trans (((cell_far (p := ⟨Q09, _, none⟩) Q12.out _).trans (hHeld.1)))), ((cell_far (p := ⟨Q09, _, none⟩) Q12.out _).trans (((cell_far (p := ⟨Q09, _, none⟩) Q12.out _).trans (hHeld.2.1)))), ((cell_far (p := ⟨Q09, _, none⟩) Q12.out _).trans (((cell_far (p := ⟨Q09, _, none⟩) Q12.out _).trans (hHeld.2.2.1)))), ((cell_far (p := ⟨Q09, _, none⟩) Q12.out _).trans (((cell_far (p := ⟨Q09, _, none⟩) Q12.out _).trans (hHeld.2.2.2.1)))), ((cell_far (p := ⟨Q09, _, none⟩) Q1f.out _).trans (((cell_far (p := ⟨Q09, _, none⟩) Q1f.out _).trans (hHeld.2.2.2.2.1)))), ((cell_far (p := ⟨Q09, _, none⟩) Q1f.out _).trans (((cell_far (p := ⟨Q09, _, none⟩) Q1f.out _).trans (hHeld.2.2.2.2.2.1)))), ((cell_far (p := ⟨Q09, _, none⟩) Q1i.out _).trans (((cell_far (p := ⟨Q09, _, none⟩) Q1i.out _).trans (hHeld.2.2.2.2.2.2.1)))), ((cell_far (p := ⟨Q09, _, none⟩) Q1i.out _).trans (((cell_far (p := ⟨Q09, _, none⟩) Q1i.out _).trans (hHeld.2.2.2.2.2.2.2))))⟩ (fun hHeld => ?_)
  clear hK K
  refine one_ (i := 5) (N := none) #[true, true, true, true, true, true, false, false] rfl rfl (one_of HT_.out (by kernel_rfl)) (by decide) (fun K hK => ?_)
  have Q6e : w51.cell? ⟨Q0a, 0, none⟩ = some (.slice none 0 0) := (blk_cell Q04.out 0).trans rfl
  have Q6f := blk_frozen Q04.out 0
  have Q6g := Q1n.out
  have Q6h := Q17.out
  have Q6i := Q1c.out
  have Q6j := Q13.out
  have Q6k := Q1g.out
  have Q6l := Q1j.out
  have Q6m := Q1o.out
  have Q6n := Q18.out
  have Q6o := Q1b.out
  have Q6p := Q0w.out
  have Q6q := Q1s.out
  have Q6r := Q1v.out
  have Q6s : w51.cell? ⟨Q0a, 1, none⟩ = some (.slice none 0 0) := (blk_cell Q04.out 1).trans rfl
  have Q6t := blk_frozen Q04.out 1
  have Q6u := Q1n.out
  have Q6v := Q17.out
  have Q6w := Q1c.out
  have Q6x := Q13.out
  have Q6y := Q1g.out
  have Q6z := Q1j.out
  have Q70 := Q1o.out
  have Q71 := Q18.out
  have Q72 := Q1b.out
  have Q73 := Q0w.out
  have Q74 := Q1s.out
  have Q75 := Q1v.out
  refine skip_ (w1 := ?_) (by rfl) rfl ?_ ?_
  rotate_left
  ·go_simp
   rfl
  refine hK.out _ _ ⟨((cell_far (p := ⟨Q0a, _, none⟩) Q13.out _).trans (((cell_far (p := ⟨Q0a, _, none⟩) Q13.out _).trans (hHeld.1)))), ((cell_far (p := ⟨Q0a, _, none⟩) Q13.out _).trans (((cell_far (p := ⟨Q0a, _, none⟩) Q13.out _).trans (hHeld.2.1)))), ((cell_far (p := ⟨Q0a, _, none⟩) Q13.out _).trans (((cell_far (p := ⟨Q0a, _, none⟩) Q13.out _).trans (hHeld.2.2.1)))), ((cell_far (p := ⟨Q0a, _, none⟩) Q13.out _).trans (((cell_far (p := ⟨Q0a, _, none⟩) Q13.out _).trans (hHeld.2.2.2.1)))), ((cell_far (p := ⟨Q0a, _, none⟩) Q1g.out _).trans (((cell_far (p := ⟨Q0a, _, none⟩) Q1g.out _).trans (hHeld.2.2.2.2.1)))), ((cell_far (p := ⟨Q0a, _, none⟩) Q1g.out _).trans (((cell_far (p := ⟨Q0a, _, none⟩) Q1g.out _).trans (hHeld.2.2.2.2.2.1)))), ((cell_far (p := ⟨Q0a, _, none⟩) Q1j.out _).trans (((cell_far (p := ⟨Q0a, _, none⟩) Q1j.out _).trans (hHeld.2.2.2.2.2.2.1)))), ((cell_far (p := ⟨Q0a, _, none⟩) Q1j.out _).trans (((cell_far (p := ⟨Q0a, _, none⟩) Q1j.out _).trans (hHeld.2.2.2.2.2.2.2))))⟩ (fun hHeld => ?_)
  clear hK K
  refine one_ (i := 6) (N := none) #[true, true, true, true, true, true, true, false] rfl rfl (one_of HT_.out (by kernel_rfl)) (by decide) (fun K hK => ?_)
  have Q76 : w51.cell? ⟨Q0b, 0, none⟩ = some (.slice none 0 0) := (blk_cell Q05.out 0).trans rfl
  have Q77 := blk_frozen Q05.out 0
  have Q78 := Q1p.out
  have Q79 := Q19.out
  have Q7a := Q1b.out
  have Q7b := Q14.out
  have Q7c := Q1h.out
  have Q7d := Q1k.out
  have Q7e := Q1q.out
  have Q7f := Q1a.out
  have Q7g := Q1c.out
  have Q7h := Q0x.out
  have Q7i := Q1t.out
  have Q7j := Q1w.out
  have Q7k : w51.cell? ⟨Q0b, 1, none⟩ = some (.slice none 0 0) := (blk_cell Q05.out 1).trans rfl
  have Q7l := blk_frozen Q05.out 1
  have Q7m := Q1p.out
  have Q7n := Q19.out
  have Q7o := Q1b.out
  have Q7p := Q14.out
  have Q7q := Q1h.out
  have Q7r := Q1k.out
  have Q7s := Q1q.out
  have Q7t := Q1a.out
  have Q7u := Q1c.out
  have Q7v := Q0x.out
  have Q7w := Q1t.out
  have Q7x := Q1w.out
  refine skip_ (w1 := ?_) (by rfl) rfl ?_ ?_
  rotate_left
  ·go_simp
   rfl
  refine hK.out _ _ ⟨((cell_far (p := ⟨Q0b, _, none⟩) Q14.out _).trans (((cell_far (p := ⟨Q0b, _, none⟩) Q14.out _).trans (hHeld.1)))), ((cell_far (p := ⟨Q0b, _, none⟩) Q14.out _).trans (((cell_far (p := ⟨Q0b, _, none⟩) Q14.out _).trans (hHeld.2.1)))), ((cell_far (p := ⟨Q0b, _, none⟩) Q14.out _).trans (((cell_far (p := ⟨Q0b, _, none⟩) Q14.out _).trans (hHeld.2.2.1)))), ((cell_far (p := ⟨Q0b, _, none⟩) Q14.out _).trans (((cell_far (p := ⟨Q0b, _, none⟩) Q14.out _).trans (hHeld.2.2.2.1)))), ((cell_far (p := ⟨Q0b, _, none⟩) Q1h.out _).trans (((cell_far (p := ⟨Q0b, _, none⟩) Q1h.out _).trans (hHeld.2.2.2.2.1)))), ((cell_far (p := ⟨Q0b, _, none⟩) Q1h.out _).trans (((cell_far (p := ⟨Q0b, _, none⟩) Q1h.out _).trans (hHeld.2.2.2.2.2.1)))), ((cell_far (p := ⟨Q0b, _, none⟩) Q1k.out _).trans (((cell_far (p := ⟨Q0b, _, none⟩) Q1k.out _).trans (hHeld.2.2.2.2.2.2.1)))), ((cell_far (p := ⟨Q0b, _, none⟩) Q1k.out _).trans (((cell_far (p := ⟨Q0b, _, none⟩) Q1k.out _).trans (hHeld.2.2.2.2.2.2.2))))⟩ (fun hHeld => ?_)
  clear hK K
  refine pure_ (i := 7) (N := some 5) (v := ?_) (a' := ?_) #[true, true, true, true, true, true, true, true] rfl rfl (any_of HT_.out (by kernel_rfl)) (fun _ _ _ h => h) (Or.inl ⟨by rfl, ?_⟩) ?_ ?_
  rotate_left
  ·intro w'
   go_simp
   with_reducible rfl
  rotate_left
  ·simp only [Act.put, List.setIfInBounds_toArray, List.set_cons_zero, List.set_cons_succ, i64_w, i32_w]
   rfl
  refine done_ (done_of HT_.out (by kernel_rfl)) ?_
  try go_wp2
  refine bodyPost_ret (results_list (rs := [.cell 2 25, .cell 3 27, .cell 4 27, .tmp 5]) rfl (by simp) (.cell Q09 25 #[.slice Q0m t111.length Q0n, .slice Q0z t114.length Q10] (0, 0) _ rfl (by (with_reducible repeat (first | refine bN ?_ _ | refine bD ?_ | refine bA ?_ _)); refine blk_far ?_ Q19.out _; (with_reducible repeat (first | refine bN ?_ _ | refine bD ?_ | refine bA ?_ _)); refine blk_far ?_ Q19.out _; (with_reducible repeat (first | refine bN ?_ _ | refine bD ?_ | refine bA ?_ _)); refine blk_far ?_ Q17.out _; (with_reducible repeat (first | refine bN ?_ _ | refine bD ?_ | refine bA ?_ _)); refine blk_far ?_ Q17.out _; (with_reducible repeat (first | refine bN ?_ _ | refine bD ?_ | refine bA ?_ _)); refine blk_put (cs := #[.slice Q0m t111.length Q0n, .slice none 0 0]) ?_ 1 _ rfl; (with_reducible repeat (first | refine bN ?_ _ | refine bD ?_ | refine bA ?_ _)); refine blk_put (cs := #[.slice none 0 0, .slice none 0 0]) ?_ 0 _ rfl; (with_reducible repeat (first | refine bN ?_ _ | refine bD ?_ | refine bA ?_ _)); exact Q01.out) Try.underlying25 rfl (by kernel_rfl) (.cell Q0a 27 #[.slice Q0i t121.length Q0j, .slice Q0d t127.length Q0e] (0, 0) _ rfl (by (with_reducible repeat (first | refine bN ?_ _ | refine bD ?_ | refine bA ?_ _)); refine blk_far ?_ Q1b.out _; (with_reducible repeat (first | refine bN ?_ _ | refine bD ?_ | refine bA ?_ _)); refine blk_far ?_ Q1b.out _; (with_reducible repeat (first | refine bN ?_ _ | refine bD ?_ | refine bA ?_ _)); refine blk_put (cs := #[.slice Q0i t121.length Q0j, .slice none 0 0]) ?_ 1 _ rfl; (with_reducible repeat (first | refine bN ?_ _ | refine bD ?_ | refine bA ?_ _)); refine blk_put (cs := #[.slice none 0 0, .slice none 0 0]) ?_ 0 _ rfl; (with_reducible repeat (first | refine bN ?_ _ | refine bD ?_ | refine bA ?_ _)); refine blk_far ?_ Q18.out _; (with_reducible repeat (first | refine bN ?_ _ | refine bD ?_ | refine bA ?_ _)); refine blk_far ?_ Q18.out _; (with_reducible repeat (first | refine bN ?_ _ | refine bD ?_ | refine bA ?_ _)); exact Q04.out) Try.underlying27 rfl (by kernel_rfl) (.cell Q0b 27 #[.slice Q0k t122.length Q0l, .slice Q0f t128.length Q0g] (0, 0) _ rfl (by (with_reducible repeat (first | refine bN ?_ _ | refine bD ?_ | refine bA ?_ _)); refine blk_put (cs := #[.slice Q0k t122.length Q0l, .slice none 0 0]) ?_ 1 _ rfl; (with_reducible repeat (first | refine bN ?_ _ | refine bD ?_ | refine bA ?_ _)); refine blk_put (cs := #[.slice none 0 0, .slice none 0 0]) ?_ 0 _ rfl; (with_reducible repeat (first | refine bN ?_ _ | refine bD ?_ | refine bA ?_ _)); refine blk_far ?_ Q1c.out _; (with_reducible repeat (first | refine bN ?_ _ | refine bD ?_ | refine bA ?_ _)); refine blk_far ?_ Q1c.out _; (with_reducible repeat (first | refine bN ?_ _ | refine bD ?_ | refine bA ?_ _)); refine blk_far ?_ Q1a.out _; (with_reducible repeat (first | refine bN ?_ _ | refine bD ?_ | refine bA ?_ _)); refine blk_far ?_ Q1a.out _; (with_reducible repeat (first | refine bN ?_ _ | refine bD ?_ | refine bA ?_ _)); exact Q05.out) Try.underlying27 rfl (by kernel_rfl) (.tmp .nil))))) rfl ?_
  exact ⟨_, _, _, _, _, _, by first | rfl | (simp [errW_none, errW_some] <;> rfl) | (simp [*, errW_none, errW_some] <;> rfl), by (with_reducible repeat (first | apply rA | apply rN | apply rD)); exact Kd.R_mono (Kd.R_far (p := ⟨Q0b, 1, none⟩) (Kd.R_far (p := ⟨Q0b, 0, none⟩) (Kd.R_far (p := ⟨Q0a, 1, none⟩) (Kd.R_far (p := ⟨Q0a, 0, none⟩) (Kd.R_far (p := ⟨Q09, 1, none⟩) (Kd.R_far (p := ⟨Q09, 0, none⟩) (Kd.R_types (Kd.R_types (Kd.R_types Q0o.out Q01.out (by decide)) Q04.out (by decide)) Q05.out (by decide)) (fun _ hk => hk.1.1.2) (.slice Q0m t111.length Q0n)) (fun _ hk => hk.1.1.2) (.slice Q0z t114.length Q10)) (fun _ hk => hk.1.2) (.slice Q0i t121.length Q0j)) (fun _ hk => hk.1.2) (.slice Q0d t127.length Q0e)) (fun _ hk => hk.2) (.slice Q0k t122.length Q0l)) (fun _ hk => hk.2) (.slice Q0f t128.length Q0g)) (fun _ hk => ⟨hk.1.1.1.1, ⟨hk.1.1.1.2.2.1, ⟨hk.1.1.1.2.1, hk.1.1.1.2.2.2⟩⟩⟩), by (with_reducible repeat (first | apply rA | apply rN | apply rD)); exact Kd.R_mono (Kd.R_far (p := ⟨Q0b, 1, none⟩) (Kd.R_far (p := ⟨Q0b, 0, none⟩) (Kd.R_far (p := ⟨Q0a, 1, none⟩) (Kd.R_far (p := ⟨Q0a, 0, none⟩) (Kd.R_far (p := ⟨Q09, 1, none⟩) (Kd.R_far (p := ⟨Q09, 0, none⟩) (Kd.R_types (Kd.R_types (Kd.R_types Q0t.out Q01.out (by decide)) Q04.out (by decide)) Q05.out (by decide)) (fun _ hk => hk.1.1.2) (.slice Q0m t111.length Q0n)) (fun _ hk => hk.1.1.2) (.slice Q0z t114.length Q10)) (fun _ hk => hk.1.2) (.slice Q0i t121.length Q0j)) (fun _ hk => hk.1.2) (.slice Q0d t127.length Q0e)) (fun _ hk => hk.2) (.slice Q0k t122.length Q0l)) (fun _ hk => hk.2) (.slice Q0f t128.length Q0g)) (fun _ hk => trivial), by (with_reducible repeat (first | apply rA | apply rN | apply rD)); exact Kd.R_mono (Kd.R_far (p := ⟨Q0b, 1, none⟩) (Kd.R_far (p := ⟨Q0b, 0, none⟩) (Kd.R_far (p := ⟨Q0a, 1, none⟩) (Kd.R_far (p := ⟨Q0a, 0, none⟩) (Kd.R_far (p := ⟨Q09, 1, none⟩) (Kd.R_far (p := ⟨Q09, 0, none⟩) (Kd.R_types (Kd.R_types (Kd.R_types Q15.out Q01.out (by decide)) Q04.out (by decide)) Q05.out (by decide)) (fun _ hk => hk.1.1.2) (.slice Q0m t111.length Q0n)) (fun _ hk => hk.1.1.2) (.slice Q0z t114.length Q10)) (fun _ hk => hk.1.2) (.slice Q0i t121.length Q0j)) (fun _ hk => hk.1.2) (.slice Q0d t127.length Q0e)) (fun _ hk => hk.2) (.slice Q0k t122.length Q0l)) (fun _ hk => hk.2) (.slice Q0f t128.length Q0g)) (fun _ hk => ⟨hk.1.1.1.1, ⟨hk.1.1.1.2.2.1, ⟨hk.1.1.1.2.1, hk.1.1.1.2.2.2⟩⟩⟩), by (with_reducible repeat (first | apply rA | apply rN | apply rD)); exact Kd.R_mono (Kd.R_far (p := ⟨Q0b, 1, none⟩) (Kd.R_far (p := ⟨Q0b, 0, none⟩) (Kd.R_far (p := ⟨Q0a, 1, none⟩) (Kd.R_far (p := ⟨Q0a, 0, none⟩) (Kd.R_far (p := ⟨Q09, 1, none⟩) (Kd.R_far (p := ⟨Q09, 0, none⟩) (Kd.R_types (Kd.R_types (Kd.R_types Q1d.out Q01.out (by decide)) Q04.out (by decide)) Q05.out (by decide)) (fun _ hk => hk.1.1.2) (.slice Q0m t111.length Q0n)) (fun _ hk => hk.1.1.2) (.slice Q0z t114.length Q10)) (fun _ hk => hk.1.2) (.slice Q0i t121.length Q0j)) (fun _ hk => hk.1.2) (.slice Q0d t127.length Q0e)) (fun _ hk => hk.2) (.slice Q0k t122.length Q0l)) (fun _ hk => hk.2) (.slice Q0f t128.length Q0g)) (fun _ hk => ⟨hk.1.1.1.1, ⟨hk.1.1.1.2.1, ⟨hk.1.1.1.2.2.1, hk.1.1.1.2.2.2⟩⟩⟩), by (with_reducible repeat (first | apply rA | apply rN | apply rD)); exact Kd.R_mono (Kd.R_far (p := ⟨Q0b, 1, none⟩) (Kd.R_far (p := ⟨Q0b, 0, none⟩) (Kd.R_far (p := ⟨Q0a, 1, none⟩) (Kd.R_far (p := ⟨Q0a, 0, none⟩) (Kd.R_far (p := ⟨Q09, 1, none⟩) (Kd.R_far (p := ⟨Q09, 0, none⟩) (Kd.R_types (Kd.R_types (Kd.R_types Q16.out Q01.out (by decide)) Q04.out (by decide)) Q05.out (by decide)) (fun _ hk => hk.1.1.2) (.slice Q0m t111.length Q0n)) (fun _ hk => hk.1.1.2) (.slice Q0z t114.length Q10)) (fun _ hk => hk.1.2) (.slice Q0i t121.length Q0j)) (fun _ hk => hk.1.2) (.slice Q0d t127.length Q0e)) (fun _ hk => hk.2) (.slice Q0k t122.length Q0l)) (fun _ hk => hk.2) (.slice Q0f t128.length Q0g)) (fun _ hk => ⟨hk.1.1.1.1, ⟨hk.1.1.1.2.1, ⟨hk.1.1.1.2.2.1, hk.1.1.1.2.2.2⟩⟩⟩), by (with_reducible repeat (first | apply rA | apply rN | apply rD)); exact Kd.R_mono (Kd.R_far (p := ⟨Q0b, 1, none⟩) (Kd.R_far (p := ⟨Q0b, 0, none⟩) (Kd.R_far (p := ⟨Q0a, 1, none⟩) (Kd.R_far (p := ⟨Q0a, 0, none⟩) (Kd.R_far (p := ⟨Q09, 1, none⟩) (Kd.R_far (p := ⟨Q09, 0, none⟩) (Kd.R_types (Kd.R_types (Kd.R_types Q1e.out Q01.out (by decide)) Q04.out (by decide)) Q05.out (by decide)) (fun _ hk => hk.1.1.2) (.slice Q0m t111.length Q0n)) (fun _ hk => hk.1.1.2) (.slice Q0z t114.length Q10)) (fun _ hk => hk.1.2) (.slice Q0i t121.length Q0j)) (fun _ hk => hk.1.2) (.slice Q0d t127.length Q0e)) (fun _ hk => hk.2) (.slice Q0k t122.length Q0l)) (fun _ hk => hk.2) (.slice Q0f t128.length Q0g)) (fun _ hk => ⟨hk.1.1.1.1, ⟨hk.1.1.1.2.1, ⟨hk.1.1.1.2.2.2, hk.1.1.1.2.2.1⟩⟩⟩), by repeat (first | (with_reducible first | exact HB.out | apply wA | apply wN | apply wD | refine below_set ?_ Q1x.out | refine below_set ?_ Q1y.out | refine below_set ?_ Q1z.out | refine below_set ?_ Q20.out | refine below_set ?_ Q21.out | refine below_set ?_ Q2i.out | refine below_set ?_ Q2l.out) | exact HB.out)⟩
 ·rw [if_neg c3] at H
  have c3b0 : (t117 == 0) = false := beq_eq_false_iff_ne.mpr c3
  have c3b1 : (t117 != 0) = true := bne_iff_ne.mpr c3
  simp only [Option.some.injEq, Prod.mk.injEq] at H
  obtain ⟨rfl, rfl, rfl, rfl, rfl, rfl, rfl⟩ := H
  go_enter Try.func20, Try.ntmps20
  go_wp2_with (first | ((with_reducible refine gate_dst (N := 1) rfl ?_); refine box_event ?hg (N := 1) ?hd (cs := #[.slice A0_0 l0_0.length c0_0, .slice A0_1 l0_1.length c0_1, .slice A0_2 l0_2.length c0_2, .slice A0_3 l0_3.length c0_3, .slice A0_4 l0_4.length c0_4, .slice A0_5 l0_5.length c0_5, .slice A0_6 l0_6.length c0_6, .slice A0_7 l0_7.length c0_7, .slice A0_8 l0_8.length c0_8, .slice A0_9 l0_9.length c0_9]) (t := 29) ?hr ?_; (case hd => rfl); (case hg => rfl); (case hr => first | (go_simp; done) | (go_simp; rfl)); intro Q0h hg w58 hbox hb; have Q00 := Aside0.mk (hbox); have Q29 := Aside0.mk ((by rw [hg]; exact (below_size hB) : w.heap.size ≤ Q0h)); have Q1x := Aside0.mk ((by rw [hg]; exact (below_size hB) : w.heap.size ≤ Q0h)); replace HB := uH HB hb; clear hb hbox hg) | ((with_reducible refine gate_dst (N := 2) rfl ?_); refine box_event ?hg (N := 2) ?hd (cs := #[.slice none 0 0, .slice none 0 0]) (t := 25) ?hr ?_; (case hd => rfl); (case hg => rfl); (case hr => first | (go_simp; done) | (go_simp; rfl)); intro Q09 hg w59 hbox hb; have Q01 := Aside0.mk (hbox); have Q2a := uS HB hg; have Q1y := uS HB hg; replace HB := uH HB hb; have Q1l := uL Q00 hg; have Q1m := uG Q00 hg; replace Q00 := uB Q00 hb; clear hb hbox hg) | ((with_reducible refine gate_dst (N := 3) rfl ?_); refine box_event ?hg (N := 3) ?hd (cs := #[.slice none 0 0, .slice none 0 0]) (t := 27) ?hr ?_; (case hd => rfl); (case hg => rfl); (case hr => first | (go_simp; done) | (go_simp; rfl)); intro Q0a hg w60 hbox hb; have Q04 := Aside0.mk (hbox); have Q2b := uS HB hg; have Q1z := uS HB hg; replace HB := uH HB hb; have Q1n := uL Q00 hg; have Q1o := uG Q00 hg; replace Q00 := uB Q00 hb; have Q17 := uL Q01 hg; have Q18 := uG Q01 hg; replace Q01 := uB Q01 hb; clear hb hbox hg) | ((with_reducible refine gate_dst (N := 4) rfl ?_); refine box_event ?hg (N := 4) ?hd (cs := #[.slice none 0 0, .slice none 0 0]) (t := 27) ?hr ?_; (case hd => rfl); (case hg => rfl); (case hr => first | (go_simp; done) | (go_simp; rfl)); intro Q0b hg w61 hbox hb; have Q05 := Aside0.mk (hbox); have Q2c := uS HB hg; have Q20 := uS HB hg; replace HB := uH HB hb; have Q1p := uL Q00 hg; have Q1q := uG Q00 hg; replace Q00 := uB Q00 hb; have Q19 := uL Q01 hg; have Q1a := uG Q01 hg; replace Q01 := uB Q01 hb; have Q1b := uL Q04 hg; have Q1c := uG Q04 hg; replace Q04 := uB Q04 hb; clear hb hbox hg; have Q7y := Q1l.out; have Q7z := Q1m.out; have Q80 := Q1n.out; have Q81 := Q1o.out; have Q82 := Q1p.out; have Q83 := Q1q.out; have Q84 : w61.cell? ⟨Q0h, 0, none⟩ = some (.slice A0_0 l0_0.length c0_0) := (blk_cell Q00.out 0).trans rfl; have Q85 : w61.cell? ⟨Q0h, 1, none⟩ = some (.slice A0_1 l0_1.length c0_1) := (blk_cell Q00.out 1).trans rfl; have Q86 : w61.cell? ⟨Q0h, 2, none⟩ = some (.slice A0_2 l0_2.length c0_2) := (blk_cell Q00.out 2).trans rfl; have Q87 : w61.cell? ⟨Q0h, 3, none⟩ = some (.slice A0_3 l0_3.length c0_3) := (blk_cell Q00.out 3).trans rfl; have Q88 : w61.cell? ⟨Q0h, 4, none⟩ = some (.slice A0_4 l0_4.length c0_4) := (blk_cell Q00.out 4).trans rfl; have Q89 : w61.cell? ⟨Q0h, 5, none⟩ = some (.slice A0_5 l0_5.length c0_5) := (blk_cell Q00.out 5).trans rfl; have Q8a : w61.cell? ⟨Q0h, 6, none⟩ = some (.slice A0_6 l0_6.length c0_6) := (blk_cell Q00.out 6).trans rfl; have Q8b : w61.cell? ⟨Q0h, 7, none⟩ = some (.slice A0_7 l0_7.length c0_7) := (blk_cell Q00.out 7).trans rfl; have Q8c : w61.cell? ⟨Q0h, 8, none⟩ = some (.slice A0_8 l0_8.length c0_8) := (blk_cell Q00.out 8).trans rfl; have Q8d : w61.cell? ⟨Q0h, 9, none⟩ = some (.slice A0_9 l0_9.length c0_9) := (blk_cell Q00.out 9).trans rfl; have Q8e := blk_frozen Q00.out 0; have Q8f := blk_frozen Q00.out 1; have Q8g := blk_frozen Q00.out 2; have Q8h := blk_frozen Q00.out 3; have Q8i := blk_frozen Q00.out 4; have Q8j := blk_frozen Q00.out 5; have Q8k := blk_frozen Q00.out 6; have Q8l := blk_frozen Q00.out 7; have Q8m := blk_frozen Q00.out 8; have Q8n := blk_frozen Q00.out 9) | ((with_reducible refine gate_callee (f := 41) rfl ?_); refine goesL_ (some 12) rfl rfl Try.func41 (by kernel_rfl) rfl #[.agg #[.slice A0_0 l0_0.length c0_0, .slice A0_1 l0_1.length c0_1, .slice A0_2 l0_2.length c0_2, .slice A0_3 l0_3.length c0_3, .slice A0_4 l0_4.length c0_4, .slice A0_5 l0_5.length c0_5, .slice A0_6 l0_6.length c0_6, .slice A0_7 l0_7.length c0_7, .slice A0_8 l0_8.length c0_8, .slice A0_9 l0_9.length c0_9]] rfl aM ?_; (with_reducible refine (pullback_of.calls k _ _ l0_0 _ _ l0_1 _ _ l0_2 _ _ l0_3 _ _ l0_4 _ _ l0_5 _ _ l0_6 _ _ l0_7 _ _ l0_8 _ _ l0_9 t105 t108 t111 t114 t117 _ ?side1 ?side2 ?side3 ?side4 ?side5 ?side6 ?side7 ?side8 ?side9 ?side10 ?side11 ?side12 ?side13 ?side14 ?side15 ?side16 ?side17 ?side18 ?side19 ?side20 A2.out).mono ?_); (case side1 => repeat (first | exact (cB HR0_0.out HB.out) | (with_reducible refine cA ?_ _) | (with_reducible refine cN ?_ _) | (with_reducible refine cD ?_))); (case side2 => exact HC0_0.out); (case side3 => repeat (first | exact (cB HR0_1.out HB.out) | (with_reducible refine cA ?_ _) | (with_reducible refine cN ?_ _) | (with_reducible refine cD ?_))); (case side4 => exact HC0_1.out); (case side5 => repeat (first | exact (cB HR0_2.out HB.out) | (with_reducible refine cA ?_ _) | (with_reducible refine cN ?_ _) | (with_reducible refine cD ?_))); (case side6 => exact HC0_2.out); (case side7 => repeat (first | exact (cB HR0_3.out HB.out) | (with_reducible refine cA ?_ _) | (with_reducible refine cN ?_ _) | (with_reducible refine cD ?_))); (case side8 => exact HC0_3.out); (case side9 => repeat (first | exact (cB HR0_4.out HB.out) | (with_reducible refine cA ?_ _) | (with_reducible refine cN ?_ _) | (with_reducible refine cD ?_))); (case side10 => exact HC0_4.out); (case side11 => repeat (first | exact (cB HR0_5.out HB.out) | (with_reducible refine cA ?_ _) | (with_reducible refine cN ?_ _) | (with_reducible refine cD ?_))); (case side12 => exact HC0_5.out); (case side13 => repeat (first | exact (cB HR0_6.out HB.out) | (with_reducible refine cA ?_ _) | (with_reducible refine cN ?_ _) | (with_reducible refine cD ?_))); (case side14 => exact HC0_6.out); (case side15 => repeat (first | exact (cB HR0_7.out HB.out) | (with_reducible refine cA ?_ _) | (with_reducible refine cN ?_ _) | (with_reducible refine cD ?_))); (case side16 => exact HC0_7.out); (case side17 => repeat (first | exact (cB HR0_8.out HB.out) | (with_reducible refine cA ?_ _) | (with_reducible refine cN ?_ _) | (with_reducible refine cD ?_))); (case side18 => exact HC0_8.out); (case side19 => repeat (first | exact (cB HR0_9.out HB.out) | (with_reducible refine cA ?_ _) | (with_reducible refine cN ?_ _) | (with_reducible refine cD ?_))); (case side20 => exact HC0_9.out); rintro e w66 ⟨v106, v109, v112, v115, rfl, ho0, ho1, ho2, ho3, hb⟩; refine ⟨_, rfl, ?_⟩; have Q0r := Aside0.mk (Kd.R_lower ho0 (below_size (pH HB))); have Q0s := Aside0.mk (Kd.R_lower ho1 (below_size (pH HB))); have Q0o := Aside0.mk (Kd.R_lower ho2 (below_size (pH HB))); have Q0t := Aside0.mk (Kd.R_lower ho3 (below_size (pH HB))); replace Q00 := uB Q00 hb; replace Q01 := uB Q01 hb; replace Q04 := uB Q04 hb; replace Q05 := uB Q05 hb; replace HB := uH HB hb; (try clear hb); (try clear hb2); (try clear hk); (try clear hi); (try clear ho0); (try clear ho1); (try clear ho2); (try clear ho3)) | ((with_reducible refine gate_dst (N := 6) rfl ?_); refine box_event ?hg (N := 6) ?hd (cs := #[.slice none 0 0, .slice none 0 0, .slice none 0 0, .slice none 0 0]) (t := 81) ?hr ?_; (case hd => rfl); (case hg => rfl); (case hr => first | (go_simp; done) | (go_simp; rfl)); intro Q08 hg w67 hbox hb; replace Q0r := uR Q0r hb; replace Q0s := uR Q0s hb; replace Q0o := uR Q0o hb; replace Q0t := uR Q0t hb; have Q02 := Aside0.mk (hbox); have Q2d := uS HB hg; have Q21 := uS HB hg; replace HB := uH HB hb; have Q11 := uL Q00 hg; have Q22 := uG Q00 hg; replace Q00 := uB Q00 hb; have Q0v := uL Q01 hg; have Q12 := uG Q01 hg; replace Q01 := uB Q01 hb; have Q0w := uL Q04 hg; have Q13 := uG Q04 hg; replace Q04 := uB Q04 hb; have Q0x := uL Q05 hg; have Q14 := uG Q05 hg; replace Q05 := uB Q05 hb; clear hb hbox hg; obtain ⟨Q8o, Q8p, Q2s⟩ := Kd.R_slice Q0r.out; subst Q2s; have Q8q := Q22.out; have Q8r := Q11.out; have Q8s := Q12.out; have Q8t := Q0v.out; have Q8u := Q13.out; have Q8v := Q0w.out; have Q8w := Q14.out; have Q8x := Q0x.out; have Q8y : w67.cell? ⟨Q08, 0, none⟩ = some (.slice none 0 0) := (blk_cell Q02.out 0).trans rfl; have Q8z : w67.cell? ⟨Q08, 1, none⟩ = some (.slice none 0 0) := (blk_cell Q02.out 1).trans rfl; have Q90 : w67.cell? ⟨Q08, 2, none⟩ = some (.slice none 0 0) := (blk_cell Q02.out 2).trans rfl; have Q91 : w67.cell? ⟨Q08, 3, none⟩ = some (.slice none 0 0) := (blk_cell Q02.out 3).trans rfl; have Q92 := blk_frozen Q02.out 0; have Q93 := blk_frozen Q02.out 1; have Q94 := blk_frozen Q02.out 2; have Q95 := blk_frozen Q02.out 3; obtain ⟨Q96, Q97, Q2t⟩ := Kd.R_slice Q0s.out; subst Q2t; obtain ⟨Q98, Q99, Q2u⟩ := Kd.R_slice Q0o.out; subst Q2u; obtain ⟨Q9a, Q9b, Q2v⟩ := Kd.R_slice Q0t.out; subst Q2v; have Q9c := Q17.out; have Q9d := Q18.out; have Q9e := Q19.out; have Q9f := Q1a.out; have Q9g : w67.cell? ⟨Q09, 0, none⟩ = some (.slice none 0 0) := (blk_cell Q01.out 0).trans rfl; have Q9h : w67.cell? ⟨Q09, 1, none⟩ = some (.slice none 0 0) := (blk_cell Q01.out 1).trans rfl; have Q9i := blk_frozen Q01.out 0; have Q9j := blk_frozen Q01.out 1; have Q9k := Q1b.out; have Q9l := Q1c.out; have Q9m : w67.cell? ⟨Q0a, 0, none⟩ = some (.slice none 0 0) := (blk_cell Q04.out 0).trans rfl; have Q9n : w67.cell? ⟨Q0a, 1, none⟩ = some (.slice none 0 0) := (blk_cell Q04.out 1).trans rfl; have Q9o := blk_frozen Q04.out 0; have Q9p := blk_frozen Q04.out 1; have Q9q : w67.cell? ⟨Q0b, 0, none⟩ = some (.slice none 0 0) := (blk_cell Q05.out 0).trans rfl; have Q9r : w67.cell? ⟨Q0b, 1, none⟩ = some (.slice none 0 0) := (blk_cell Q05.out 1).trans rfl; have Q9s := blk_frozen Q05.out 0; have Q9t := blk_frozen Q05.out 1))
  refine bodyPost_ret (results_list (rs := [.cell 2 25, .cell 3 27, .cell 4 27, .tmp 5]) rfl (by simp) (.cell Q09 25 #[.slice none 0 0, .slice none 0 0] (0, 0) _ rfl (by (with_reducible repeat (first | refine bN ?_ _ | refine bD ?_ | refine bA ?_ _)); refine blk_far ?_ Q19.out _; (with_reducible repeat (first | refine bN ?_ _ | refine bD ?_ | refine bA ?_ _)); refine blk_far ?_ Q19.out _; (with_reducible repeat (first | refine bN ?_ _ | refine bD ?_ | refine bA ?_ _)); refine blk_far ?_ Q17.out _; (with_reducible repeat (first | refine bN ?_ _ | refine bD ?_ | refine bA ?_ _)); refine blk_far ?_ Q17.out _; (with_reducible repeat (first | refine bN ?_ _ | refine bD ?_ | refine bA ?_ _)); refine blk_put (cs := #[.slice none 0 0, .slice none 0 0]) ?_ 1 _ rfl; (with_reducible repeat (first | refine bN ?_ _ | refine bD ?_ | refine bA ?_ _)); refine blk_put (cs := #[.slice none 0 0, .slice none 0 0]) ?_ 0 _ rfl; (with_reducible repeat (first | refine bN ?_ _ | refine bD ?_ | refine bA ?_ _)); refine blk_far ?_ Q0v.out _; (with_reducible repeat (first | refine bN ?_ _ | refine bD ?_ | refine bA ?_ _)); refine blk_far ?_ Q0v.out _; (with_reducible repeat (first | refine bN ?_ _ | refine bD ?_ | refine bA ?_ _)); refine blk_far ?_ Q0v.out _; (with_reducible repeat (first | refine bN ?_ _ | refine bD ?_ | refine bA ?_ _)); refine blk_far ?_ Q0v.out _; (with_reducible repeat (first | refine bN ?_ _ | refine bD ?_ | refine bA ?_ _)); exact Q01.out) Try.underlying25 rfl (by kernel_rfl) (.cell Q0a 27 #[.slice none 0 0, .slice none 0 0] (0, 0) _ rfl (by (with_reducible repeat (first | refine bN ?_ _ | refine bD ?_ | refine bA ?_ _)); refine blk_far ?_ Q1b.out _; (with_reducible repeat (first | refine bN ?_ _ | refine bD ?_ | refine bA ?_ _)); refine blk_far ?_ Q1b.out _; (with_reducible repeat (first | refine bN ?_ _ | refine bD ?_ | refine bA ?_ _)); refine blk_put (cs := #[.slice none 0 0, .slice none 0 0]) ?_ 1 _ rfl; (with_reducible repeat (first | refine bN ?_ _ | refine bD ?_ | refine bA ?_ _)); refine blk_put (cs := #[.slice none 0 0, .slice none 0 0]) ?_ 0 _ rfl; (with_reducible repeat (first | refine bN ?_ _ | refine bD ?_ | refine bA ?_ _)); refine blk_far ?_ Q18.out _; (with_reducible repeat (first | refine bN ?_ _ | refine bD ?_ | refine bA ?_ _)); refine blk_far ?_ Q18.out _; (with_reducible repeat (first | refine bN ?_ _ | refine bD ?_ | refine bA ?_ _)); refine blk_far ?_ Q0w.out _; (with_reducible repeat (first | refine bN ?_ _ | refine bD ?_ | refine bA ?_ _)); refine blk_far ?_ Q0w.out _; (with_reducible repeat (first | refine bN ?_ _ | refine bD ?_ | refine bA ?_ _)); refine blk_far ?_ Q0w.out _; (with_reducible repeat (first | refine bN ?_ _ | refine bD ?_ | refine bA ?_ _)); refine blk_far ?_ Q0w.out _; (with_reducible repeat (first | refine bN ?_ _ | refine bD ?_ | refine bA ?_ _)); exact Q04.out) Try.underlying27 rfl (by kernel_rfl) (.cell Q0b 27 #[.slice none 0 0, .slice none 0 0] (0, 0) _ rfl (by (with_reducible repeat (first | refine bN ?_ _ | refine bD ?_ | refine bA ?_ _)); refine blk_put (cs := #[.slice none 0 0, .slice none 0 0]) ?_ 1 _ rfl; (with_reducible repeat (first | refine bN ?_ _ | refine bD ?_ | refine bA ?_ _)); refine blk_put (cs := #[.slice none 0 0, .slice none 0 0]) ?_ 0 _ rfl; (with_reducible repeat (first | refine bN ?_ _ | refine bD ?_ | refine bA ?_ _)); refine blk_far ?_ Q1c.out _; (with_reducible repeat (first | refine bN ?_ _ | refine bD ?_ | refine bA ?_ _)); refine blk_far ?_ Q1c.out _; (with_reducible repeat (first | refine bN ?_ _ | refine bD ?_ | refine bA ?_ _)); refine blk_far ?_ Q1a.out _; (with_reducible repeat (first | refine bN ?_ _ | refine bD ?_ | refine bA ?_ _)); refine blk_far ?_ Q1a.out _; (with_reducible repeat (first | refine bN ?_ _ | refine bD ?_ | refine bA ?_ _)); refine blk_far ?_ Q0x.out _; (with_reducible repeat (first | refine bN ?_ _ | refine bD ?_ | refine bA ?_ _)); refine blk_far ?_ Q0x.out _; (with_reducible repeat (first | refine bN ?_ _ | refine bD ?_ | refine bA ?_ _)); refine blk_far ?_ Q0x.out _; (with_reducible repeat (first | refine bN ?_ _ | refine bD ?_ | refine bA ?_ _)); refine blk_far ?_ Q0x.out _; (with_reducible repeat (first | refine bN ?_ _ | refine bD ?_ | refine bA ?_ _)); exact Q05.out) Try.underlying27 rfl (by kernel_rfl) (.tmp .nil))))) rfl ?_
  exact ⟨_, _, _, _, _, _, by first | rfl | (simp [errW_none, errW_some] <;> rfl) | (simp [*, errW_none, errW_some] <;> rfl), by first | exact Kd.R_nil _ _ _ _ _ | exact Kd.N_nil _ _ _ _ _ | exact Kd.V_nil _ _ _ _ _ | exact Kd.Q_nil _ _ _ _ _ | exact Kd.S_nil _ _ _ _ _, by first | exact Kd.R_nil _ _ _ _ _ | exact Kd.N_nil _ _ _ _ _ | exact Kd.V_nil _ _ _ _ _ | exact Kd.Q_nil _ _ _ _ _ | exact Kd.S_nil _ _ _ _ _, by first | exact Kd.R_nil _ _ _ _ _ | exact Kd.N_nil _ _ _ _ _ | exact Kd.V_nil _ _ _ _ _ | exact Kd.Q_nil _ _ _ _ _ | exact Kd.S_nil _ _ _ _ _, by first | exact Kd.R_nil _ _ _ _ _ | exact Kd.N_nil _ _ _ _ _ | exact Kd.V_nil _ _ _ _ _ | exact Kd.Q_nil _ _ _ _ _ | exact Kd.S_nil _ _ _ _ _, by first | exact Kd.R_nil _ _ _ _ _ | exact Kd.N_nil _ _ _ _ _ | exact Kd.V_nil _ _ _ _ _ | exact Kd.Q_nil _ _ _ _ _ | exact Kd.S_nil _ _ _ _ _, by first | exact Kd.R_nil _ _ _ _ _ | exact Kd.N_nil _ _ _ _ _ | exact Kd.V_nil _ _ _ _ _ | exact Kd.Q_nil _ _ _ _ _ | exact Kd.S_nil _ _ _ _ _, by repeat (first | (with_reducible first | exact HB.out | apply wA | apply wN | apply wD | refine below_set ?_ Q1x.out | refine below_set ?_ Q1y.out | refine below_set ?_ Q1z.out | refine below_set ?_ Q20.out | refine below_set ?_ Q21.out) | exact HB.out)⟩
end Go.Proofs.Ytillofiphkmjjaa.X

namespace Go.Proofs.Ytillofiphkmjjaa.X
open Go.RowKit Go.Proofs.YtillofiphkmjjaaW.PrintWords Go.Proofs.YtillofiphkmjjaaW.PrintLast Go.Proofs.YtillofiphkmjjaaW.PrintMore
set_option linter.unusedVariables false
set_option linter.unusedSimpArgs false

/-- The place of the first element of which p holds, or -1. -/
def idx79 (p : S79 → Bool) (l : List S79) : Int := match l.findIdx? p with
  | some i => (i : Int)
  | none => -1
theorem idx79_hit {p : S79 → Bool} {l : List S79} {i : Int} (h0 : 0 ≤ i) (h1 : i < l.length) (hm : ∀ j : Nat, (j : Int) < i → p (l.getD j z79) = false) (hp : p (rd_T79 l i) = true) : idx79 p l = i := by
  have hi : i.toNat < l.length := by omega
  have : l.findIdx? p = some i.toNat := by
    rw [List.findIdx?_eq_some_iff_getElem]
    refine ⟨hi, ?_, fun j hj => ?_⟩
    · unfold rd_T79 at hp; rw [List.getD_eq_getElem?_getD, List.getElem?_eq_getElem hi] at hp; exact hp
    · have := hm j (by omega); rw [List.getD_eq_getElem?_getD, List.getElem?_eq_getElem (by omega)] at this; simpa using this
  unfold idx79
  rw [this]
  simp only
  omega
theorem idx79_miss {p : S79 → Bool} {l : List S79} (hm : ∀ j : Nat, j < l.length → p (l.getD j z79) = false) : idx79 p l = -1 := by
  have : l.findIdx? p = none := by
    rw [List.findIdx?_eq_none_iff]
    intro x hx
    obtain ⟨j, hj, rfl⟩ := List.mem_iff_getElem.mp hx
    have := hm j hj
    rw [List.getD_eq_getElem?_getD, List.getElem?_eq_getElem hj] at this
    exact this
  unfold idx79
  rw [this]

set_option maxHeartbeats 2000000 in
theorem Kernel1_calls (e : S79) (w : World) : Calls Try.prog 64 #[.agg #[.int .i64 e.f0, .int .i64 e.f1]] w fun r w' => r = .returned (.bool (decide (e.f0 ≥ e.f1))) ∧ Below w.heap.size w w' := by
  have hu79 := Try.underlying79
  go_enter Try.func64, Try.ntmps64
  go_wp2
  go_ret
  exact ⟨rfl, below_alloc (Below.refl _ _) _⟩

set_option maxHeartbeats 2000000 in
theorem IndexFunc81_calls (p : S79 → Bool) (g : Nat) (lb : Array Value) (eg : ∀ args w, (callFunc g args).run Try.prog w = .ok (.enter g args) w) (A0 : Option Addr) (c0 : Nat) (l0 : List S79) (w : World)
    (hp : ∀ W, Below w.heap.size w W → ∀ x : S79, Calls Try.prog g (#[.agg #[.int .i64 x.f0, .int .i64 x.f1]] ++ lb) W fun e w' => e = .returned (.bool (p x)) ∧ Below W.heap.size W w')
    (hr0 : Kd.C k79 w A0 l0.length l0) (hbig : l0.length ≤ 9223372036854775807) :
    Calls Try.prog 81 #[.slice A0 l0.length c0, .func (.func g) #[] lb] w fun e w' => e = .returned (.int .i64 (idx79 p l0)) ∧ Below w.heap.size w w' := by
  have hu79 := Try.underlying79
  have HR := Aside0.mk hr0
  have HP := Aside0.mk hp
  have HB := Aside0.mk hbig
  clear hr0 hp hbig
  go_enter Try.func81, Try.ntmps81
  go_wp2
  go_loopg [5, 8] l0.length (fun gg _ s8 wr => ∃ i : Int, s8 = .int .i64 i ∧ Aside0 (0 ≤ i ∧ i ≤ (l0.length : Int) ∧ (l0.length : Int) - i ≤ gg ∧ ∀ j : Nat, (j : Int) < i → p (l0.getD j z79) = false) ∧ Aside0 (Below w.heap.size w wr))
  case atStart => exact ⟨0, rfl, ⟨by omega, by omega, by omega, fun j hj => by omega⟩, ⟨Below.refl _ _⟩⟩
  case round =>
    obtain ⟨i, rfl, A, BW⟩ := hrel
    by_cases hlt : i < (l0.length : Int)
    · have c3b0 : decide (i < (l0.length : Int)) = true := decide_eq_true hlt
      have p105 : 0 ≤ i := A.out.1
      obtain ⟨ad105, e105, hx105_0, hx105_1⟩ := at_T79 (Kd.C_below HR.out BW.out) i p105 hlt
      cases e105
      have HC := Aside0.mk (HP.out wr BW.out (rd_T79 l0 i))
      have q105 := eq_true hlt
      clear hlt
      replace p105 := eq_true p105
      cases hq : p (rd_T79 l0 i) with
      | true =>
        rw [hq] at HC
        have HQ := Aside0.mk hq
        clear hq
        go_wp2_with (go_at_fn g; refine (HC.out).mono ?_; rintro e w' ⟨rfl, hb'⟩)
        go_ret
        refine ⟨?_, below_step BW.out hb'⟩
        rw [idx79_hit (of_eq_true p105) (of_eq_true q105) A.out.2.2.2 HQ.out]
        rfl
      | false =>
        rw [hq] at HC
        have HQ := Aside0.mk hq
        clear hq
        go_wp2_with (go_at_fn g; refine (HC.out).mono ?_; rintro e w' ⟨rfl, hb'⟩)
        go_roundg (l0.length - (i + 1).toNat)
        case measure => have := A.out; have := of_eq_true q105; omega
        case rel =>
          have q := of_eq_true q105
          have z := of_eq_true p105
          refine ⟨i + 1, ?_, ⟨by omega, by omega, by omega, fun j hj => ?_⟩, ⟨below_step BW.out hb'⟩⟩
          · have := HB.out
            rw [show wrap64 (i + 1) = i + 1 from by unfold wrap64; omega]
          · by_cases e : (j : Int) < i
            · exact A.out.2.2.2 j e
            · obtain rfl : j = i.toNat := by omega
              exact HQ.out
    · have c3b0 : decide (i < (l0.length : Int)) = false := decide_eq_false hlt
      have HL := Aside0.mk hlt
      clear hlt
      go_wp2
      go_ret
      refine ⟨?_, BW.out⟩
      rw [idx79_miss (fun j hj => A.out.2.2.2 j (by have := HL.out; omega))]
      rfl

/-- The block g holds the pairs l one after the other. -/
structure Pairs (W : World) (g c : Nat) (l : List S79) : Prop where
  get : ∃ cs : Array Value, W.heap[g]? = some (.cells cs 79 (0, 0)) ∧ cs.size = c * 2 ∧ ∀ j : Nat, j < l.length → cs[j * 2]? = some (.int .i64 (l.getD j z79).f0) ∧ cs[j * 2 + 1]? = some (.int .i64 (l.getD j z79).f1)
theorem Pairs.below {W W' : World} {g c : Nat} {l : List S79} (h : Pairs W g c l) (hb : Below W.heap.size W W') : Pairs W' g c l := by
  obtain ⟨cs, h1, hs, h2⟩ := h.get
  exact ⟨cs, blk_below h1 hb, hs, h2⟩
theorem Pairs.at_ {W : World} {g c : Nat} {l : List S79} (h : Pairs W g c l) (j : Nat) (hj : j < l.length) : W.cell? ⟨g, j * 2, none⟩ = some (.int .i64 (l.getD j z79).f0) ∧ W.cell? ⟨g, j * 2 + 1, none⟩ = some (.int .i64 (l.getD j z79).f1) ∧ W.frozen? ⟨g, j * 2, none⟩ = false ∧ W.frozen? ⟨g, j * 2 + 1, none⟩ = false := by
  obtain ⟨cs, h1, hs, h2⟩ := h.get
  obtain ⟨c0, c1⟩ := h2 j hj
  exact ⟨(blk_cell h1 _).trans c0, (blk_cell h1 _).trans c1, blk_frozen h1 _, blk_frozen h1 _⟩
theorem Pairs.C {W : World} {g c : Nat} {l : List S79} (h : Pairs W g c l) (hl : l.length ≤ 9223372036854775807) (n : Nat) (hn : n ≤ l.length) : Kd.C k79 W (some ⟨g, 0, none⟩) n (l.take n) := by
  obtain ⟨cs, h1, hs, h2⟩ := h.get
  refine ⟨by simp; omega, by omega, fun hp => ⟨_, rfl, fun j p hj => ?_⟩⟩
  have hjl : j < n ∧ j < l.length := by
    have := (List.getElem?_eq_some_iff.mp hj).1
    simp at this
    omega
  obtain ⟨c0, c1⟩ := h2 j hjl.2
  have e : l.getD j z79 = p := by
    rw [List.getElem?_take_of_lt hjl.1] at hj
    rw [List.getD_eq_getElem?_getD, hj]
    rfl
  rw [e] at c0 c1
  refine ⟨[.int .i64 p.f0, .int .i64 p.f1], rfl, k79_mk W p, fun i u hu => ?_⟩
  have ad : ∀ k : Nat, (⟨g, 0, none⟩ : Addr).add k = ⟨g, k, none⟩ := by intro k; unfold Addr.add; split <;> simp_all
  rw [show k79.sz = 2 from rfl, ad, blk_cell h1]
  match i with
  | 0 => simpa [c0] using hu
  | 1 => simpa [c1] using hu
  | i + 2 => simp at hu
theorem Pairs.put {W : World} {g c : Nat} {l : List S79} (h : Pairs W g c l) (i : Nat) (hi : i < l.length) (x : S79) :
    Pairs ((W.setCell ⟨g, i * 2, none⟩ (.int .i64 x.f0)).setCell ⟨g, i * 2 + 1, none⟩ (.int .i64 x.f1)) g c (l.set i x) := by
  obtain ⟨cs, h1, hs, h2⟩ := h.get
  refine ⟨_, blk_put (blk_put h1 _ _ rfl) _ _ rfl, by simp [hs], fun j hj => ?_⟩
  simp only [List.length_set] at hj
  obtain ⟨c0, c1⟩ := h2 j hj
  obtain ⟨d0, d1⟩ := h2 i hi
  have s0 := (Array.getElem?_eq_some_iff.mp d0).1
  have s1 := (Array.getElem?_eq_some_iff.mp d1).1
  by_cases e : i = j
  · subst e
    have : (l.set i x).getD i z79 = x := by rw [List.getD_eq_getElem?_getD, List.getElem?_set_self hi]; rfl
    rw [this]
    constructor
    · rw [Array.getElem?_setIfInBounds_ne (by omega), Array.getElem?_setIfInBounds_self_of_lt (by simpa using s0)]
    · rw [Array.getElem?_setIfInBounds_self_of_lt (by simpa using s1)]
  · have : (l.set i x).getD j z79 = l.getD j z79 := by rw [List.getD_eq_getElem?_getD, List.getElem?_set_ne e, List.getD_eq_getElem?_getD]
    rw [this]
    constructor
    · rw [Array.getElem?_setIfInBounds_ne (by omega), Array.getElem?_setIfInBounds_ne (by omega)]; exact c0
    · rw [Array.getElem?_setIfInBounds_ne (by omega), Array.getElem?_setIfInBounds_ne (by omega)]; exact c1
theorem run_clear_pairs (w : World) (ty : TypeId) (b o n c : Nat) (hn : 0 < n)
    (hc : ∀ j, j < n * 2 → (w.cell? ⟨b, o + j, none⟩).isSome = true) (hf : ∀ j, j < n * 2 → w.frozen? ⟨b, o + j, none⟩ = false) :
    (Builtin.clear_ #[70] ty #[.slice (some ⟨b, o, none⟩) n c]).run Try.prog w = .ok (.tuple #[]) (w.setCells b o (List.replicate (n * 2) (.int .i64 0))) := by
  have hz : (Value.agg #[.int .i64 0, .int .i64 0]).cells = #[.int .i64 0, .int .i64 0] := by first | rfl | (simp [Value.cells]; done) | decide
  have hzc : (Builtin.zeroCells (Value.agg #[.int .i64 0, .int .i64 0]).cells n).toList = List.replicate (n * 2) (.int .i64 0) := by
    rw [hz]
    simp [Builtin.zeroCells]
    apply List.ext_getElem
    · simp
    · intro i h1 h2
      simp
      have : i % 2 = 0 ∨ i % 2 = 1 := by omega
      rcases this with h | h <;> simp [h]
  have hst := run_storeCells_cells (P := Try.prog) b o (List.replicate (n * 2) (.int .i64 0)) 0 w (by simpa using hc) (by simpa using hf) (by intro v hv'; rw [List.eq_of_mem_replicate hv']; rfl)
  simp only [Nat.add_zero] at hst
  obtain ⟨m, rfl⟩ : ∃ m, n = m + 1 := ⟨n - 1, by omega⟩
  simp [Builtin.clear_, run_underlying Try.underlying70, hzc, hst]
theorem blk_setCells {g t : Nat} : ∀ (vs : List Value) (o : Nat) (w : World) (cs : Array Value), w.heap[g]? = some (.cells cs t (0, 0)) → ∃ cs' : Array Value, (w.setCells g o vs).heap[g]? = some (.cells cs' t (0, 0)) ∧ cs'.size = cs.size ∧ ∀ k, k < o → cs'[k]? = cs[k]? := by
  intro vs
  induction vs with
  | nil => intro o w cs h; exact ⟨cs, h, rfl, fun _ _ => rfl⟩
  | cons v r ih =>
    intro o w cs h
    obtain ⟨cs', h1, hs, h2⟩ := ih (o + 1) _ _ (blk_put h o v rfl)
    refine ⟨cs', h1, by simpa using hs, fun k hk => ?_⟩
    rw [h2 k (by omega), Array.getElem?_setIfInBounds_ne (by omega)]
theorem below_setCells {w0 : World} {g : Nat} (hg : w0.heap.size ≤ g) : ∀ (vs : List Value) (o : Nat) (w : World), Below w0.heap.size w0 w → Below w0.heap.size w0 (w.setCells g o vs) := by
  intro vs
  induction vs with
  | nil => intro o w h; exact h
  | cons v r ih => intro o w h; exact ih (o + 1) _ (below_set h hg)
theorem Pairs.cleared {W : World} {g c : Nat} {l : List S79} (h : Pairs W g c l) (i : Nat) (hi : i ≤ l.length) (vs : List Value) : Pairs (W.setCells g (i * 2) vs) g c (l.take i) := by
  obtain ⟨cs, h1, hs, h2⟩ := h.get
  obtain ⟨cs', h3, h5, h4⟩ := blk_setCells vs (i * 2) W cs h1
  refine ⟨cs', h3, by rw [h5, hs], fun j hj => ?_⟩
  have hji : j < i := by simp at hj; omega
  obtain ⟨c0, c1⟩ := h2 j (by omega)
  have e : (l.take i).getD j z79 = l.getD j z79 := by rw [List.getD_eq_getElem?_getD, List.getElem?_take_of_lt hji, List.getD_eq_getElem?_getD]
  rw [e, h4 _ (by omega), h4 _ (by omega)]
  exact ⟨c0, c1⟩
theorem idx79_spec (p : S79 → Bool) (l : List S79) : (idx79 p l = -1 ∧ l.filter (fun x => !p x) = l) ∨
    (∃ i : Nat, i < l.length ∧ idx79 p l = i ∧ l.take i = (l.take (i + 1)).filter (fun x => !p x)) := by
  unfold idx79
  cases h : l.findIdx? p with
  | none =>
    left
    rw [List.findIdx?_eq_none_iff] at h
    exact ⟨rfl, List.filter_eq_self.mpr (fun x hx => by rw [h x hx]; rfl)⟩
  | some i =>
    right
    rw [List.findIdx?_eq_some_iff_getElem] at h
    obtain ⟨hi, h1, h2⟩ := h
    refine ⟨i, hi, rfl, ?_⟩
    rw [List.take_succ_eq_append_getElem hi, List.filter_append]
    have e1 : [l[i]].filter (fun x => !p x) = [] := by simp [h1]
    rw [e1, List.append_nil]
    refine (List.filter_eq_self.mpr (fun x hx => ?_)).symm
    obtain ⟨j, hj, rfl⟩ := List.mem_iff_getElem.mp hx
    simp at hj
    rw [List.getElem_take]
    have := h2 j (by omega)
    simpa using this

set_option maxHeartbeats 4000000 in
set_option maxRecDepth 100000 in
theorem DeleteFunc65_calls (p : S79 → Bool) (g : Nat) (lb : Array Value) (eg : ∀ args w, (callFunc g args).run Try.prog w = .ok (.enter g args) w) (b c0 : Nat) (l0 : List S79) (w0 w : World) (hB : Below w0.heap.size w0 w) (hb0 : w0.heap.size ≤ b) (hb1 : b < w.heap.size) (hP : Pairs w b c0 l0) (hc : l0.length ≤ c0)
    (hp : ∀ W, ∀ x : S79, Calls Try.prog g (#[.agg #[.int .i64 x.f0, .int .i64 x.f1]] ++ lb) W fun e w' => e = .returned (.bool (p x)) ∧ Below W.heap.size W w')
    (hbig : l0.length ≤ 9223372036854775807) :
    Calls Try.prog 65 #[.slice (some ⟨b, 0, none⟩) l0.length c0, .func (.func g) #[] lb] w fun e w' => e = .returned (.slice (some ⟨b, 0, none⟩) (l0.filter (fun x => !p x)).length c0) ∧ Pairs w' b c0 (l0.filter (fun x => !p x)) ∧ Below w0.heap.size w0 w' := by
  have hu79 := Try.underlying79
  have hu70 := Try.underlying70
  have HI := Aside0.mk (IndexFunc81_calls p g lb eg (some ⟨b, 0, none⟩) c0 l0 w (fun W _ x => hp W x) (by have := hP.C (by omega) l0.length (Nat.le_refl _); rwa [List.take_length] at this) (by omega))
  have HP := Aside0.mk hP
  have HB := Aside0.mk hB
  have H0 := Aside0.mk hb0
  have H1 := Aside0.mk hb1
  have HQ := Aside0.mk hp
  have HC := Aside0.mk hc
  have HG := Aside0.mk hbig
  clear hP hB hb0 hb1 hp hc hbig
  rcases idx79_spec p l0 with ⟨h1, h2⟩ | ⟨i, hi, h1, h2⟩
  · rw [h1] at HI
    have H2 := Aside0.mk h2
    clear h1 h2
    go_enter Try.func65, Try.ntmps65
    go_wp2_with (go_at_call 81; refine (HI.out).mono ?_; rintro e w' ⟨rfl, hb'⟩)
    go_ret
    refine ⟨by rw [H2.out]; rfl, by rw [H2.out]; exact HP.out.below hb', below_step HB.out hb'⟩
  · rw [h1] at HI
    have H2 := Aside0.mk h2
    have HI1 := Aside0.mk hi
    clear h1 h2 hi
    go_enter Try.func65, Try.ntmps65
    go_wp2_with (go_at_call 81; refine (HI.out).mono ?_; rintro e w' ⟨rfl, hb'⟩)
    go_loopg [5, 6] l0.length (fun gg s5 s6 wr => ∃ (i j : Nat) (cur : List S79), s5 = .int .i64 i ∧ s6 = .int .i64 j ∧ Aside0 (i < j ∧ j ≤ l0.length ∧ l0.length - j ≤ gg ∧ cur.length = l0.length ∧ cur.take i = (l0.take j).filter (fun x => !p x) ∧ cur.drop j = l0.drop j) ∧ Aside0 (Pairs wr b c0 cur) ∧ Aside0 (Below w0.heap.size w0 wr) ∧ Aside0 (b < wr.heap.size))
    case atStart =>
      have h1 := HI1.out
      have h2 := HG.out
      exact ⟨i, i + 1, l0, rfl, by first | rfl | (rw [show wrap64 ((i : Int) + 1) = ((i + 1 : Nat) : Int) from by unfold wrap64; omega]) | (simp; done), ⟨by omega, by omega, by omega, rfl, H2.out, rfl⟩, ⟨HP.out.below hb'⟩, ⟨below_step HB.out hb'⟩, ⟨Nat.lt_of_lt_of_le H1.out hb'.size⟩⟩
    case round =>
      clear HI HP HB H1 hb'
      obtain ⟨i, j, cur, rfl, rfl, A, HP, HB, H1⟩ := hrel
      by_cases hlt : (j : Int) < (l0.length : Int)
      · have c1 : decide ((j : Int) < (l0.length : Int)) = true := decide_eq_true hlt
        have hl : cur.length = l0.length := A.out.2.2.2.1
        have hj : j < l0.length := by omega
        obtain ⟨hx0, hx1, -, -⟩ := HP.out.at_ j (by omega)
        have q105 := eq_true hlt
        have p105 : (0 ≤ (j : Int)) = True := eq_true (by omega)
        have HJ := Aside0.mk hj
        have HL := Aside0.mk hl
        clear hlt hj hl
        cases hq : p (cur.getD j z79) with
        | true =>
          have HQ1 := Aside0.mk hq
          have HC1 := Aside0.mk (fun W => HQ.out W (cur.getD j z79))
          rw [hq] at HC1
          clear hq
          go_wp2_with (go_at_fn g; refine (HC1.out _).mono ?_; rintro e w' ⟨rfl, hb'⟩)
          go_roundg (gk - 1)
          case measure => have h1 := A.out; have h2 := HJ.out; omega
          case rel =>
            have h1 := A.out
            have h2 := HJ.out
            have h3 := HG.out
            have hbb := below_step (below_alloc (Below.refl wr.heap.size wr) _) hb'
            have hj : j < cur.length := by omega
            have e1 : l0[j] = cur[j] := by
              have := congrArg (fun l => l[0]?) h1.2.2.2.2.2
              simp only [List.getElem?_drop] at this
              rw [List.getElem?_eq_getElem (by omega), List.getElem?_eq_getElem (by omega)] at this
              exact (Option.some.inj this).symm
            refine ⟨i, j + 1, cur, rfl, ?_, ⟨by omega, by omega, by omega, h1.2.2.2.1, ?_, ?_⟩, ⟨HP.out.below hbb⟩, ⟨below_step HB.out hbb⟩, ⟨Nat.lt_of_lt_of_le H1.out hbb.size⟩⟩
            · first | rfl | (rw [show wrap64 ((j : Int) + 1) = ((j + 1 : Nat) : Int) from by unfold wrap64; omega])
            · rw [h1.2.2.2.2.1, List.take_succ_eq_append_getElem h2, List.filter_append, e1]
              have : p cur[j] = true := by have := HQ1.out; rw [List.getD_eq_getElem?_getD, List.getElem?_eq_getElem hj] at this; exact this
              simp [this]
            · have := congrArg (List.drop 1) h1.2.2.2.2.2
              simpa [List.drop_drop, Nat.add_comm] using this
        | false =>
          have HQ1 := Aside0.mk hq
          have HC1 := Aside0.mk (fun W => HQ.out W (cur.getD j z79))
          rw [hq] at HC1
          clear hq
          have r1 : ((i : Int) < (l0.length : Int)) = True := eq_true (by have := A.out.1; have := HJ.out; omega)
          have r2 : (0 ≤ (i : Int)) = True := eq_true (by omega)
          go_wp2_with (go_at_fn g; refine (HC1.out _).mono ?_; rintro e w' ⟨rfl, hb'⟩; have HBX := Aside0.mk (blk_below (heap_alloc_new wr _) hb'); have hv0 := (blk_cell HBX.out 0).trans rfl; have hv1 := (blk_cell HBX.out 1).trans rfl; have HPW := Aside0.mk (HP.out.below (below_step (below_alloc (Below.refl wr.heap.size wr) _) hb')); obtain ⟨y0, y1, z0, z1⟩ := HPW.out.at_ i (by have := A.out; have := HJ.out; omega))
          go_roundg (gk - 1)
          case measure => have h1 := A.out; have h2 := HJ.out; omega
          case rel =>
            have h1 := A.out
            have h2 := HJ.out
            have h3 := HG.out
            have hbb := below_step (below_alloc (Below.refl wr.heap.size wr) _) hb'
            have hj : j < cur.length := by omega
            have e1 : l0[j] = cur[j] := by
              have := congrArg (fun l => l[0]?) h1.2.2.2.2.2
              simp only [List.getElem?_drop] at this
              rw [List.getElem?_eq_getElem (by omega), List.getElem?_eq_getElem (by omega)] at this
              exact (Option.some.inj this).symm
            have e2 : cur[j]?.getD z79 = cur[j] := by rw [List.getElem?_eq_getElem hj]; rfl
            refine ⟨i + 1, j + 1, cur.set i (cur[j]?.getD z79), ?_, ?_, ⟨by omega, by omega, by omega, by rw [List.length_set]; exact h1.2.2.2.1, ?_, ?_⟩, ⟨HPW.out.put i (by omega) _⟩, ⟨below_set (below_set (below_step HB.out hbb) H0.out) H0.out⟩, ⟨by have := Nat.lt_of_lt_of_le H1.out hbb.size; simpa [World.setCell] using this⟩⟩
            · first | rfl | (rw [show wrap64 ((i : Int) + 1) = ((i + 1 : Nat) : Int) from by unfold wrap64; omega])
            · first | rfl | (rw [show wrap64 ((j : Int) + 1) = ((j + 1 : Nat) : Int) from by unfold wrap64; omega])
            · rw [e2, List.take_succ_eq_append_getElem h2, List.filter_append, e1, ← h1.2.2.2.2.1, List.take_succ_eq_append_getElem (by rw [List.length_set]; omega), List.getElem_set_self, List.take_set_of_le (Nat.le_refl _)]
              have : p cur[j] = false := by have := HQ1.out; rw [List.getD_eq_getElem?_getD, List.getElem?_eq_getElem hj] at this; exact this
              simp [this]
            · rw [List.drop_set_of_lt (by omega)]
              have := congrArg (List.drop 1) h1.2.2.2.2.2
              simpa [List.drop_drop, Nat.add_comm] using this
      · have c1 : decide ((j : Int) < (l0.length : Int)) = false := decide_eq_false hlt
        have q105 : ((j : Int) < (l0.length : Int)) = False := eq_false hlt
        have HL := Aside0.mk hlt
        clear hlt
        have hj : j = l0.length := by have := HL.out; have := A.out.2.1; omega
        have hi : i < l0.length := by have := A.out.1; omega
        have s1 : ((i : Int) ≤ (l0.length : Int)) = True := eq_true (by omega)
        have s2 : ((l0.length : Int) ≤ (c0 : Int)) = True := eq_true (by have := HC.out; omega)
        have s3 : ((i : Int) ≤ (c0 : Int)) = True := eq_true (by have := HC.out; omega)
        have s4 : (0 ≤ (i : Int)) = True := eq_true (by omega)
        have hl : cur.length = l0.length := A.out.2.2.2.1
        have hcl := run_clear_pairs wr 0 b (i * 2) (l0.length - i) (c0 - i) (by omega)
          (fun k hk => by
            obtain ⟨a0, a1, -, -⟩ := HP.out.at_ ((i * 2 + k) / 2) (by omega)
            rcases (show (i * 2 + k) % 2 = 0 ∨ (i * 2 + k) % 2 = 1 by omega) with e | e
            · rw [show i * 2 + k = (i * 2 + k) / 2 * 2 by omega, a0]; rfl
            · rw [show i * 2 + k = (i * 2 + k) / 2 * 2 + 1 by omega, a1]; rfl)
          (fun k hk => by
            obtain ⟨-, -, a0, a1⟩ := HP.out.at_ ((i * 2 + k) / 2) (by omega)
            rcases (show (i * 2 + k) % 2 = 0 ∨ (i * 2 + k) % 2 = 1 by omega) with e | e
            · rw [show i * 2 + k = (i * 2 + k) / 2 * 2 by omega, a0]
            · rw [show i * 2 + k = (i * 2 + k) / 2 * 2 + 1 by omega, a1])
        have HI2 := Aside0.mk hi
        have HJ2 := Aside0.mk hj
        have HL2 := Aside0.mk hl
        clear hi hj hl
        go_wp2
        all_goals first | (exfalso; have h1 := HI2.out; have h2 := HC.out; omega) | skip
        go_ret
        have hf : l0.filter (fun x => !p x) = cur.take i := by rw [A.out.2.2.2.2.1, HJ2.out, List.take_length]
        have hi := HI2.out
        have hl := HL2.out
        refine ⟨?_, by rw [hf]; exact HP.out.cleared i (by omega) _, below_setCells H0.out _ _ _ HB.out⟩
        rw [hf, List.length_take, Nat.min_eq_left (by omega)]
        rfl
theorem Pairs.of_R {W : World} {base : Nat} {ok : Nat → Prop} {v : Value} {l : List S79} (h : Kd.R k79 79 W base ok v l) : (v = .slice none 0 0 ∧ l = []) ∨ ∃ g c, v = .slice (some ⟨g, 0, none⟩) l.length c ∧ base ≤ g ∧ g < W.heap.size ∧ l.length ≤ c ∧ c ≤ maxLen ∧ Pairs W g c l := by
  obtain ⟨A, c, e0, hc, hC⟩ := Kd.R_reads h
  obtain ⟨-, inner, ho, -⟩ := h
  rcases ho.2 with ⟨rfl, h0⟩ | ⟨g, cap, cur, rfl, hb, hh, h1, h2, h3, -⟩
  · exact .inl ⟨rfl, List.eq_nil_of_length_eq_zero h0⟩
  · right
    injection e0 with eA _ ec
    subst eA ec
    refine ⟨g, cap, rfl, hb, (Array.getElem?_eq_some_iff.mp hh).1, h1, h2, ⟨cur, hh, h3, fun j hj => ?_⟩⟩
    obtain ⟨ad, e, c0, c1⟩ := at_T79 hC (j : Int) (by omega) (by omega)
    injection e with e
    subst e
    have ad : ∀ k : Nat, (⟨g, 0, none⟩ : Addr).add k = ⟨g, k, none⟩ := by intro k; unfold Addr.add; split <;> simp_all
    rw [Int.toNat_natCast, ad, blk_cell hh] at c0 c1
    unfold rd_T79 at c0 c1
    rw [Int.toNat_natCast] at c0 c1
    exact ⟨c0, c1⟩
theorem Pairs.R {W : World} {g c : Nat} {l : List S79} (h : Pairs W g c l) {base : Nat} {ok : Nat → Prop} (hb : base ≤ g) (hok : ok g) (hc : l.length ≤ c) (hm : c ≤ maxLen) : Kd.R k79 79 W base ok (.slice (some ⟨g, 0, none⟩) l.length c) l := by
  obtain ⟨cs, h1, hs, h2⟩ := h.get
  have hs' : cs.toList.length = c * 2 := by simpa using hs
  refine ⟨fun k hk => ?_, cs.toList.take (l.length * 2), ⟨?_, .inr ⟨g, c, cs, rfl, hb, h1, hc, hm, hs, rfl⟩⟩, ?_, fun j p hp => ?_⟩
  · have : g = k := by simpa [Value.ownBlock] using hk
    subst this
    exact hok
  · rw [List.length_take, hs', show k79.sz = 2 from rfl]
    omega
  · rw [List.length_take, hs', show k79.sz = 2 from rfl]
    omega
  · have hj : j < l.length := (List.getElem?_eq_some_iff.mp hp).1
    obtain ⟨c0, c1⟩ := h2 j hj
    have e : l.getD j z79 = p := by rw [List.getD_eq_getElem?_getD, hp]; rfl
    rw [e] at c0 c1
    have : ((cs.toList.take (l.length * 2)).drop (j * k79.sz)).take k79.sz = [.int .i64 p.f0, .int .i64 p.f1] := by
      rw [show k79.sz = 2 from rfl]
      obtain ⟨i0, e0⟩ := Array.getElem?_eq_some_iff.mp c0
      obtain ⟨i1, e1⟩ := Array.getElem?_eq_some_iff.mp c1
      apply List.ext_getElem?
      intro k
      match k with
      | 0 =>
        rw [List.getElem?_take_of_lt (by omega), List.getElem?_drop, List.getElem?_take_of_lt (by omega), Array.getElem?_toList]
        exact c0
      | 1 =>
        rw [List.getElem?_take_of_lt (by omega), List.getElem?_drop, List.getElem?_take_of_lt (by omega), Array.getElem?_toList]
        exact c1
      | k + 2 =>
        rw [List.getElem?_eq_none (by rw [List.length_take]; omega)]
        rfl
    rw [this]
    exact k79_mkM _ _ _ p
set_option maxHeartbeats 2000000 in
theorem DeleteFunc65_none (p : S79 → Bool) (g : Nat) (lb : Array Value) (eg : ∀ args w, (callFunc g args).run Try.prog w = .ok (.enter g args) w) (w : World)
    (hp : ∀ W, ∀ x : S79, Calls Try.prog g (#[.agg #[.int .i64 x.f0, .int .i64 x.f1]] ++ lb) W fun e w' => e = .returned (.bool (p x)) ∧ Below W.heap.size W w') :
    Calls Try.prog 65 #[.slice none 0 0, .func (.func g) #[] lb] w fun e w' => e = .returned (.slice none 0 0) ∧ Below w.heap.size w w' := by
  have HI := Aside0.mk (IndexFunc81_calls p g lb eg none 0 [] w (fun W _ x => hp W x) ⟨rfl, by decide, fun h => absurd h (by decide)⟩ (by decide))
  clear hp
  go_enter Try.func65, Try.ntmps65
  go_wp2_with (go_at_call 81; refine (HI.out).mono ?_; rintro e w' ⟨rfl, hb'⟩)
  go_ret
  exact ⟨rfl, hb'⟩
theorem DeleteFunc65_R (p : S79 → Bool) (g : Nat) (lb : Array Value) (eg : ∀ args w, (callFunc g args).run Try.prog w = .ok (.enter g args) w) (v : Value) (l0 : List S79) (w0 w : World) (hB : Below w0.heap.size w0 w) (hv : Kd.R k79 79 w w0.heap.size (fun _ => True) v l0)
    (hp : ∀ W, ∀ x : S79, Calls Try.prog g (#[.agg #[.int .i64 x.f0, .int .i64 x.f1]] ++ lb) W fun e w' => e = .returned (.bool (p x)) ∧ Below W.heap.size W w') :
    Calls Try.prog 65 #[v, .func (.func g) #[] lb] w fun e w' => ∃ v', e = .returned v' ∧ Kd.R k79 79 w' w0.heap.size (fun _ => True) v' (l0.filter (fun x => !p x)) ∧ Below w0.heap.size w0 w' := by
  obtain ⟨_, _, _, _, hC⟩ := Kd.R_reads hv
  have hbig := hC.2.1
  rcases Pairs.of_R hv with ⟨rfl, rfl⟩ | ⟨b, c, rfl, h1, h2, h3, h4, hP⟩
  · refine (DeleteFunc65_none p g lb eg w hp).mono ?_
    rintro e w' ⟨rfl, hb⟩
    exact ⟨_, rfl, Kd.R_nil _ _ _ _ _, below_step hB hb⟩
  · refine (DeleteFunc65_calls p g lb eg b c l0 w0 w hB h1 h2 hP h3 hp hbig).mono ?_
    rintro e w' ⟨rfl, hP', hb⟩
    have hl := List.length_filter_le (fun x => !p x) l0
    exact ⟨_, rfl, hP'.R h1 trivial (by omega) h4, hb⟩
end Go.Proofs.Ytillofiphkmjjaa.X
