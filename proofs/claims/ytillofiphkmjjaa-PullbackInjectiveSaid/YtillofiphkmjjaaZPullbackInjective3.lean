/- A part of the proof that the law PullbackInjective returns true at every input: contracts of the functions that it calls, and lemmas. -/
import Derived.Test.YtillofiphkmjjaaZPullbackInjective2
namespace Go.Proofs.Ytillofiphkmjjaa.X
open Go.RowKit Go.Proofs.YtillofiphkmjjaaW.PrintWords Go.Proofs.YtillofiphkmjjaaW.PrintLast Go.Proofs.YtillofiphkmjjaaW.PrintMore
open Go.Proofs.YtillofiphkmjjaaW.PrintWords renaming blk_drewN → bN, blk_drew → bD, blk_alloc → bA, below_alloc → wA, pw_below_drewN → wN, below_drew1 → wD, blk_below → bB, below_step → wS, blk_at → bT, blk_grown → bG
open Go.Proofs.YtillofiphkmjjaaW.PrintWords.Kd renaming R_alloc → rA, R_drewN → rN, R_drew → rD, R_below → rB, R_grown → rG, C_below → cB, C_alloc → cA, C_drewN → cN, C_drew → cD
attribute [local go_sem] max2_int min2_int max_two min_two max_three min_three max_four min_four
set_option linter.unusedVariables false
set_option linter.unusedSimpArgs false
/-! ### pullback_sides: function 51 -/
def pullback_sides.l0 : Nat → List Int → List Int → List (S79) → Int → Int → Option (List Int × List Int)
 | 0, _, _, _, _, _ => none
 | k + 1, x4, x5, x8, x9, x10 => if x10 < x9 then (if 0 ≤ x10 then (if x10 < (x8.length : Int) then ((some (([(rd_T79 x8 x10).f0] : List Int) : List Int)).bind fun y103 => (if x4.length + y103.length < 17592186044416 then ((some (([(rd_T79 x8 x10).f1] : List Int) : List Int)).bind fun y109 => (if x5.length + y109.length < 17592186044416 then (pullback_sides.l0 k (x4 ++ y103) (x5 ++ y109) x8 x9 (wrap64 (x10 + 1))) else (none))) else (none))) else (none)) else (none)) else (some (x4, x5))
def pullback_sides.f (k : Nat) (l0 : List (S79)) : Option (List Int × List Int) := pullback_sides.l0 k ([] : List Int) ([] : List Int) l0 (l0.length : Int) 0
theorem pullback_sides.mono_l : ∀ k, (∀ y0 y1 y2 y3 y4, LeO (pullback_sides.l0 k y0 y1 y2 y3 y4) (pullback_sides.l0 (k + 1) y0 y1 y2 y3 y4))
 | 0 => fun _ _ _ _ _ r h => by simp [pullback_sides.l0] at h
 | k + 1 => by
  have ih0 := pullback_sides.mono_l k
  ·intro y0 y1 y2 y3 y4
   unfold pullback_sides.l0
   repeat' first
   | (with_reducible exact ih0 _ _ _ _ _)
   | (with_reducible exact LeO.refl _)
   | (with_reducible exact LeO.none _)
   | (with_reducible refine LeO.ite ?_ ?_)
   | (with_reducible refine LeO.bind ?_ (fun _ => ?_))
   | exact ih0 _ _ _ _ _
   | exact LeO.none _
   | refine LeO.ite ?_ ?_
   | refine LeO.bind ?_ (fun _ => ?_)
theorem pullback_sides.mono : ∀ a0 k, LeO (pullback_sides.f k a0) (pullback_sides.f (k + 1) a0) := by
 intro a0 k
 have ih0 := pullback_sides.mono_l k
 unfold pullback_sides.f
 repeat' first
   | (with_reducible exact ih0 _ _ _ _ _)
   | (with_reducible exact LeO.refl _)
   | (with_reducible exact LeO.none _)
   | (with_reducible refine LeO.ite ?_ ?_)
   | (with_reducible refine LeO.bind ?_ (fun _ => ?_))
   | exact ih0 _ _ _ _ _
   | exact LeO.none _
   | refine LeO.ite ?_ ?_
   | refine LeO.bind ?_ (fun _ => ?_)
def pullback_sides.T5 : Bool × List (List Nat × List Nat) := (true, [([], []), ([], []), ([1], [1]), ([2], [2]), ([0, 3], [0, 3]), ([], []), ([], []), ([6], [6]), ([7], [7]), ([5, 8, 4], [5, 8]), ([4, 9, 0, 1, 2, 3, 4], [0, 4]), ([9, 10, 0, 1, 2, 3, 4, 5, 6, 7, 8, 9, 10], [5, 9])])
def pullback_sides.B5 : List Nat := [0, 0, 2, 6, 15, 0, 0, 64, 192, 511, 1023, 2047]
theorem pullback_sides.tab5 : rtab .any (opsOf Try.f51 5) = pullback_sides.T5 := by kernel_rfl
theorem pullback_sides.bits5 : waitsOk pullback_sides.T5.2 pullback_sides.B5 = true := by kernel_rfl
set_option maxHeartbeats 8000000 in
set_option maxRecDepth 100000 in
theorem pullback_sides.calls (k : Nat) (A0 : Option Addr) (c0 : Nat) (l0 : List (S79)) (r1 : List Int) (r2 : List Int) (w : World) (hr0 : Kd.C k79 w A0 l0.length l0) (hc0 : l0.length ≤ c0) (h : pullback_sides.f k l0 = some (r1, r2)) :
  Calls Try.prog 51 #[.slice A0 l0.length c0] w fun e w' => ∃ v0_ v1_ : Value, e = .returned (.tuple #[v0_, v1_]) ∧ Kd.R (Kd.int .i64) 3 w' w.heap.size (fun k_ => some k_ ≠ (v1_ : Value).ownBlock) v0_ r1 ∧ Kd.R (Kd.int .i64) 3 w' w.heap.size (fun k_ => some k_ ≠ (v0_ : Value).ownBlock) v1_ r2 ∧ Below w.heap.size w w' := by
 have hu79 := Try.underlying79
 have HR0 := Aside0.mk hr0
 have HC0 := Aside0.mk hc0
 clear hr0 hc0
 have HB := Aside0.mk (Below.refl w.heap.size w)
 have H : (pullback_sides.l0 k ([] : List Int) ([] : List Int) l0 (l0.length : Int) 0) = some (r1, r2) := h
 clear h
 have H' := Aside0.mk H
 clear H
 go_enter Try.func51, Try.ntmps51
 go_wp2
 go_loopg [4, 5, 10] k (fun kq v4 v5 v10 w' => ∃ (x4_1 : List Int) (x5_1 : List Int) (x10_1 : Int), v10 = .int .i64 x10_1 ∧ Aside0 (pullback_sides.l0 kq x4_1 x5_1 l0 (l0.length : Int) x10_1 = some (r1, r2)) ∧ Aside0 (kq ≤ k) ∧ Aside0 (Kd.R (Kd.int .i64) 3 w' w.heap.size (fun k_ => some k_ ≠ (v5 : Value).ownBlock) v4 x4_1) ∧ Aside0 (Kd.R (Kd.int .i64) 3 w' w.heap.size (fun k_ => some k_ ≠ (v4 : Value).ownBlock) v5 x5_1) ∧ Aside0 (Below w.heap.size w w'))
 case atStart => exact ⟨(([] : List Int)), (([] : List Int)), (0), rS, H', ⟨Nat.le_refl _⟩, ⟨by first | exact Kd.R_nil _ _ _ _ _ | exact Kd.N_nil _ _ _ _ _ | exact Kd.V_nil _ _ _ _ _ | exact Kd.Q_nil _ _ _ _ _ | exact Kd.S_nil _ _ _ _ _⟩, ⟨by first | exact Kd.R_nil _ _ _ _ _ | exact Kd.N_nil _ _ _ _ _ | exact Kd.V_nil _ _ _ _ _ | exact Kd.Q_nil _ _ _ _ _ | exact Kd.S_nil _ _ _ _ _⟩, ⟨pH HB⟩⟩
 case round =>
  clear H'
  obtain ⟨x4_1, x5_1, x10_1, rfl, HA, HK1, Q02, Q01, HB⟩ := hrel
  cases gk with
  | zero => exact absurd HA.out (by simp [pullback_sides.l0])
  | succ k1 =>
   have H := HA.out
   clear HA
   simp only [pullback_sides.l0] at H
   by_cases c2 : x10_1 < (l0.length : Int)
   ·rw [if_pos c2] at H
    have c2b0 : decide (x10_1 < (l0.length : Int)) = true := decide_eq_true c2
    clear c2
    by_cases c3 : 0 ≤ x10_1
    ·rw [if_pos c3] at H
     have c3b0 : decide (0 ≤ x10_1) = true := decide_eq_true c3
     clear c3
     by_cases c4 : x10_1 < (l0.length : Int)
     ·rw [if_pos c4] at H
      have c4b0 : decide (x10_1 < (l0.length : Int)) = true := decide_eq_true c4
      clear c4
      obtain ⟨y103, hy103⟩ : ∃ y_ : List Int, y_ = (([(rd_T79 l0 x10_1).f0] : List Int)) := ⟨_, rfl⟩
      replace H : (if x4_1.length + y103.length < 17592186044416 then ((some (([(rd_T79 l0 x10_1).f1] : List Int) : List Int)).bind fun y109 => (if x5_1.length + y109.length < 17592186044416 then (pullback_sides.l0 k1 (x4_1 ++ y103) (x5_1 ++ y109) l0 (l0.length : Int) (wrap64 (x10_1 + 1))) else (none))) else (none)) = some (r1, r2) := by first | (rw [hy103]; with_reducible exact H) | (have H2_ := (Option.bind_some _ _).symm.trans H; rw [hy103]; with_reducible exact H2_) | (have H2_ := (Option.bind_some _ _).symm.trans H; with_reducible exact H2_) | with_reducible exact H | (rw [hy103]; exact H) | exact H
      have Ny103 := Aside0.mk hy103
      clear hy103
      by_cases c5 : x4_1.length + y103.length < 17592186044416
      ·rw [if_pos c5] at H
       have LMc5 := Aside0.mk c5
       clear c5
       obtain ⟨y106, hy106⟩ : ∃ y_ : List Int, y_ = (x4_1 ++ y103) := ⟨_, rfl⟩
       replace H : ((some (([(rd_T79 l0 x10_1).f1] : List Int) : List Int)).bind fun y109 => (if x5_1.length + y109.length < 17592186044416 then (pullback_sides.l0 k1 y106 (x5_1 ++ y109) l0 (l0.length : Int) (wrap64 (x10_1 + 1))) else (none))) = some (r1, r2) := by first | (rw [hy106]; with_reducible exact H) | (have H2_ := (Option.bind_some _ _).symm.trans H; rw [hy106]; with_reducible exact H2_) | (have H2_ := (Option.bind_some _ _).symm.trans H; with_reducible exact H2_) | with_reducible exact H | (rw [hy106]; exact H) | exact H
       have Ny106 := Aside0.mk hy106
       clear hy106
       obtain ⟨y109, hy109⟩ : ∃ y_ : List Int, y_ = (([(rd_T79 l0 x10_1).f1] : List Int)) := ⟨_, rfl⟩
       replace H : (if x5_1.length + y109.length < 17592186044416 then (pullback_sides.l0 k1 y106 (x5_1 ++ y109) l0 (l0.length : Int) (wrap64 (x10_1 + 1))) else (none)) = some (r1, r2) := by first | (rw [hy109]; with_reducible exact H) | (have H2_ := (Option.bind_some _ _).symm.trans H; rw [hy109]; with_reducible exact H2_) | (have H2_ := (Option.bind_some _ _).symm.trans H; with_reducible exact H2_) | with_reducible exact H | (rw [hy109]; exact H) | exact H
       have Ny109 := Aside0.mk hy109
       clear hy109
       by_cases c6 : x5_1.length + y109.length < 17592186044416
       ·rw [if_pos c6] at H
        have LMc6 := Aside0.mk c6
        clear c6
        obtain ⟨y112, hy112⟩ : ∃ y_ : List Int, y_ = (x5_1 ++ y109) := ⟨_, rfl⟩
        replace H : (pullback_sides.l0 k1 y106 y112 l0 (l0.length : Int) (wrap64 (x10_1 + 1))) = some (r1, r2) := by first | (rw [hy112]; with_reducible exact H) | (have H2_ := (Option.bind_some _ _).symm.trans H; rw [hy112]; with_reducible exact H2_) | (have H2_ := (Option.bind_some _ _).symm.trans H; with_reducible exact H2_) | with_reducible exact H | (rw [hy112]; exact H) | exact H
        have Ny112 := Aside0.mk hy112
        clear hy112
        have H' := Aside0.mk H
        clear H
        have p101 : 0 ≤ (x10_1 : Int) := oT
        have q101 : x10_1 < (l0.length : Int) := oT
        obtain ⟨ad101, e101, hx101_0, hx101_1⟩ := at_T79 HR0.out x10_1 p101 q101
        cases e101
        replace hx101_0 := (HB.out.cell (World.block_lt_of_cell? w _ hx101_0)).trans hx101_0
        replace hx101_1 := (HB.out.cell (World.block_lt_of_cell? w _ hx101_1)).trans hx101_1
        replace p101 := eq_true p101
        replace q101 := eq_true q101
        try go_wp2_with (first | ((with_reducible refine gate_dst (N := 7) rfl ?_); refine box_event ?hg (N := 7) ?hd (cs := #[.int .i64 0, .int .i64 0]) (t := 79) ?hr ?_; (case hd => rfl); (case hg => rfl); (case hr => first | (go_simp; done) | (go_simp; rfl)); intro Q03 hg w7 hbox hb; replace Q02 := uR Q02 hb; replace Q01 := uR Q01 hb; have Q00 := Aside0.mk (hbox); have Q0k := Aside0.mk ((by rw [hg]; exact (below_size hB) : w.heap.size ≤ Q03)); have Q0l := Aside0.mk ((by rw [hg]; exact (below_size hB) : w.heap.size ≤ Q03)); replace HB := uH HB hb; clear hb hbox hg; have Q0m : w7.cell? ⟨Q03, 0, none⟩ = some (.int .i64 0) := bC Q00 0; have Q0n : w7.cell? ⟨Q03, 1, none⟩ = some (.int .i64 0) := bC Q00 1; have Q0o := blk_frozen Q00.out 0; have Q0p := blk_frozen Q00.out 1; obtain ⟨Ao9, co9, eo9⟩ := Kd.R_slice Q02.out; subst eo9; obtain ⟨Q06, Q07, Q0i⟩ := Kd.R_slice Q01.out; subst Q0i))
        have n0_ : Aside0 (Kd.R (Kd.int .i64) 3 ((w7.setCell ⟨Q03, 0, none⟩ (.int .i64 ((rd_T79 l0 x10_1).f0))).setCell ⟨Q03, 1, none⟩ (.int .i64 ((rd_T79 l0 x10_1).f1))) w.heap.size (fun k_ => some k_ ≠ (.slice Q06 x5_1.length Q07 : Value).ownBlock) (.slice Ao9 x4_1.length co9) x4_1) := ⟨by (with_reducible repeat (first | apply rA | apply rN | apply rD)); exact Kd.R_mono (Kd.R_far (p := ⟨Q03, 1, none⟩) (Kd.R_far (p := ⟨Q03, 0, none⟩) (Kd.R_types Q02.out Q00.out (by decide)) (fun _ hk => hk.2) (.int .i64 ((rd_T79 l0 x10_1).f0))) (fun _ hk => hk.2) (.int .i64 ((rd_T79 l0 x10_1).f1))) (fun _ hk => hk.1)⟩
        have n1_ : Aside0 (Kd.R (Kd.int .i64) 3 ((w7.setCell ⟨Q03, 0, none⟩ (.int .i64 ((rd_T79 l0 x10_1).f0))).setCell ⟨Q03, 1, none⟩ (.int .i64 ((rd_T79 l0 x10_1).f1))) w.heap.size (fun k_ => some k_ ≠ (.slice Ao9 x4_1.length co9 : Value).ownBlock) (.slice Q06 x5_1.length Q07) x5_1) := ⟨by (with_reducible repeat (first | apply rA | apply rN | apply rD)); exact Kd.R_mono (Kd.R_far (p := ⟨Q03, 1, none⟩) (Kd.R_far (p := ⟨Q03, 0, none⟩) (Kd.R_types Q01.out Q00.out (by decide)) (fun _ hk => hk.2) (.int .i64 ((rd_T79 l0 x10_1).f0))) (fun _ hk => hk.2) (.int .i64 ((rd_T79 l0 x10_1).f1))) (fun _ hk => hk.1)⟩
        have n2_ : Aside0 (((w7.setCell ⟨Q03, 0, none⟩ (.int .i64 ((rd_T79 l0 x10_1).f0))).setCell ⟨Q03, 1, none⟩ (.int .i64 ((rd_T79 l0 x10_1).f1))).heap[Q03]? = some (.cells #[.int .i64 ((rd_T79 l0 x10_1).f0), .int .i64 ((rd_T79 l0 x10_1).f1)] 79 (0, 0))) := ⟨by (with_reducible repeat (first | refine bN ?_ _ | refine bD ?_ | refine bA ?_ _)); refine blk_put (cs := #[.int .i64 ((rd_T79 l0 x10_1).f0), .int .i64 0]) ?_ 1 _ rfl; (with_reducible repeat (first | refine bN ?_ _ | refine bD ?_ | refine bA ?_ _)); refine blk_put (cs := #[.int .i64 0, .int .i64 0]) ?_ 0 _ rfl; (with_reducible repeat (first | refine bN ?_ _ | refine bD ?_ | refine bA ?_ _)); exact Q00.out⟩
        have n3_ : Aside0 (Below w.heap.size w ((w7.setCell ⟨Q03, 0, none⟩ (.int .i64 ((rd_T79 l0 x10_1).f0))).setCell ⟨Q03, 1, none⟩ (.int .i64 ((rd_T79 l0 x10_1).f1)))) := ⟨pH HB⟩
        (try clear Q02)
        (try clear Q01)
        (try clear Q00)
        (try clear HB)
        generalize ((w7.setCell ⟨Q03, 0, none⟩ (.int .i64 ((rd_T79 l0 x10_1).f0))).setCell ⟨Q03, 1, none⟩ (.int .i64 ((rd_T79 l0 x10_1).f1))) = w11 at n0_ n1_ n2_ n3_ ⊢
        have Q02 := n0_
        have Q01 := n1_
        have Q00 := n2_
        have HB := n3_
        clear n0_ n1_ n2_ n3_
        replace Q02 := Aside0.mk (rD Q02.out)
        replace Q01 := Aside0.mk (rD Q01.out)
        replace Q00 := Aside0.mk (bD Q00.out)
        replace HB := Aside0.mk (wD HB.out)
        refine start_ (n := 12) (S := fun w' => w'.cell? ⟨Q03, 0, none⟩ = some (.int .i64 ((rd_T79 l0 x10_1).f0)) ∧ w'.cell? ⟨Q03, 1, none⟩ = some (.int .i64 ((rd_T79 l0 x10_1).f1))) (ds := []) #[false, false, false, false, false, false, false, false, false, false, false, false] (by kernel_rfl) rfl rfl ⟨bC Q00 0, bC Q00 1⟩ (fun hHeld => ?_); refine with_tabW pullback_sides.tab5 pullback_sides.bits5 (fun HT_ HW_ => ?_)
        generalize w11.drew = w12 at Q02 Q01 Q00 HB hHeld ⊢
        refine pure_ (i := 0) (N := some 14) (v := ?_) (a' := ?_) #[true, false, false, false, false, false, false, false, false, false, false, false] rfl rfl (any_of HT_.out (by kernel_rfl)) (fun _ _ _ h => h) (Or.inl ⟨by rfl, ?_⟩) ?_ ?_
        rotate_left
        ·intro w'
         go_simp
         with_reducible rfl
        rotate_left
        ·simp only [Act.put, List.setIfInBounds_toArray, List.set_cons_zero, List.set_cons_succ, i64_w, i32_w]
         rfl
        refine pure_ (i := 1) (N := some 15) (v := ?_) (a' := ?_) #[true, true, false, false, false, false, false, false, false, false, false, false] rfl rfl (any_of HT_.out (by kernel_rfl)) (fun _ _ _ h => h) (Or.inl ⟨by rfl, ?_⟩) ?_ ?_
        rotate_left
        ·intro w'
         go_simp
         with_reducible rfl
        rotate_left
        ·simp only [Act.put, List.setIfInBounds_toArray, List.set_cons_zero, List.set_cons_succ, i64_w, i32_w]
         rfl
        refine pure_ (i := 5) (N := some 19) (v := ?_) (a' := ?_) #[true, true, false, false, false, true, false, false, false, false, false, false] rfl rfl (any_of HT_.out (by kernel_rfl)) (fun _ _ _ h => h) (Or.inl ⟨by rfl, ?_⟩) ?_ ?_
        rotate_left
        ·intro w'
         go_simp
         with_reducible rfl
        rotate_left
        ·simp only [Act.put, List.setIfInBounds_toArray, List.set_cons_zero, List.set_cons_succ, i64_w, i32_w]
         rfl
        refine pure_ (i := 6) (N := some 20) (v := ?_) (a' := ?_) #[true, true, false, false, false, true, true, false, false, false, false, false] rfl rfl (any_of HT_.out (by kernel_rfl)) (fun _ _ _ h => h) (Or.inl ⟨by rfl, ?_⟩) ?_ ?_
        rotate_left
        ·intro w'
         go_simp
         with_reducible rfl
        rotate_left
        ·simp only [Act.put, List.setIfInBounds_toArray, List.set_cons_zero, List.set_cons_succ, i64_w, i32_w]
         rfl
        refine take_ (i := 2) (N := some 16) (v := ?_) (a' := ?_) #[true, true, true, false, false, true, true, false, false, false, false, false] rfl rfl (take_ofW HT_.out HW_.out (by kernel_rfl)) (fun _ _ _ h => h) (Or.inl ⟨by rfl, ?_⟩) hHeld ?_ ?_
        rotate_left
        ·rintro w' ⟨s0, s1⟩
         go_simp
         with_reducible rfl
        rotate_left
        ·simp only [Act.put, List.setIfInBounds_toArray, List.set_cons_zero, List.set_cons_succ, i64_w, i32_w]
         rfl
        refine take_ (i := 7) (N := some 21) (v := ?_) (a' := ?_) #[true, true, true, false, false, true, true, true, false, false, false, false] rfl rfl (take_ofW HT_.out HW_.out (by kernel_rfl)) (fun _ _ _ h => h) (Or.inl ⟨by rfl, ?_⟩) hHeld ?_ ?_
        rotate_left
        ·rintro w' ⟨s0, s1⟩
         go_simp
         with_reducible rfl
        rotate_left
        ·simp only [Act.put, List.setIfInBounds_toArray, List.set_cons_zero, List.set_cons_succ, i64_w, i32_w]
         rfl
        refine join_ (σ := Value × Value × Value) 3 #[true, true, true, true, true, true, true, true, true, false, false, false] (fun s_ => [(17, s_.1), (18, s_.2.1), (22, s_.2.2)]) (fun s_ w' => (w'.cell? ⟨Q03, 0, none⟩ = some (.int .i64 ((rd_T79 l0 x10_1).f0)) ∧ w'.cell? ⟨Q03, 1, none⟩ = some (.int .i64 ((rd_T79 l0 x10_1).f1))) ∧ (Kd.R (Kd.int .i64) 3 w' w.heap.size (fun k_ => some k_ ≠ (s_.2.1 : Value).ownBlock ∧ some k_ ≠ (s_.2.2 : Value).ownBlock ∧ some k_ ≠ (.slice Q06 x5_1.length Q07 : Value).ownBlock) s_.1 y103) ∧ (Kd.R (Kd.int .i64) 3 w' w.heap.size (fun k_ => some k_ ≠ (s_.1 : Value).ownBlock ∧ some k_ ≠ (s_.2.2 : Value).ownBlock ∧ some k_ ≠ (.slice Q06 x5_1.length Q07 : Value).ownBlock) s_.2.1 y106) ∧ (Kd.R (Kd.int .i64) 3 w' w.heap.size (fun k_ => some k_ ≠ (s_.1 : Value).ownBlock ∧ some k_ ≠ (s_.2.1 : Value).ownBlock ∧ some k_ ≠ (.slice Q06 x5_1.length Q07 : Value).ownBlock) s_.2.2 y109) ∧ (Kd.R (Kd.int .i64) 3 w' w.heap.size (fun k_ => some k_ ≠ (s_.1 : Value).ownBlock ∧ some k_ ≠ (s_.2.1 : Value).ownBlock ∧ some k_ ≠ (s_.2.2 : Value).ownBlock) (.slice Q06 x5_1.length Q07) x5_1) ∧ (w'.heap[Q03]? = some (.cells #[.int .i64 ((rd_T79 l0 x10_1).f0), .int .i64 ((rd_T79 l0 x10_1).f1)] 79 (0, 0))) ∧ (Below w.heap.size w w')) ?_ ?_
        rotate_left
        ·intro hCont
         refine two_ (i := 3) (j := 8) (Ni := some 17) (Nj := some 22) #[true, true, true, true, false, true, true, true, false, false, false, false] #[true, true, true, false, false, true, true, true, true, false, false, false] rfl rfl rfl rfl (two_of HT_.out (by kernel_rfl)) (by decide) (by decide) (fun K hK => ?_) (fun K hK => ?_)
         ·skip
          refine Kd.R_lit_step (Kd.int .i64) _ 3 ?hg (N := 17) ?hd (xs := ([(rd_T79 l0 x10_1).f0] : List Int)) (inner := [.int .i64 ((rd_T79 l0 x10_1).f0)]) (ok := fun _ => True) (okp := fun _ => True) ?hr ?hp (fun _ hk => hk) trivial (Below.refl _ _) (Nat.le_refl _) (by simp) ?_; (case hd => rfl); (case hg => rfl); (case hr => first | (go_simp; done) | (go_simp; rfl)); (case hp => exact (Reps.one (show Kd.M (Kd.int .i64) _ _ _ ((rd_T79 l0 x10_1).f0) [.int .i64 ((rd_T79 l0 x10_1).f0)] from rfl) (Reps.none _ _)))
          intro v104 w13 ho14 hb hg_ hnew_
          clear hg_ hnew_
          (first | rw [← Ny103.out] at ho14 | (simp only [Int.reduceToNat] at ho14; rw [← Ny103.out] at ho14))
          have Q04 := Aside0.mk (Kd.R_lower (Kd.R_new' (Kd.R_new' ho14 (Kd.R_lt (pR Q02))) (Kd.R_lt (pR Q01))) (below_size (pH HB)))
          replace Q02 := eR Q02 (Kd.R_base ho14) hb
          replace Q01 := eR Q01 (Kd.R_base ho14) hb
          replace Q00 := uB Q00 hb
          replace HB := uH HB hb
          clear hb ho14
          obtain ⟨Q0c, Q0d, Q0g⟩ := Kd.R_slice Q04.out
          (first | subst Q0g | (injection Q0g with f1_ f2_ f3_; have f4_ := f1_.symm; have f5_ := f3_.symm; clear f1_ f2_ f3_; subst f4_; subst f5_))
          refine hK.out _ _ ⟨bC Q00 0, bC Q00 1⟩ (fun hHeld => ?_)
          clear hK K
          refine norm_ (a' := ?_) ?_ ?_
          rotate_left
          ·show Act.put _ (some 17) _ = _
           simp only [Act.put, List.setIfInBounds_toArray, List.set_cons_zero, List.set_cons_succ, i64_w, i32_w]
           rfl
          refine two_ (i := 4) (j := 8) (Ni := some 18) (Nj := some 22) #[true, true, true, true, true, true, true, true, false, false, false, false] #[true, true, true, true, false, true, true, true, true, false, false, false] rfl rfl rfl rfl (two_of HT_.out (by kernel_rfl)) (by decide) (by decide) (fun K hK => ?_) (fun K hK => ?_)
          ·skip
           refine Kd.R_append_rows_step (Kd.int .i64) (w0 := w) w.heap.size (by rfl) (.tmp 14) (.tmp 17) 22 3 (.int .i64 0) 8 rfl Try.underlying22 info3 rfl (by decide) (by omega) (.slice Ao9 x4_1.length co9) x4_1 y103 _ _ _ (fun k_ => some k_ ≠ (.slice Q06 x5_1.length Q07 : Value).ownBlock ∧ some k_ ≠ (.slice Q0c y103.length Q0d : Value).ownBlock) (fun _ => False) rfl rfl ?aO ?aR (fun _ _ h => h) (fun _ h => h.elim) ?aF ?aB ?aS ?aL ?_
           (case aR => exact cX (Kd.R_reads' Q04.out).2.2)
           (case aB => exact (pH HB))
           (case aF => exact (fun k_ hk => ⟨Kd.fresh' (Kd.R_lt (pR Q01)) k_ hk, Kd.fresh' (Kd.R_lt (pR Q04)) k_ hk⟩))
           (case aO => exact (pR Q02))
           (case aS => exact (below_size (pH HB)))
           (case aL => have := LMc5.out; omega)
           intro v107 w15 ho hb hg hat
           rw [← Ny106.out] at ho
           replace Q01 := Aside0.mk (Kd.R_after (ok := (fun k_ => some k_ ≠ (.slice Q0c y103.length Q0d : Value).ownBlock)) (by (with_reducible repeat (first | apply rA | apply rN | apply rD)); exact Kd.R_mono Q01.out (fun _ hk => ⟨hk.2, hk.1⟩)) hg hat)
           replace Q00 := Aside0.mk (bG (g := Q03) (o := .cells #[.int .i64 ((rd_T79 l0 x10_1).f0), .int .i64 ((rd_T79 l0 x10_1).f1)] 79 (0, 0)) (pB Q00) hg (Kd.R_ne Q02.out Q00.out (by decide)))
           replace Q04 := Aside0.mk (Kd.R_after (ok := (fun k_ => some k_ ≠ (.slice Q06 x5_1.length Q07 : Value).ownBlock)) (by (with_reducible repeat (first | apply rA | apply rN | apply rD)); exact Kd.R_mono Q04.out (fun _ hk => ⟨hk.2, hk.1.2⟩)) hg hat)
           replace HB := Aside0.mk (hb)
           have Q08 := Aside0.mk (ho)
           clear Q02
           clear ho hb hg hat
           refine hK.out _ _ ⟨bC Q00 0, bC Q00 1⟩ (fun hHeld => ?_)
           clear hK K
           refine norm_ (a' := ?_) ?_ ?_
           rotate_left
           ·show Act.put _ (some 18) _ = _
            simp only [Act.put, List.setIfInBounds_toArray, List.set_cons_zero, List.set_cons_succ, i64_w, i32_w]
            rfl
           refine one_ (i := 8) (N := some 22) #[true, true, true, true, true, true, true, true, true, false, false, false] rfl rfl (one_of HT_.out (by kernel_rfl)) (by decide) (fun K hK => ?_)
           refine Kd.R_lit_step (Kd.int .i64) _ 3 ?hg (N := 22) ?hd (xs := ([(rd_T79 l0 x10_1).f1] : List Int)) (inner := [.int .i64 ((rd_T79 l0 x10_1).f1)]) (ok := fun _ => True) (okp := fun _ => True) ?hr ?hp (fun _ hk => hk) trivial (Below.refl _ _) (Nat.le_refl _) (by simp) ?_; (case hd => rfl); (case hg => rfl); (case hr => first | (go_simp; done) | (go_simp; rfl)); (case hp => exact (Reps.one (show Kd.M (Kd.int .i64) _ _ _ ((rd_T79 l0 x10_1).f1) [.int .i64 ((rd_T79 l0 x10_1).f1)] from rfl) (Reps.none _ _)))
           intro v110 w17 ho18 hb hg_ hnew_
           clear hg_ hnew_
           (first | rw [← Ny109.out] at ho18 | (simp only [Int.reduceToNat] at ho18; rw [← Ny109.out] at ho18))
           have Q05 := Aside0.mk (Kd.R_lower (Kd.R_new' (Kd.R_new' (Kd.R_new' ho18 (Kd.R_lt (pR Q01))) (Kd.R_lt (pR Q04))) (Kd.R_lt (pR Q08))) (below_size (pH HB)))
           replace Q01 := eR Q01 (Kd.R_base ho18) hb
           replace Q04 := eR Q04 (Kd.R_base ho18) hb
           replace Q08 := eR Q08 (Kd.R_base ho18) hb
           replace Q00 := uB Q00 hb
           replace HB := uH HB hb
           clear hb ho18
           refine hK.out _ _ ⟨bC Q00 0, bC Q00 1⟩ (fun hHeld => ?_)
           clear hK K
           refine norm_ (a' := ?_) ?_ ?_
           rotate_left
           ·show Act.put _ (some 22) _ = _
            simp only [Act.put, List.setIfInBounds_toArray, List.set_cons_zero, List.set_cons_succ, i64_w, i32_w]
            rfl
           exact norm_ (by simp only [putAll, Act.put, List.setIfInBounds_toArray, List.set_cons_zero, List.set_cons_succ]) (hCont (.slice Q0c y103.length Q0d, v107, v110) _ ⟨hHeld, (by (with_reducible repeat (first | apply rA | apply rN | apply rD)); exact Kd.R_mono Q04.out (fun _ hk => ⟨hk.1.2, ⟨hk.2, hk.1.1⟩⟩)), (by (with_reducible repeat (first | apply rA | apply rN | apply rD)); exact Kd.R_mono Q08.out (fun _ hk => ⟨hk.1.2, ⟨hk.2, hk.1.1⟩⟩)), (by (with_reducible repeat (first | apply rA | apply rN | apply rD)); exact Kd.R_mono Q05.out (fun _ hk => ⟨hk.1.2, ⟨hk.2, hk.1.1.2⟩⟩)), (by (with_reducible repeat (first | apply rA | apply rN | apply rD)); exact Kd.R_mono Q01.out (fun _ hk => ⟨hk.1.1, ⟨hk.1.2, hk.2⟩⟩)), (pB Q00), (pH HB)⟩)
          ·skip
           refine Kd.R_lit_step (Kd.int .i64) _ 3 ?hg (N := 22) ?hd (xs := ([(rd_T79 l0 x10_1).f1] : List Int)) (inner := [.int .i64 ((rd_T79 l0 x10_1).f1)]) (ok := fun _ => True) (okp := fun _ => True) ?hr ?hp (fun _ hk => hk) trivial (Below.refl _ _) (Nat.le_refl _) (by simp) ?_; (case hd => rfl); (case hg => rfl); (case hr => first | (go_simp; done) | (go_simp; rfl)); (case hp => exact (Reps.one (show Kd.M (Kd.int .i64) _ _ _ ((rd_T79 l0 x10_1).f1) [.int .i64 ((rd_T79 l0 x10_1).f1)] from rfl) (Reps.none _ _)))
           intro v110 w15 ho16 hb hg_ hnew_
           clear hg_ hnew_
           (first | rw [← Ny109.out] at ho16 | (simp only [Int.reduceToNat] at ho16; rw [← Ny109.out] at ho16))
           have Q05 := Aside0.mk (Kd.R_lower (Kd.R_new' (Kd.R_new' (Kd.R_new' ho16 (Kd.R_lt (pR Q02))) (Kd.R_lt (pR Q01))) (Kd.R_lt (pR Q04))) (below_size (pH HB)))
           replace Q02 := eR Q02 (Kd.R_base ho16) hb
           replace Q01 := eR Q01 (Kd.R_base ho16) hb
           replace Q04 := eR Q04 (Kd.R_base ho16) hb
           replace Q00 := uB Q00 hb
           replace HB := uH HB hb
           clear hb ho16
           obtain ⟨Q09, Q0a, Q0b⟩ := Kd.R_slice Q04.out
           (first | subst Q0b | (injection Q0b with f1_ f2_ f3_; have f4_ := f1_.symm; have f5_ := f3_.symm; clear f1_ f2_ f3_; subst f4_; subst f5_))
           refine hK.out _ _ ⟨bC Q00 0, bC Q00 1⟩ (fun hHeld => ?_)
           clear hK K
           refine norm_ (a' := ?_) ?_ ?_
           rotate_left
           ·show Act.put _ (some 22) _ = _
            simp only [Act.put, List.setIfInBounds_toArray, List.set_cons_zero, List.set_cons_succ, i64_w, i32_w]
            rfl
           refine one_ (i := 4) (N := some 18) #[true, true, true, true, true, true, true, true, true, false, false, false] rfl rfl (one_of HT_.out (by kernel_rfl)) (by decide) (fun K hK => ?_)
           refine Kd.R_append_rows_step (Kd.int .i64) (w0 := w) w.heap.size (by rfl) (.tmp 14) (.tmp 17) 22 3 (.int .i64 0) 8 rfl Try.underlying22 info3 rfl (by decide) (by omega) (.slice Ao9 x4_1.length co9) x4_1 y103 _ _ _ (fun k_ => some k_ ≠ (.slice Q06 x5_1.length Q07 : Value).ownBlock ∧ some k_ ≠ (.slice Q09 y103.length Q0a : Value).ownBlock ∧ some k_ ≠ (v110 : Value).ownBlock) (fun _ => False) rfl rfl ?aO ?aR (fun _ _ h => h) (fun _ h => h.elim) ?aF ?aB ?aS ?aL ?_
           (case aR => exact cX (Kd.R_reads' Q04.out).2.2)
           (case aB => exact (pH HB))
           (case aF => exact (fun k_ hk => ⟨Kd.fresh' (Kd.R_lt (pR Q01)) k_ hk, Kd.fresh' (Kd.R_lt (pR Q04)) k_ hk, Kd.fresh' (Kd.R_lt (pR Q05)) k_ hk⟩))
           (case aO => exact (by (with_reducible repeat (first | apply rA | apply rN | apply rD)); exact Kd.R_mono Q02.out (fun _ hk => ⟨hk.1.1, ⟨hk.1.2, hk.2⟩⟩)))
           (case aS => exact (below_size (pH HB)))
           (case aL => have := LMc5.out; omega)
           intro v107 w17 ho hb hg hat
           rw [← Ny106.out] at ho
           replace Q01 := Aside0.mk (Kd.R_after (ok := (fun k_ => some k_ ≠ (.slice Q09 y103.length Q0a : Value).ownBlock ∧ some k_ ≠ (v110 : Value).ownBlock)) (by (with_reducible repeat (first | apply rA | apply rN | apply rD)); exact Kd.R_mono Q01.out (fun _ hk => ⟨⟨hk.1.2, hk.2⟩, hk.1.1⟩)) hg hat)
           replace Q00 := Aside0.mk (bG (g := Q03) (o := .cells #[.int .i64 ((rd_T79 l0 x10_1).f0), .int .i64 ((rd_T79 l0 x10_1).f1)] 79 (0, 0)) (pB Q00) hg (Kd.R_ne Q02.out Q00.out (by decide)))
           replace Q04 := Aside0.mk (Kd.R_after (ok := (fun k_ => some k_ ≠ (.slice Q06 x5_1.length Q07 : Value).ownBlock ∧ some k_ ≠ (v110 : Value).ownBlock)) (by (with_reducible repeat (first | apply rA | apply rN | apply rD)); exact Kd.R_mono Q04.out (fun _ hk => ⟨⟨hk.1.2, hk.2⟩, hk.1.1.2⟩)) hg hat)
           replace Q05 := Aside0.mk (Kd.R_after (ok := (fun k_ => some k_ ≠ (.slice Q06 x5_1.length Q07 : Value).ownBlock ∧ some k_ ≠ (.slice Q09 y103.length Q0a : Value).ownBlock)) (by (with_reducible repeat (first | apply rA | apply rN | apply rD)); exact Kd.R_mono Q05.out (fun _ hk => ⟨⟨hk.1.2, hk.2⟩, hk.1.1.2⟩)) hg hat)
           replace HB := Aside0.mk (hb)
           have Q08 := Aside0.mk (ho)
           clear Q02
           clear ho hb hg hat
           refine hK.out _ _ ⟨bC Q00 0, bC Q00 1⟩ (fun hHeld => ?_)
           clear hK K
           refine norm_ (a' := ?_) ?_ ?_
           rotate_left
           ·show Act.put _ (some 18) _ = _
            simp only [Act.put, List.setIfInBounds_toArray, List.set_cons_zero, List.set_cons_succ, i64_w, i32_w]
            rfl
           exact norm_ (by simp only [putAll, Act.put, List.setIfInBounds_toArray, List.set_cons_zero, List.set_cons_succ]) (hCont (.slice Q09 y103.length Q0a, v107, v110) _ ⟨hHeld, (by (with_reducible repeat (first | apply rA | apply rN | apply rD)); exact Kd.R_mono Q04.out (fun _ hk => ⟨hk.2, ⟨hk.1.2, hk.1.1⟩⟩)), (by (with_reducible repeat (first | apply rA | apply rN | apply rD)); exact Kd.R_mono Q08.out (fun _ hk => ⟨hk.2.1, ⟨hk.2.2, hk.1⟩⟩)), (by (with_reducible repeat (first | apply rA | apply rN | apply rD)); exact Kd.R_mono Q05.out (fun _ hk => ⟨hk.1.2, ⟨hk.2, hk.1.1⟩⟩)), (by (with_reducible repeat (first | apply rA | apply rN | apply rD)); exact Kd.R_mono Q01.out (fun _ hk => ⟨hk.1.1, ⟨hk.2, hk.1.2⟩⟩)), (pB Q00), (pH HB)⟩)
         ·skip
          refine Kd.R_lit_step (Kd.int .i64) _ 3 ?hg (N := 22) ?hd (xs := ([(rd_T79 l0 x10_1).f1] : List Int)) (inner := [.int .i64 ((rd_T79 l0 x10_1).f1)]) (ok := fun _ => True) (okp := fun _ => True) ?hr ?hp (fun _ hk => hk) trivial (Below.refl _ _) (Nat.le_refl _) (by simp) ?_; (case hd => rfl); (case hg => rfl); (case hr => first | (go_simp; done) | (go_simp; rfl)); (case hp => exact (Reps.one (show Kd.M (Kd.int .i64) _ _ _ ((rd_T79 l0 x10_1).f1) [.int .i64 ((rd_T79 l0 x10_1).f1)] from rfl) (Reps.none _ _)))
          intro v110 w13 ho14 hb hg_ hnew_
          clear hg_ hnew_
          (first | rw [← Ny109.out] at ho14 | (simp only [Int.reduceToNat] at ho14; rw [← Ny109.out] at ho14))
          have Q05 := Aside0.mk (Kd.R_lower (Kd.R_new' (Kd.R_new' ho14 (Kd.R_lt (pR Q02))) (Kd.R_lt (pR Q01))) (below_size (pH HB)))
          replace Q02 := eR Q02 (Kd.R_base ho14) hb
          replace Q01 := eR Q01 (Kd.R_base ho14) hb
          replace Q00 := uB Q00 hb
          replace HB := uH HB hb
          clear hb ho14
          refine hK.out _ _ ⟨bC Q00 0, bC Q00 1⟩ (fun hHeld => ?_)
          clear hK K
          refine norm_ (a' := ?_) ?_ ?_
          rotate_left
          ·show Act.put _ (some 22) _ = _
           simp only [Act.put, List.setIfInBounds_toArray, List.set_cons_zero, List.set_cons_succ, i64_w, i32_w]
           rfl
          refine one_ (i := 3) (N := some 17) #[true, true, true, true, false, true, true, true, true, false, false, false] rfl rfl (one_of HT_.out (by kernel_rfl)) (by decide) (fun K hK => ?_)
          refine Kd.R_lit_step (Kd.int .i64) _ 3 ?hg (N := 17) ?hd (xs := ([(rd_T79 l0 x10_1).f0] : List Int)) (inner := [.int .i64 ((rd_T79 l0 x10_1).f0)]) (ok := fun _ => True) (okp := fun _ => True) ?hr ?hp (fun _ hk => hk) trivial (Below.refl _ _) (Nat.le_refl _) (by simp) ?_; (case hd => rfl); (case hg => rfl); (case hr => first | (go_simp; done) | (go_simp; rfl)); (case hp => exact (Reps.one (show Kd.M (Kd.int .i64) _ _ _ ((rd_T79 l0 x10_1).f0) [.int .i64 ((rd_T79 l0 x10_1).f0)] from rfl) (Reps.none _ _)))
          intro v104 w15 ho16 hb hg_ hnew_
          clear hg_ hnew_
          (first | rw [← Ny103.out] at ho16 | (simp only [Int.reduceToNat] at ho16; rw [← Ny103.out] at ho16))
          have Q04 := Aside0.mk (Kd.R_lower (Kd.R_new' (Kd.R_new' (Kd.R_new' ho16 (Kd.R_lt (pR Q02))) (Kd.R_lt (pR Q01))) (Kd.R_lt (pR Q05))) (below_size (pH HB)))
          replace Q02 := eR Q02 (Kd.R_base ho16) hb
          replace Q01 := eR Q01 (Kd.R_base ho16) hb
          replace Q05 := eR Q05 (Kd.R_base ho16) hb
          replace Q00 := uB Q00 hb
          replace HB := uH HB hb
          clear hb ho16
          obtain ⟨Q09, Q0a, Q0b⟩ := Kd.R_slice Q04.out
          (first | subst Q0b | (injection Q0b with f1_ f2_ f3_; have f4_ := f1_.symm; have f5_ := f3_.symm; clear f1_ f2_ f3_; subst f4_; subst f5_))
          refine hK.out _ _ ⟨bC Q00 0, bC Q00 1⟩ (fun hHeld => ?_)
          clear hK K
          refine norm_ (a' := ?_) ?_ ?_
          rotate_left
          ·show Act.put _ (some 17) _ = _
           simp only [Act.put, List.setIfInBounds_toArray, List.set_cons_zero, List.set_cons_succ, i64_w, i32_w]
           rfl
          refine one_ (i := 4) (N := some 18) #[true, true, true, true, true, true, true, true, true, false, false, false] rfl rfl (one_of HT_.out (by kernel_rfl)) (by decide) (fun K hK => ?_)
          refine Kd.R_append_rows_step (Kd.int .i64) (w0 := w) w.heap.size (by rfl) (.tmp 14) (.tmp 17) 22 3 (.int .i64 0) 8 rfl Try.underlying22 info3 rfl (by decide) (by omega) (.slice Ao9 x4_1.length co9) x4_1 y103 _ _ _ (fun k_ => some k_ ≠ (.slice Q06 x5_1.length Q07 : Value).ownBlock ∧ some k_ ≠ (v110 : Value).ownBlock ∧ some k_ ≠ (.slice Q09 y103.length Q0a : Value).ownBlock) (fun _ => False) rfl rfl ?aO ?aR (fun _ _ h => h) (fun _ h => h.elim) ?aF ?aB ?aS ?aL ?_
          (case aR => exact cX (Kd.R_reads' Q04.out).2.2)
          (case aB => exact (pH HB))
          (case aF => exact (fun k_ hk => ⟨Kd.fresh' (Kd.R_lt (pR Q01)) k_ hk, Kd.fresh' (Kd.R_lt (pR Q05)) k_ hk, Kd.fresh' (Kd.R_lt (pR Q04)) k_ hk⟩))
          (case aO => exact (by (with_reducible repeat (first | apply rA | apply rN | apply rD)); exact Kd.R_mono Q02.out (fun _ hk => ⟨hk.1.1, ⟨hk.1.2, hk.2⟩⟩)))
          (case aS => exact (below_size (pH HB)))
          (case aL => have := LMc5.out; omega)
          intro v107 w17 ho hb hg hat
          rw [← Ny106.out] at ho
          replace Q01 := Aside0.mk (Kd.R_after (ok := (fun k_ => some k_ ≠ (v110 : Value).ownBlock ∧ some k_ ≠ (.slice Q09 y103.length Q0a : Value).ownBlock)) (by (with_reducible repeat (first | apply rA | apply rN | apply rD)); exact Kd.R_mono Q01.out (fun _ hk => ⟨⟨hk.1.2, hk.2⟩, hk.1.1⟩)) hg hat)
          replace Q00 := Aside0.mk (bG (g := Q03) (o := .cells #[.int .i64 ((rd_T79 l0 x10_1).f0), .int .i64 ((rd_T79 l0 x10_1).f1)] 79 (0, 0)) (pB Q00) hg (Kd.R_ne Q02.out Q00.out (by decide)))
          replace Q05 := Aside0.mk (Kd.R_after (ok := (fun k_ => some k_ ≠ (.slice Q06 x5_1.length Q07 : Value).ownBlock ∧ some k_ ≠ (.slice Q09 y103.length Q0a : Value).ownBlock)) (by (with_reducible repeat (first | apply rA | apply rN | apply rD)); exact Kd.R_mono Q05.out (fun _ hk => ⟨⟨hk.1.2, hk.2⟩, hk.1.1.2⟩)) hg hat)
          replace Q04 := Aside0.mk (Kd.R_after (ok := (fun k_ => some k_ ≠ (.slice Q06 x5_1.length Q07 : Value).ownBlock ∧ some k_ ≠ (v110 : Value).ownBlock)) (by (with_reducible repeat (first | apply rA | apply rN | apply rD)); exact Kd.R_mono Q04.out (fun _ hk => ⟨⟨hk.1.2, hk.2⟩, hk.1.1.2⟩)) hg hat)
          replace HB := Aside0.mk (hb)
          have Q08 := Aside0.mk (ho)
          clear Q02
          clear ho hb hg hat
          refine hK.out _ _ ⟨bC Q00 0, bC Q00 1⟩ (fun hHeld => ?_)
          clear hK K
          refine norm_ (a' := ?_) ?_ ?_
          rotate_left
          ·show Act.put _ (some 18) _ = _
           simp only [Act.put, List.setIfInBounds_toArray, List.set_cons_zero, List.set_cons_succ, i64_w, i32_w]
           rfl
          exact norm_ (by simp only [putAll, Act.put, List.setIfInBounds_toArray, List.set_cons_zero, List.set_cons_succ]) (hCont (.slice Q09 y103.length Q0a, v107, v110) _ ⟨hHeld, (by (with_reducible repeat (first | apply rA | apply rN | apply rD)); exact Kd.R_mono Q04.out (fun _ hk => ⟨hk.2, ⟨hk.1.2, hk.1.1⟩⟩)), (by (with_reducible repeat (first | apply rA | apply rN | apply rD)); exact Kd.R_mono Q08.out (fun _ hk => ⟨hk.2.2, ⟨hk.2.1, hk.1⟩⟩)), (by (with_reducible repeat (first | apply rA | apply rN | apply rD)); exact Kd.R_mono Q05.out (fun _ hk => ⟨hk.1.2, ⟨hk.2, hk.1.1⟩⟩)), (by (with_reducible repeat (first | apply rA | apply rN | apply rD)); exact Kd.R_mono Q01.out (fun _ hk => ⟨hk.1.2, ⟨hk.2, hk.1.1⟩⟩)), (pB Q00), (pH HB)⟩)
        rintro ⟨v104, v107, v110⟩ w19 ⟨hS_, h0_, h1_, h2_, h3_, h4_, h5_⟩
        have n0_ : Aside0 (Kd.R (Kd.int .i64) 3 w19 w.heap.size (fun k_ => some k_ ≠ (v107 : Value).ownBlock ∧ some k_ ≠ (v110 : Value).ownBlock ∧ some k_ ≠ (.slice Q06 x5_1.length Q07 : Value).ownBlock) v104 y103) := ⟨h0_⟩
        have n1_ : Aside0 (Kd.R (Kd.int .i64) 3 w19 w.heap.size (fun k_ => some k_ ≠ (v104 : Value).ownBlock ∧ some k_ ≠ (v110 : Value).ownBlock ∧ some k_ ≠ (.slice Q06 x5_1.length Q07 : Value).ownBlock) v107 y106) := ⟨h1_⟩
        have n2_ : Aside0 (Kd.R (Kd.int .i64) 3 w19 w.heap.size (fun k_ => some k_ ≠ (v104 : Value).ownBlock ∧ some k_ ≠ (v107 : Value).ownBlock ∧ some k_ ≠ (.slice Q06 x5_1.length Q07 : Value).ownBlock) v110 y109) := ⟨h2_⟩
        have n3_ : Aside0 (Kd.R (Kd.int .i64) 3 w19 w.heap.size (fun k_ => some k_ ≠ (v104 : Value).ownBlock ∧ some k_ ≠ (v107 : Value).ownBlock ∧ some k_ ≠ (v110 : Value).ownBlock) (.slice Q06 x5_1.length Q07) x5_1) := ⟨h3_⟩
        have n4_ : Aside0 (w19.heap[Q03]? = some (.cells #[.int .i64 ((rd_T79 l0 x10_1).f0), .int .i64 ((rd_T79 l0 x10_1).f1)] 79 (0, 0))) := ⟨h4_⟩
        have n5_ : Aside0 (Below w.heap.size w w19) := ⟨h5_⟩
        clear Q02
        clear Q01
        clear Q00
        clear HB
        clear h0_ h1_ h2_ h3_ h4_ h5_
        have Q04 := n0_
        have Q08 := n1_
        have Q05 := n2_
        have Q01 := n3_
        have Q00 := n4_
        have HB := n5_
        clear n0_ n1_ n2_ n3_ n4_ n5_
        have hHeld : w19.cell? ⟨Q03, 0, none⟩ = some (.int .i64 ((rd_T79 l0 x10_1).f0)) ∧ w19.cell? ⟨Q03, 1, none⟩ = some (.int .i64 ((rd_T79 l0 x10_1).f1)) := hS_
        obtain ⟨Q0e, Q0f, Q0h⟩ := Kd.R_slice Q05.out
        (first | subst Q0h | (injection Q0h with f1_ f2_ f3_; have f4_ := f1_.symm; have f5_ := f3_.symm; clear f1_ f2_ f3_; subst f4_; subst f5_))
        refine norm_ (a' := ?_) ?_ ?_
        rotate_left
        ·simp only [putAll, Act.put, List.setIfInBounds_toArray, List.set_cons_zero, List.set_cons_succ]
         rfl
        refine one_ (i := 9) (N := some 23) #[true, true, true, true, true, true, true, true, true, true, false, false] rfl rfl (one_of HT_.out (by kernel_rfl)) (by decide) (fun K hK => ?_)
        refine Kd.R_append_rows_step (Kd.int .i64) (w0 := w) w.heap.size (by rfl) (.tmp 19) (.tmp 22) 22 3 (.int .i64 0) 8 rfl Try.underlying22 info3 rfl (by decide) (by omega) (.slice Q06 x5_1.length Q07) x5_1 y109 _ _ _ (fun k_ => some k_ ≠ (v104 : Value).ownBlock ∧ some k_ ≠ (v107 : Value).ownBlock ∧ some k_ ≠ (.slice Q0e y109.length Q0f : Value).ownBlock) (fun _ => False) rfl rfl ?aO ?aR (fun _ _ h => h) (fun _ h => h.elim) ?aF ?aB ?aS ?aL ?_
        (case aR => exact cX (Kd.R_reads' Q05.out).2.2)
        (case aB => exact (pH HB))
        (case aF => exact (fun k_ hk => ⟨Kd.fresh' (Kd.R_lt (pR Q04)) k_ hk, Kd.fresh' (Kd.R_lt (pR Q08)) k_ hk, Kd.fresh' (Kd.R_lt (pR Q05)) k_ hk⟩))
        (case aO => exact (pR Q01))
        (case aS => exact (below_size (pH HB)))
        (case aL => have := LMc6.out; omega)
        intro v113 w20 ho hb hg hat
        rw [← Ny112.out] at ho
        replace Q00 := Aside0.mk (bG (g := Q03) (o := .cells #[.int .i64 ((rd_T79 l0 x10_1).f0), .int .i64 ((rd_T79 l0 x10_1).f1)] 79 (0, 0)) (pB Q00) hg (Kd.R_ne Q01.out Q00.out (by decide)))
        replace Q04 := Aside0.mk (Kd.R_after (ok := (fun k_ => some k_ ≠ (v107 : Value).ownBlock ∧ some k_ ≠ (.slice Q0e y109.length Q0f : Value).ownBlock)) (by (with_reducible repeat (first | apply rA | apply rN | apply rD)); exact Kd.R_mono Q04.out (fun _ hk => ⟨⟨hk.1, hk.2.1⟩, hk.2.2⟩)) hg hat)
        replace Q08 := Aside0.mk (Kd.R_after (ok := (fun k_ => some k_ ≠ (v104 : Value).ownBlock ∧ some k_ ≠ (.slice Q0e y109.length Q0f : Value).ownBlock)) (by (with_reducible repeat (first | apply rA | apply rN | apply rD)); exact Kd.R_mono Q08.out (fun _ hk => ⟨⟨hk.1, hk.2.1⟩, hk.2.2⟩)) hg hat)
        replace Q05 := Aside0.mk (Kd.R_after (ok := (fun k_ => some k_ ≠ (v104 : Value).ownBlock ∧ some k_ ≠ (v107 : Value).ownBlock)) (by (with_reducible repeat (first | apply rA | apply rN | apply rD)); exact Kd.R_mono Q05.out (fun _ hk => ⟨⟨hk.1, hk.2.1⟩, hk.2.2⟩)) hg hat)
        replace HB := Aside0.mk (hb)
        have Q0j := Aside0.mk (ho)
        clear Q01
        clear ho hb hg hat
        refine hK.out _ _ ⟨bC Q00 0, bC Q00 1⟩ (fun hHeld => ?_)
        clear hK K
        refine norm_ (a' := ?_) ?_ ?_
        rotate_left
        ·show Act.put _ (some 23) _ = _
         simp only [Act.put, List.setIfInBounds_toArray, List.set_cons_zero, List.set_cons_succ, i64_w, i32_w]
         rfl
        refine pure_ (i := 10) (N := some 4) (v := ?_) (a' := ?_) #[true, true, true, true, true, true, true, true, true, true, true, false] rfl rfl (any_of HT_.out (by kernel_rfl)) (fun _ _ _ h => h) (Or.inl ⟨by rfl, ?_⟩) ?_ ?_
        rotate_left
        ·intro w'
         go_simp
         with_reducible rfl
        rotate_left
        ·simp only [Act.put, List.setIfInBounds_toArray, List.set_cons_zero, List.set_cons_succ, i64_w, i32_w]
         rfl
        refine pure_ (i := 11) (N := some 5) (v := ?_) (a' := ?_) #[true, true, true, true, true, true, true, true, true, true, true, true] rfl rfl (any_of HT_.out (by kernel_rfl)) (fun _ _ _ h => h) (Or.inl ⟨by rfl, ?_⟩) ?_ ?_
        rotate_left
        ·intro w'
         go_simp
         with_reducible rfl
        rotate_left
        ·simp only [Act.put, List.setIfInBounds_toArray, List.set_cons_zero, List.set_cons_succ, i64_w, i32_w]
         rfl
        refine done_ (done_of HT_.out (by kernel_rfl)) ?_
        try go_wp2
        go_roundg k1
        case measure => have := HK1.out; omega
        case rel => exact ⟨(y106), (y112), (wrap64 (x10_1 + 1)), rS, H', ⟨by have := HK1.out; omega⟩, ⟨by (with_reducible repeat (first | apply rA | apply rN | apply rD)); exact Kd.R_mono Q08.out (fun _ hk => hk.2)⟩, ⟨by (with_reducible repeat (first | apply rA | apply rN | apply rD)); exact Kd.R_mono Q0j.out (fun _ hk => hk.2.1)⟩, ⟨pH HB⟩⟩
       ·rw [if_neg c6] at H
        exact absurd H (by simp)
      ·rw [if_neg c5] at H
       exact absurd H (by simp)
     ·rw [if_neg c4] at H
      exact absurd H (by simp)
    ·rw [if_neg c3] at H
     exact absurd H (by simp)
   ·rw [if_neg c2] at H
    have c2b0 : decide (x10_1 < (l0.length : Int)) = false := decide_eq_false c2
    clear c2
    simp only [Option.some.injEq, Prod.mk.injEq] at H
    obtain ⟨rfl, rfl⟩ := H
    go_wp2
    go_ret2
    exact ⟨_, _, by first | rfl | (simp [errW_none, errW_some] <;> rfl) | (simp [*, errW_none, errW_some] <;> rfl), by (with_reducible repeat (first | apply rA | apply rN | apply rD)); exact Q02.out, by (with_reducible repeat (first | apply rA | apply rN | apply rD)); exact Q01.out, by repeat (first | (with_reducible first | exact HB.out | apply wA | apply wN | apply wD) | exact HB.out)⟩
end Go.Proofs.Ytillofiphkmjjaa.X

/- pullback.Of (20), walked by hand. -/
namespace Go.Proofs.Ytillofiphkmjjaa.X
open Go.RowKit Go.Proofs.YtillofiphkmjjaaW.PrintWords Go.Proofs.YtillofiphkmjjaaW.PrintLast Go.Proofs.YtillofiphkmjjaaW.PrintMore
set_option linter.unusedVariables false
set_option linter.unusedSimpArgs false
theorem Box2.qf {W : World} {g t : Nat} {a b : Value} (h : Box2 W g t a b) : W.cell? ⟨g, 0, none⟩ = some a ∧ W.cell? ⟨g, 1, none⟩ = some b ∧ W.frozen? ⟨g, 0, none⟩ = false ∧ W.frozen? ⟨g, 1, none⟩ = false := ⟨h.c0, h.c1, blk_frozen h.get 0, blk_frozen h.get 1⟩
def pullback_Of.f (k : Nat) (l0_0 : List Int) (l0_1 : List (S94)) (l0_2 : List Int) (l0_3 : List (S94)) (l0_4 : List Int) (l0_5 : List (S94)) (l0_6 : List Int) (l0_7 : List Int) (l0_8 : List Int) (l0_9 : List Int) : Option (List Int × (List (S94)) × List Int × List Int × List Int × List Int × Int) := (pullback_of.f k l0_0 l0_1 l0_2 l0_3 l0_4 l0_5 l0_6 l0_7 l0_8 l0_9).bind fun bt20105 => (if bt20105.2.2.2.2 = 0 then ((pullback_sides.f k bt20105.1).bind fun bt20121 => ((pullback_sides.f k bt20105.2.1).bind fun bt20127 => (some (bt20105.2.2.1, bt20105.2.2.2.1, bt20121.1, bt20127.1, bt20121.2, bt20127.2, 0)))) else (some (([] : List Int), ([] : List (S94)), ([] : List Int), ([] : List Int), ([] : List Int), ([] : List Int), bt20105.2.2.2.2)))
set_option maxHeartbeats 4000000 in
set_option maxRecDepth 100000 in
theorem Of_b (k : Nat) (A0 : Option Addr) (c0 : Nat) (x0 : List Int) (A1 : Option Addr) (c1 : Nat) (x1 : List S94) (A2 : Option Addr) (c2 : Nat) (x2 : List Int) (A3 : Option Addr) (c3 : Nat) (x3 : List S94) (A4 : Option Addr) (c4 : Nat) (x4 : List Int) (A5 : Option Addr) (c5 : Nat) (x5 : List S94) (A6 : Option Addr) (c6 : Nat) (x6 : List Int) (A7 : Option Addr) (c7 : Nat) (x7 : List Int) (A8 : Option Addr) (c8 : Nat) (x8 : List Int) (A9 : Option Addr) (c9 : Nat) (x9 : List Int) (w : World)
  (R0 : Row (Kd.int .i64) w A0 c0 x0) (R1 : Row k94 w A1 c1 x1) (R2 : Row (Kd.int .i64) w A2 c2 x2) (R3 : Row k94 w A3 c3 x3) (R4 : Row (Kd.int .i64) w A4 c4 x4) (R5 : Row k94 w A5 c5 x5) (R6 : Row (Kd.int .i64) w A6 c6 x6) (R7 : Row (Kd.int .i64) w A7 c7 x7) (R8 : Row (Kd.int .i64) w A8 c8 x8) (R9 : Row (Kd.int .i64) w A9 c9 x9)
  (P Q : List S79) (n : List Int) (m : List S94) (s0 s1 t0 t1 : List Int) (hO : pullback_of.f k x0 x1 x2 x3 x4 x5 x6 x7 x8 x9 = some (P, Q, n, m, 0)) (hS : pullback_sides.f k P = some (s0, s1)) (hT : pullback_sides.f k Q = some (t0, t1)) :
  Calls Try.prog 20 #[.agg #[.slice A0 x0.length c0, .slice A1 x1.length c1, .slice A2 x2.length c2, .slice A3 x3.length c3, .slice A4 x4.length c4, .slice A5 x5.length c5, .slice A6 x6.length c6, .slice A7 x7.length c7, .slice A8 x8.length c8, .slice A9 x9.length c9]] w fun e w' => ∃ v0 v1 v2 v3 v4 v5 : Value, e = .returned (.tuple #[.agg #[v0, v1], .agg #[v2, v3], .agg #[v4, v5], .int .i64 0]) ∧ Vr (Kd.int .i64) w' v0 n ∧ Vr k94 w' v1 m ∧ Vr (Kd.int .i64) w' v2 s0 ∧ Vr (Kd.int .i64) w' v3 t0 ∧ Vr (Kd.int .i64) w' v4 s1 ∧ Vr (Kd.int .i64) w' v5 t1 ∧ Below w.heap.size w w' := by
 have hO_ := Aside0.mk hO
 have hS_ := Aside0.mk hS
 have hT_ := Aside0.mk hT
 clear hO hS hT
 have hu25 := Try.underlying25
 have hu27 := Try.underlying27
 have hu29 := Try.underlying29
 have hu81 := Try.underlying81
 have SB := Since.refl w
 go_enter Try.func20, Try.ntmps20
 go_upto_region 1 with fail
 obtain ⟨BS, hb⟩ := blk_new1 w 29 #[.slice A0 x0.length c0, .slice A1 x1.length c1, .slice A2 x2.length c2, .slice A3 x3.length c3, .slice A4 x4.length c4, .slice A5 x5.length c5, .slice A6 x6.length c6, .slice A7 x7.length c7, .slice A8 x8.length c8, .slice A9 x9.length c9]
 replace R0 := R0.below hb
 replace R1 := R1.below hb
 replace R2 := R2.below hb
 replace R3 := R3.below hb
 replace R4 := R4.below hb
 replace R5 := R5.below hb
 replace R6 := R6.below hb
 replace R7 := R7.below hb
 replace R8 := R8.below hb
 replace R9 := R9.below hb
 replace SB := SB.step hb
 clear hb
 obtain ⟨D2, hb⟩ := blk_new1 (w.alloc (.cells #[.slice A0 x0.length c0, .slice A1 x1.length c1, .slice A2 x2.length c2, .slice A3 x3.length c3, .slice A4 x4.length c4, .slice A5 x5.length c5, .slice A6 x6.length c6, .slice A7 x7.length c7, .slice A8 x8.length c8, .slice A9 x9.length c9] 29)) 25 #[.slice none 0 0, .slice none 0 0]
 replace R0 := R0.below hb
 replace R1 := R1.below hb
 replace R2 := R2.below hb
 replace R3 := R3.below hb
 replace R4 := R4.below hb
 replace R5 := R5.below hb
 replace R6 := R6.below hb
 replace R7 := R7.below hb
 replace R8 := R8.below hb
 replace R9 := R9.below hb
 replace BS := BS.below hb
 replace SB := SB.step hb
 clear hb
 obtain ⟨D3, hb⟩ := blk_new1 ((w.alloc (.cells #[.slice A0 x0.length c0, .slice A1 x1.length c1, .slice A2 x2.length c2, .slice A3 x3.length c3, .slice A4 x4.length c4, .slice A5 x5.length c5, .slice A6 x6.length c6, .slice A7 x7.length c7, .slice A8 x8.length c8, .slice A9 x9.length c9] 29)).alloc (.cells #[.slice none 0 0, .slice none 0 0] 25)) 27 #[.slice none 0 0, .slice none 0 0]
 replace R0 := R0.below hb
 replace R1 := R1.below hb
 replace R2 := R2.below hb
 replace R3 := R3.below hb
 replace R4 := R4.below hb
 replace R5 := R5.below hb
 replace R6 := R6.below hb
 replace R7 := R7.below hb
 replace R8 := R8.below hb
 replace R9 := R9.below hb
 replace BS := BS.below hb
 replace D2 := D2.below hb
 replace SB := SB.step hb
 clear hb
 obtain ⟨D4, hb⟩ := blk_new1 (((w.alloc (.cells #[.slice A0 x0.length c0, .slice A1 x1.length c1, .slice A2 x2.length c2, .slice A3 x3.length c3, .slice A4 x4.length c4, .slice A5 x5.length c5, .slice A6 x6.length c6, .slice A7 x7.length c7, .slice A8 x8.length c8, .slice A9 x9.length c9] 29)).alloc (.cells #[.slice none 0 0, .slice none 0 0] 25)).alloc (.cells #[.slice none 0 0, .slice none 0 0] 27)) 27 #[.slice none 0 0, .slice none 0 0]
 replace R0 := R0.below hb
 replace R1 := R1.below hb
 replace R2 := R2.below hb
 replace R3 := R3.below hb
 replace R4 := R4.below hb
 replace R5 := R5.below hb
 replace R6 := R6.below hb
 replace R7 := R7.below hb
 replace R8 := R8.below hb
 replace R9 := R9.below hb
 replace BS := BS.below hb
 replace D2 := D2.below hb
 replace D3 := D3.below hb
 replace SB := SB.step hb
 clear hb
 simp only [size_alloc1] at D2 D3 D4
 generalize hw : ((((w.alloc (.cells #[.slice A0 x0.length c0, .slice A1 x1.length c1, .slice A2 x2.length c2, .slice A3 x3.length c3, .slice A4 x4.length c4, .slice A5 x5.length c5, .slice A6 x6.length c6, .slice A7 x7.length c7, .slice A8 x8.length c8, .slice A9 x9.length c9] 29)).alloc (.cells #[.slice none 0 0, .slice none 0 0] 25)).alloc (.cells #[.slice none 0 0, .slice none 0 0] 27)).alloc (.cells #[.slice none 0 0, .slice none 0 0] 27)) = w1 at *
 clear hw
 have BSx0 := BS.at 0 rfl
 have BSx1 := BS.at 1 rfl
 have BSx2 := BS.at 2 rfl
 have BSx3 := BS.at 3 rfl
 have BSx4 := BS.at 4 rfl
 have BSx5 := BS.at 5 rfl
 have BSx6 := BS.at 6 rfl
 have BSx7 := BS.at 7 rfl
 have BSx8 := BS.at 8 rfl
 have BSx9 := BS.at 9 rfl
 have D2x0 := D2.at 0 rfl
 have D2x1 := D2.at 1 rfl
 have D3x0 := D3.at 0 rfl
 have D3x1 := D3.at 1 rfl
 have D4x0 := D4.at 0 rfl
 have D4x1 := D4.at 1 rfl
 go_wp2_with fail
 refine (pullback_of.calls k _ _ x0 _ _ x1 _ _ x2 _ _ x3 _ _ x4 _ _ x5 _ _ x6 _ _ x7 _ _ x8 _ _ x9 P Q n m 0 _ R0.at_ R0.cap R1.at_ R1.cap R2.at_ R2.cap R3.at_ R3.cap R4.at_ R4.cap R5.at_ R5.cap R6.at_ R6.cap R7.at_ R7.cap R8.at_ R8.cap R9.at_ R9.cap hO_.out).mono ?_
 rintro e w2 ⟨y0, y1, y2, y3, rfl, q0, q1, q2, q3, hb⟩
 replace hb := bS (w := w1) hb
 replace R0 := R0.below hb
 replace R1 := R1.below hb
 replace R2 := R2.below hb
 replace R3 := R3.below hb
 replace R4 := R4.below hb
 replace R5 := R5.below hb
 replace R6 := R6.below hb
 replace R7 := R7.below hb
 replace R8 := R8.below hb
 replace R9 := R9.below hb
 replace BS := BS.below hb
 replace D2 := D2.below hb
 replace D3 := D3.below hb
 replace D4 := D4.below hb
 replace SB := SB.step hb
 clear hb
 obtain ⟨P0, p0, rfl, Q0⟩ := Row.of_R q0
 clear q0
 obtain ⟨P1, p1, rfl, Q1⟩ := Row.of_R q1
 clear q1
 obtain ⟨P2, p2, rfl, Q2⟩ := Row.of_R q2
 clear q2
 obtain ⟨P3, p3, rfl, Q3⟩ := Row.of_R q3
 clear q3
 have hlt := blk_lt D4.get
 go_upto_region 5 with fail
 clear BS R0 R1 R2 R3 R4 R5 R6 R7 R8 R9 BSx0 BSx1 BSx2 BSx3 BSx4 BSx5 BSx6 BSx7 BSx8 BSx9 D2x0 D2x1 D3x0 D3x1 D4x0 D4x1
 obtain ⟨B6, hb⟩ := blk_new1 w2 81 #[.slice P0 P.length p0, .slice P1 Q.length p1, .slice P2 n.length p2, .slice P3 m.length p3]
 replace Q0 := Q0.below hb
 replace Q1 := Q1.below hb
 replace Q2 := Q2.below hb
 replace Q3 := Q3.below hb
 replace D2 := D2.below hb
 replace D3 := D3.below hb
 replace D4 := D4.below hb
 replace SB := SB.step hb
 clear hb
 obtain ⟨D8, hb⟩ := blk_new1 (w2.alloc (.cells #[.slice P0 P.length p0, .slice P1 Q.length p1, .slice P2 n.length p2, .slice P3 m.length p3] 81)) 27 #[.slice none 0 0, .slice none 0 0]
 replace Q0 := Q0.below hb
 replace Q1 := Q1.below hb
 replace Q2 := Q2.below hb
 replace Q3 := Q3.below hb
 replace D2 := D2.below hb
 replace D3 := D3.below hb
 replace D4 := D4.below hb
 replace B6 := B6.below hb
 replace SB := SB.step hb
 clear hb
 obtain ⟨D9, hb⟩ := blk_new1 ((w2.alloc (.cells #[.slice P0 P.length p0, .slice P1 Q.length p1, .slice P2 n.length p2, .slice P3 m.length p3] 81)).alloc (.cells #[.slice none 0 0, .slice none 0 0] 27)) 27 #[.slice none 0 0, .slice none 0 0]
 replace Q0 := Q0.below hb
 replace Q1 := Q1.below hb
 replace Q2 := Q2.below hb
 replace Q3 := Q3.below hb
 replace D2 := D2.below hb
 replace D3 := D3.below hb
 replace D4 := D4.below hb
 replace B6 := B6.below hb
 replace D8 := D8.below hb
 replace SB := SB.step hb
 clear hb
 simp only [size_alloc1] at D8 D9
 generalize hw : (((w2.alloc (.cells #[.slice P0 P.length p0, .slice P1 Q.length p1, .slice P2 n.length p2, .slice P3 m.length p3] 81)).alloc (.cells #[.slice none 0 0, .slice none 0 0] 27)).alloc (.cells #[.slice none 0 0, .slice none 0 0] 27)) = w3 at *
 clear hw
 replace D2 : Box2 w3 _ 25 (.slice none 0 0) (.slice none 0 0) := ⟨D2.get⟩
 replace D3 : Box2 w3 _ 27 (.slice none 0 0) (.slice none 0 0) := ⟨D3.get⟩
 replace D4 : Box2 w3 _ 27 (.slice none 0 0) (.slice none 0 0) := ⟨D4.get⟩
 replace D8 : Box2 w3 _ 27 (.slice none 0 0) (.slice none 0 0) := ⟨D8.get⟩
 replace D9 : Box2 w3 _ 27 (.slice none 0 0) (.slice none 0 0) := ⟨D9.get⟩
 have le2 : w.heap.size ≤ w.heap.size + 1 := by omega
 have ne23 : w.heap.size + 1 ≠ w.heap.size + 1 + 1 := by omega
 have ne24 : w.heap.size + 1 ≠ w.heap.size + 1 + 1 + 1 := by omega
 have ne26 : w.heap.size + 1 ≠ w2.heap.size := by omega
 have ne28 : w.heap.size + 1 ≠ w2.heap.size + 1 := by omega
 have ne29 : w.heap.size + 1 ≠ w2.heap.size + 1 + 1 := by omega
 have le3 : w.heap.size ≤ w.heap.size + 1 + 1 := by omega
 have ne32 : w.heap.size + 1 + 1 ≠ w.heap.size + 1 := by omega
 have ne34 : w.heap.size + 1 + 1 ≠ w.heap.size + 1 + 1 + 1 := by omega
 have ne36 : w.heap.size + 1 + 1 ≠ w2.heap.size := by omega
 have ne38 : w.heap.size + 1 + 1 ≠ w2.heap.size + 1 := by omega
 have ne39 : w.heap.size + 1 + 1 ≠ w2.heap.size + 1 + 1 := by omega
 have le4 : w.heap.size ≤ w.heap.size + 1 + 1 + 1 := by omega
 have ne42 : w.heap.size + 1 + 1 + 1 ≠ w.heap.size + 1 := by omega
 have ne43 : w.heap.size + 1 + 1 + 1 ≠ w.heap.size + 1 + 1 := by omega
 have ne46 : w.heap.size + 1 + 1 + 1 ≠ w2.heap.size := by omega
 have ne48 : w.heap.size + 1 + 1 + 1 ≠ w2.heap.size + 1 := by omega
 have ne49 : w.heap.size + 1 + 1 + 1 ≠ w2.heap.size + 1 + 1 := by omega
 have le6 : w.heap.size ≤ w2.heap.size := by omega
 have ne62 : w2.heap.size ≠ w.heap.size + 1 := by omega
 have ne63 : w2.heap.size ≠ w.heap.size + 1 + 1 := by omega
 have ne64 : w2.heap.size ≠ w.heap.size + 1 + 1 + 1 := by omega
 have ne68 : w2.heap.size ≠ w2.heap.size + 1 := by omega
 have ne69 : w2.heap.size ≠ w2.heap.size + 1 + 1 := by omega
 have le8 : w.heap.size ≤ w2.heap.size + 1 := by omega
 have ne82 : w2.heap.size + 1 ≠ w.heap.size + 1 := by omega
 have ne83 : w2.heap.size + 1 ≠ w.heap.size + 1 + 1 := by omega
 have ne84 : w2.heap.size + 1 ≠ w.heap.size + 1 + 1 + 1 := by omega
 have ne86 : w2.heap.size + 1 ≠ w2.heap.size := by omega
 have ne89 : w2.heap.size + 1 ≠ w2.heap.size + 1 + 1 := by omega
 have le9 : w.heap.size ≤ w2.heap.size + 1 + 1 := by omega
 have ne92 : w2.heap.size + 1 + 1 ≠ w.heap.size + 1 := by omega
 have ne93 : w2.heap.size + 1 + 1 ≠ w.heap.size + 1 + 1 := by omega
 have ne94 : w2.heap.size + 1 + 1 ≠ w.heap.size + 1 + 1 + 1 := by omega
 have ne96 : w2.heap.size + 1 + 1 ≠ w2.heap.size := by omega
 have ne98 : w2.heap.size + 1 + 1 ≠ w2.heap.size + 1 := by omega
 clear hlt
 generalize w2.heap.size + 1 + 1 = g9 at *
 generalize w2.heap.size + 1 = g8 at *
 generalize w2.heap.size = g6 at *
 generalize w.heap.size + 1 + 1 + 1 = g4 at *
 generalize w.heap.size + 1 + 1 = g3 at *
 generalize w.heap.size + 1 = g2 at *
 obtain ⟨_, _, _, _⟩ := B6.q4
 obtain ⟨_, _, _, _⟩ := D2.qf
 obtain ⟨_, _, _, _⟩ := D3.qf
 obtain ⟨_, _, _, _⟩ := D4.qf
 obtain ⟨_, _, _, _⟩ := D8.qf
 obtain ⟨_, _, _, _⟩ := D9.qf
 go_wp2_with fail
 refine (pullback_sides.calls k _ _ P s0 s1 _ Q0.at_ Q0.cap hS_.out).mono ?_
 rintro e w4 ⟨y0, y1, rfl, q0, q1, hb⟩
 replace hb := bS (w := w3) hb
 replace Q0 := Q0.below hb
 replace Q1 := Q1.below hb
 replace Q2 := Q2.below hb
 replace Q3 := Q3.below hb
 replace B6 := B6.below hb
 replace D2 := D2.below hb
 replace D3 := D3.below hb
 replace D4 := D4.below hb
 replace D8 := D8.below hb
 replace D9 := D9.below hb
 replace SB := SB.step hb
 clear hb
 obtain ⟨S0A, S0c, rfl, S0⟩ := Row.of_R q0
 clear q0
 obtain ⟨S1A, S1c, rfl, S1⟩ := Row.of_R q1
 clear q1
 obtain ⟨_, _, _, _⟩ := B6.q4
 obtain ⟨_, _, _, _⟩ := D2.qf
 obtain ⟨_, _, _, _⟩ := D3.qf
 obtain ⟨_, _, _, _⟩ := D4.qf
 obtain ⟨_, _, _, _⟩ := D8.qf
 obtain ⟨_, _, _, _⟩ := D9.qf
 go_upto_region 6 with fail
 replace Q0 := Q0.far flat79 D8 (sl_ne _ _ _) (sl_ne _ _ _) 0 (.slice S0A s0.length S0c)
 replace Q1 := Q1.far flat79 D8 (sl_ne _ _ _) (sl_ne _ _ _) 0 (.slice S0A s0.length S0c)
 replace Q2 := Q2.far flat_int D8 (sl_ne _ _ _) (sl_ne _ _ _) 0 (.slice S0A s0.length S0c)
 replace Q3 := Q3.far flat38 D8 (sl_ne _ _ _) (sl_ne _ _ _) 0 (.slice S0A s0.length S0c)
 replace S0 := S0.far flat_int D8 (sl_ne _ _ _) (sl_ne _ _ _) 0 (.slice S0A s0.length S0c)
 replace S1 := S1.far flat_int D8 (sl_ne _ _ _) (sl_ne _ _ _) 0 (.slice S0A s0.length S0c)
 replace B6 := B6.far (p := ⟨g8, 0, none⟩) ne68 (.slice S0A s0.length S0c)
 replace D2 := D2.far (p := ⟨g8, 0, none⟩) ne28 (.slice S0A s0.length S0c)
 replace D3 := D3.far (p := ⟨g8, 0, none⟩) ne38 (.slice S0A s0.length S0c)
 replace D4 := D4.far (p := ⟨g8, 0, none⟩) ne48 (.slice S0A s0.length S0c)
 replace D9 := D9.far (p := ⟨g8, 0, none⟩) ne98 (.slice S0A s0.length S0c)
 replace D8 := D8.put0 (.slice S0A s0.length S0c)
 replace SB : Since w _ := SB.put (j := 0) le8 (.slice S0A s0.length S0c)
 replace Q0 := Q0.far flat79 D9 (sl_ne _ _ _) (sl_ne _ _ _) 0 (.slice S1A s1.length S1c)
 replace Q1 := Q1.far flat79 D9 (sl_ne _ _ _) (sl_ne _ _ _) 0 (.slice S1A s1.length S1c)
 replace Q2 := Q2.far flat_int D9 (sl_ne _ _ _) (sl_ne _ _ _) 0 (.slice S1A s1.length S1c)
 replace Q3 := Q3.far flat38 D9 (sl_ne _ _ _) (sl_ne _ _ _) 0 (.slice S1A s1.length S1c)
 replace S0 := S0.far flat_int D9 (sl_ne _ _ _) (sl_ne _ _ _) 0 (.slice S1A s1.length S1c)
 replace S1 := S1.far flat_int D9 (sl_ne _ _ _) (sl_ne _ _ _) 0 (.slice S1A s1.length S1c)
 replace B6 := B6.far (p := ⟨g9, 0, none⟩) ne69 (.slice S1A s1.length S1c)
 replace D2 := D2.far (p := ⟨g9, 0, none⟩) ne29 (.slice S1A s1.length S1c)
 replace D3 := D3.far (p := ⟨g9, 0, none⟩) ne39 (.slice S1A s1.length S1c)
 replace D4 := D4.far (p := ⟨g9, 0, none⟩) ne49 (.slice S1A s1.length S1c)
 replace D8 := D8.far (p := ⟨g9, 0, none⟩) ne89 (.slice S1A s1.length S1c)
 replace D9 := D9.put0 (.slice S1A s1.length S1c)
 replace SB : Since w _ := SB.put (j := 0) le9 (.slice S1A s1.length S1c)
 generalize hw : (World.setCell _ _ _).setCell _ _ = w5 at *
 clear hw
 obtain ⟨_, _, _, _⟩ := B6.q4
 obtain ⟨_, _, _, _⟩ := D2.qf
 obtain ⟨_, _, _, _⟩ := D3.qf
 obtain ⟨_, _, _, _⟩ := D4.qf
 obtain ⟨_, _, _, _⟩ := D8.qf
 obtain ⟨_, _, _, _⟩ := D9.qf
 go_wp2_with fail
 refine (pullback_sides.calls k _ _ Q t0 t1 _ Q1.at_ Q1.cap hT_.out).mono ?_
 rintro e w6 ⟨y0, y1, rfl, q0, q1, hb⟩
 replace hb := bS (w := w5) hb
 replace Q0 := Q0.below hb
 replace Q1 := Q1.below hb
 replace Q2 := Q2.below hb
 replace Q3 := Q3.below hb
 replace S0 := S0.below hb
 replace S1 := S1.below hb
 replace B6 := B6.below hb
 replace D2 := D2.below hb
 replace D3 := D3.below hb
 replace D4 := D4.below hb
 replace D8 := D8.below hb
 replace D9 := D9.below hb
 replace SB := SB.step hb
 clear hb
 obtain ⟨T0A, T0c, rfl, T0⟩ := Row.of_R q0
 clear q0
 obtain ⟨T1A, T1c, rfl, T1⟩ := Row.of_R q1
 clear q1
 obtain ⟨_, _, _, _⟩ := B6.q4
 obtain ⟨_, _, _, _⟩ := D2.qf
 obtain ⟨_, _, _, _⟩ := D3.qf
 obtain ⟨_, _, _, _⟩ := D4.qf
 obtain ⟨_, _, _, _⟩ := D8.qf
 obtain ⟨_, _, _, _⟩ := D9.qf
 go_upto_region 7 with fail
 replace Q0 := Q0.far flat79 D8 (sl_ne _ _ _) (sl_ne _ _ _) 1 (.slice T0A t0.length T0c)
 replace Q1 := Q1.far flat79 D8 (sl_ne _ _ _) (sl_ne _ _ _) 1 (.slice T0A t0.length T0c)
 replace Q2 := Q2.far flat_int D8 (sl_ne _ _ _) (sl_ne _ _ _) 1 (.slice T0A t0.length T0c)
 replace Q3 := Q3.far flat38 D8 (sl_ne _ _ _) (sl_ne _ _ _) 1 (.slice T0A t0.length T0c)
 replace S0 := S0.far flat_int D8 (sl_ne _ _ _) (sl_ne _ _ _) 1 (.slice T0A t0.length T0c)
 replace S1 := S1.far flat_int D8 (sl_ne _ _ _) (sl_ne _ _ _) 1 (.slice T0A t0.length T0c)
 replace T0 := T0.far flat_int D8 (sl_ne _ _ _) (sl_ne _ _ _) 1 (.slice T0A t0.length T0c)
 replace T1 := T1.far flat_int D8 (sl_ne _ _ _) (sl_ne _ _ _) 1 (.slice T0A t0.length T0c)
 replace B6 := B6.far (p := ⟨g8, 1, none⟩) ne68 (.slice T0A t0.length T0c)
 replace D2 := D2.far (p := ⟨g8, 1, none⟩) ne28 (.slice T0A t0.length T0c)
 replace D3 := D3.far (p := ⟨g8, 1, none⟩) ne38 (.slice T0A t0.length T0c)
 replace D4 := D4.far (p := ⟨g8, 1, none⟩) ne48 (.slice T0A t0.length T0c)
 replace D9 := D9.far (p := ⟨g8, 1, none⟩) ne98 (.slice T0A t0.length T0c)
 replace D8 := D8.put1 (.slice T0A t0.length T0c)
 replace SB : Since w _ := SB.put (j := 1) le8 (.slice T0A t0.length T0c)
 replace Q0 := Q0.far flat79 D9 (sl_ne _ _ _) (sl_ne _ _ _) 1 (.slice T1A t1.length T1c)
 replace Q1 := Q1.far flat79 D9 (sl_ne _ _ _) (sl_ne _ _ _) 1 (.slice T1A t1.length T1c)
 replace Q2 := Q2.far flat_int D9 (sl_ne _ _ _) (sl_ne _ _ _) 1 (.slice T1A t1.length T1c)
 replace Q3 := Q3.far flat38 D9 (sl_ne _ _ _) (sl_ne _ _ _) 1 (.slice T1A t1.length T1c)
 replace S0 := S0.far flat_int D9 (sl_ne _ _ _) (sl_ne _ _ _) 1 (.slice T1A t1.length T1c)
 replace S1 := S1.far flat_int D9 (sl_ne _ _ _) (sl_ne _ _ _) 1 (.slice T1A t1.length T1c)
 replace T0 := T0.far flat_int D9 (sl_ne _ _ _) (sl_ne _ _ _) 1 (.slice T1A t1.length T1c)
 replace T1 := T1.far flat_int D9 (sl_ne _ _ _) (sl_ne _ _ _) 1 (.slice T1A t1.length T1c)
 replace B6 := B6.far (p := ⟨g9, 1, none⟩) ne69 (.slice T1A t1.length T1c)
 replace D2 := D2.far (p := ⟨g9, 1, none⟩) ne29 (.slice T1A t1.length T1c)
 replace D3 := D3.far (p := ⟨g9, 1, none⟩) ne39 (.slice T1A t1.length T1c)
 replace D4 := D4.far (p := ⟨g9, 1, none⟩) ne49 (.slice T1A t1.length T1c)
 replace D8 := D8.far (p := ⟨g9, 1, none⟩) ne89 (.slice T1A t1.length T1c)
 replace D9 := D9.put1 (.slice T1A t1.length T1c)
 replace SB : Since w _ := SB.put (j := 1) le9 (.slice T1A t1.length T1c)
 generalize hw : (World.setCell _ _ _).setCell _ _ = w7 at *
 clear hw
 obtain ⟨_, _, _, _⟩ := B6.q4
 obtain ⟨_, _, _, _⟩ := D2.qf
 obtain ⟨_, _, _, _⟩ := D3.qf
 obtain ⟨_, _, _, _⟩ := D4.qf
 obtain ⟨_, _, _, _⟩ := D8.qf
 obtain ⟨_, _, _, _⟩ := D9.qf
 go_region
 replace Q0 := Q0.far flat79 D2 (sl_ne _ _ _) (sl_ne _ _ _) 0 (.slice P2 n.length p2)
 replace Q1 := Q1.far flat79 D2 (sl_ne _ _ _) (sl_ne _ _ _) 0 (.slice P2 n.length p2)
 replace Q2 := Q2.far flat_int D2 (sl_ne _ _ _) (sl_ne _ _ _) 0 (.slice P2 n.length p2)
 replace Q3 := Q3.far flat38 D2 (sl_ne _ _ _) (sl_ne _ _ _) 0 (.slice P2 n.length p2)
 replace S0 := S0.far flat_int D2 (sl_ne _ _ _) (sl_ne _ _ _) 0 (.slice P2 n.length p2)
 replace S1 := S1.far flat_int D2 (sl_ne _ _ _) (sl_ne _ _ _) 0 (.slice P2 n.length p2)
 replace T0 := T0.far flat_int D2 (sl_ne _ _ _) (sl_ne _ _ _) 0 (.slice P2 n.length p2)
 replace T1 := T1.far flat_int D2 (sl_ne _ _ _) (sl_ne _ _ _) 0 (.slice P2 n.length p2)
 replace B6 := B6.far (p := ⟨g2, 0, none⟩) ne62 (.slice P2 n.length p2)
 replace D3 := D3.far (p := ⟨g2, 0, none⟩) ne32 (.slice P2 n.length p2)
 replace D4 := D4.far (p := ⟨g2, 0, none⟩) ne42 (.slice P2 n.length p2)
 replace D8 := D8.far (p := ⟨g2, 0, none⟩) ne82 (.slice P2 n.length p2)
 replace D9 := D9.far (p := ⟨g2, 0, none⟩) ne92 (.slice P2 n.length p2)
 replace D2 := D2.put0 (.slice P2 n.length p2)
 replace SB : Since w _ := SB.put (j := 0) le2 (.slice P2 n.length p2)
 replace Q0 := Q0.far flat79 D2 (sl_ne _ _ _) (sl_ne _ _ _) 1 (.slice P3 m.length p3)
 replace Q1 := Q1.far flat79 D2 (sl_ne _ _ _) (sl_ne _ _ _) 1 (.slice P3 m.length p3)
 replace Q2 := Q2.far flat_int D2 (sl_ne _ _ _) (sl_ne _ _ _) 1 (.slice P3 m.length p3)
 replace Q3 := Q3.far flat38 D2 (sl_ne _ _ _) (sl_ne _ _ _) 1 (.slice P3 m.length p3)
 replace S0 := S0.far flat_int D2 (sl_ne _ _ _) (sl_ne _ _ _) 1 (.slice P3 m.length p3)
 replace S1 := S1.far flat_int D2 (sl_ne _ _ _) (sl_ne _ _ _) 1 (.slice P3 m.length p3)
 replace T0 := T0.far flat_int D2 (sl_ne _ _ _) (sl_ne _ _ _) 1 (.slice P3 m.length p3)
 replace T1 := T1.far flat_int D2 (sl_ne _ _ _) (sl_ne _ _ _) 1 (.slice P3 m.length p3)
 replace B6 := B6.far (p := ⟨g2, 1, none⟩) ne62 (.slice P3 m.length p3)
 replace D3 := D3.far (p := ⟨g2, 1, none⟩) ne32 (.slice P3 m.length p3)
 replace D4 := D4.far (p := ⟨g2, 1, none⟩) ne42 (.slice P3 m.length p3)
 replace D8 := D8.far (p := ⟨g2, 1, none⟩) ne82 (.slice P3 m.length p3)
 replace D9 := D9.far (p := ⟨g2, 1, none⟩) ne92 (.slice P3 m.length p3)
 replace D2 := D2.put1 (.slice P3 m.length p3)
 replace SB : Since w _ := SB.put (j := 1) le2 (.slice P3 m.length p3)
 replace Q0 := Q0.far flat79 D3 (sl_ne _ _ _) (sl_ne _ _ _) 0 (.slice S0A s0.length S0c)
 replace Q1 := Q1.far flat79 D3 (sl_ne _ _ _) (sl_ne _ _ _) 0 (.slice S0A s0.length S0c)
 replace Q2 := Q2.far flat_int D3 (sl_ne _ _ _) (sl_ne _ _ _) 0 (.slice S0A s0.length S0c)
 replace Q3 := Q3.far flat38 D3 (sl_ne _ _ _) (sl_ne _ _ _) 0 (.slice S0A s0.length S0c)
 replace S0 := S0.far flat_int D3 (sl_ne _ _ _) (sl_ne _ _ _) 0 (.slice S0A s0.length S0c)
 replace S1 := S1.far flat_int D3 (sl_ne _ _ _) (sl_ne _ _ _) 0 (.slice S0A s0.length S0c)
 replace T0 := T0.far flat_int D3 (sl_ne _ _ _) (sl_ne _ _ _) 0 (.slice S0A s0.length S0c)
 replace T1 := T1.far flat_int D3 (sl_ne _ _ _) (sl_ne _ _ _) 0 (.slice S0A s0.length S0c)
 replace B6 := B6.far (p := ⟨g3, 0, none⟩) ne63 (.slice S0A s0.length S0c)
 replace D2 := D2.far (p := ⟨g3, 0, none⟩) ne23 (.slice S0A s0.length S0c)
 replace D4 := D4.far (p := ⟨g3, 0, none⟩) ne43 (.slice S0A s0.length S0c)
 replace D8 := D8.far (p := ⟨g3, 0, none⟩) ne83 (.slice S0A s0.length S0c)
 replace D9 := D9.far (p := ⟨g3, 0, none⟩) ne93 (.slice S0A s0.length S0c)
 replace D3 := D3.put0 (.slice S0A s0.length S0c)
 replace SB : Since w _ := SB.put (j := 0) le3 (.slice S0A s0.length S0c)
 replace Q0 := Q0.far flat79 D3 (sl_ne _ _ _) (sl_ne _ _ _) 1 (.slice T0A t0.length T0c)
 replace Q1 := Q1.far flat79 D3 (sl_ne _ _ _) (sl_ne _ _ _) 1 (.slice T0A t0.length T0c)
 replace Q2 := Q2.far flat_int D3 (sl_ne _ _ _) (sl_ne _ _ _) 1 (.slice T0A t0.length T0c)
 replace Q3 := Q3.far flat38 D3 (sl_ne _ _ _) (sl_ne _ _ _) 1 (.slice T0A t0.length T0c)
 replace S0 := S0.far flat_int D3 (sl_ne _ _ _) (sl_ne _ _ _) 1 (.slice T0A t0.length T0c)
 replace S1 := S1.far flat_int D3 (sl_ne _ _ _) (sl_ne _ _ _) 1 (.slice T0A t0.length T0c)
 replace T0 := T0.far flat_int D3 (sl_ne _ _ _) (sl_ne _ _ _) 1 (.slice T0A t0.length T0c)
 replace T1 := T1.far flat_int D3 (sl_ne _ _ _) (sl_ne _ _ _) 1 (.slice T0A t0.length T0c)
 replace B6 := B6.far (p := ⟨g3, 1, none⟩) ne63 (.slice T0A t0.length T0c)
 replace D2 := D2.far (p := ⟨g3, 1, none⟩) ne23 (.slice T0A t0.length T0c)
 replace D4 := D4.far (p := ⟨g3, 1, none⟩) ne43 (.slice T0A t0.length T0c)
 replace D8 := D8.far (p := ⟨g3, 1, none⟩) ne83 (.slice T0A t0.length T0c)
 replace D9 := D9.far (p := ⟨g3, 1, none⟩) ne93 (.slice T0A t0.length T0c)
 replace D3 := D3.put1 (.slice T0A t0.length T0c)
 replace SB : Since w _ := SB.put (j := 1) le3 (.slice T0A t0.length T0c)
 replace Q0 := Q0.far flat79 D4 (sl_ne _ _ _) (sl_ne _ _ _) 0 (.slice S1A s1.length S1c)
 replace Q1 := Q1.far flat79 D4 (sl_ne _ _ _) (sl_ne _ _ _) 0 (.slice S1A s1.length S1c)
 replace Q2 := Q2.far flat_int D4 (sl_ne _ _ _) (sl_ne _ _ _) 0 (.slice S1A s1.length S1c)
 replace Q3 := Q3.far flat38 D4 (sl_ne _ _ _) (sl_ne _ _ _) 0 (.slice S1A s1.length S1c)
 replace S0 := S0.far flat_int D4 (sl_ne _ _ _) (sl_ne _ _ _) 0 (.slice S1A s1.length S1c)
 replace S1 := S1.far flat_int D4 (sl_ne _ _ _) (sl_ne _ _ _) 0 (.slice S1A s1.length S1c)
 replace T0 := T0.far flat_int D4 (sl_ne _ _ _) (sl_ne _ _ _) 0 (.slice S1A s1.length S1c)
 replace T1 := T1.far flat_int D4 (sl_ne _ _ _) (sl_ne _ _ _) 0 (.slice S1A s1.length S1c)
 replace B6 := B6.far (p := ⟨g4, 0, none⟩) ne64 (.slice S1A s1.length S1c)
 replace D2 := D2.far (p := ⟨g4, 0, none⟩) ne24 (.slice S1A s1.length S1c)
 replace D3 := D3.far (p := ⟨g4, 0, none⟩) ne34 (.slice S1A s1.length S1c)
 replace D8 := D8.far (p := ⟨g4, 0, none⟩) ne84 (.slice S1A s1.length S1c)
 replace D9 := D9.far (p := ⟨g4, 0, none⟩) ne94 (.slice S1A s1.length S1c)
 replace D4 := D4.put0 (.slice S1A s1.length S1c)
 replace SB : Since w _ := SB.put (j := 0) le4 (.slice S1A s1.length S1c)
 replace Q0 := Q0.far flat79 D4 (sl_ne _ _ _) (sl_ne _ _ _) 1 (.slice T1A t1.length T1c)
 replace Q1 := Q1.far flat79 D4 (sl_ne _ _ _) (sl_ne _ _ _) 1 (.slice T1A t1.length T1c)
 replace Q2 := Q2.far flat_int D4 (sl_ne _ _ _) (sl_ne _ _ _) 1 (.slice T1A t1.length T1c)
 replace Q3 := Q3.far flat38 D4 (sl_ne _ _ _) (sl_ne _ _ _) 1 (.slice T1A t1.length T1c)
 replace S0 := S0.far flat_int D4 (sl_ne _ _ _) (sl_ne _ _ _) 1 (.slice T1A t1.length T1c)
 replace S1 := S1.far flat_int D4 (sl_ne _ _ _) (sl_ne _ _ _) 1 (.slice T1A t1.length T1c)
 replace T0 := T0.far flat_int D4 (sl_ne _ _ _) (sl_ne _ _ _) 1 (.slice T1A t1.length T1c)
 replace T1 := T1.far flat_int D4 (sl_ne _ _ _) (sl_ne _ _ _) 1 (.slice T1A t1.length T1c)
 replace B6 := B6.far (p := ⟨g4, 1, none⟩) ne64 (.slice T1A t1.length T1c)
 replace D2 := D2.far (p := ⟨g4, 1, none⟩) ne24 (.slice T1A t1.length T1c)
 replace D3 := D3.far (p := ⟨g4, 1, none⟩) ne34 (.slice T1A t1.length T1c)
 replace D8 := D8.far (p := ⟨g4, 1, none⟩) ne84 (.slice T1A t1.length T1c)
 replace D9 := D9.far (p := ⟨g4, 1, none⟩) ne94 (.slice T1A t1.length T1c)
 replace D4 := D4.put1 (.slice T1A t1.length T1c)
 replace SB : Since w _ := SB.put (j := 1) le4 (.slice T1A t1.length T1c)
 generalize hw : (World.setCell (World.setCell (World.setCell (World.setCell (World.setCell (World.setCell _ _ _) _ _) _ _) _ _) _ _) _ _) = w8 at *
 clear hw
 have hb : Below w8.heap.size w8 w8.drew := below_drew1 (Below.refl _ _)
 replace Q0 := Q0.below hb
 replace Q1 := Q1.below hb
 replace Q2 := Q2.below hb
 replace Q3 := Q3.below hb
 replace S0 := S0.below hb
 replace S1 := S1.below hb
 replace T0 := T0.below hb
 replace T1 := T1.below hb
 replace D2 := D2.below hb
 replace D3 := D3.below hb
 replace D4 := D4.below hb
 replace SB := SB.step hb
 clear hb
 generalize w8.drew = w9 at *
 go_wp2_with fail
 refine bodyPost_ret (results_list (rs := [.cell 2 25, .cell 3 27, .cell 4 27, .tmp 5]) rfl (by simp) (.cell g2 25 #[.slice P2 n.length p2, .slice P3 m.length p3] (0, 0) _ rfl D2.get Try.underlying25 rfl (by kernel_rfl) (.cell g3 27 #[.slice S0A s0.length S0c, .slice T0A t0.length T0c] (0, 0) _ rfl D3.get Try.underlying27 rfl (by kernel_rfl) (.cell g4 27 #[.slice S1A s1.length S1c, .slice T1A t1.length T1c] (0, 0) _ rfl D4.get Try.underlying27 rfl (by kernel_rfl) (.tmp .nil))))) rfl ?_
 exact ⟨_, _, _, _, _, _, rfl, ⟨_, _, rfl, Q2⟩, ⟨_, _, rfl, Q3⟩, ⟨_, _, rfl, S0⟩, ⟨_, _, rfl, T0⟩, ⟨_, _, rfl, S1⟩, ⟨_, _, rfl, T1⟩, SB.get⟩
set_option maxHeartbeats 4000000 in
set_option maxRecDepth 100000 in
theorem Of_a (k : Nat) (A0 : Option Addr) (c0 : Nat) (x0 : List Int) (A1 : Option Addr) (c1 : Nat) (x1 : List S94) (A2 : Option Addr) (c2 : Nat) (x2 : List Int) (A3 : Option Addr) (c3 : Nat) (x3 : List S94) (A4 : Option Addr) (c4 : Nat) (x4 : List Int) (A5 : Option Addr) (c5 : Nat) (x5 : List S94) (A6 : Option Addr) (c6 : Nat) (x6 : List Int) (A7 : Option Addr) (c7 : Nat) (x7 : List Int) (A8 : Option Addr) (c8 : Nat) (x8 : List Int) (A9 : Option Addr) (c9 : Nat) (x9 : List Int) (w : World)
  (R0 : Row (Kd.int .i64) w A0 c0 x0) (R1 : Row k94 w A1 c1 x1) (R2 : Row (Kd.int .i64) w A2 c2 x2) (R3 : Row k94 w A3 c3 x3) (R4 : Row (Kd.int .i64) w A4 c4 x4) (R5 : Row k94 w A5 c5 x5) (R6 : Row (Kd.int .i64) w A6 c6 x6) (R7 : Row (Kd.int .i64) w A7 c7 x7) (R8 : Row (Kd.int .i64) w A8 c8 x8) (R9 : Row (Kd.int .i64) w A9 c9 x9)
  (P Q : List S79) (n : List Int) (m : List S94) (er : Int) (hO : pullback_of.f k x0 x1 x2 x3 x4 x5 x6 x7 x8 x9 = some (P, Q, n, m, er)) (her : er ≠ 0) :
  Calls Try.prog 20 #[.agg #[.slice A0 x0.length c0, .slice A1 x1.length c1, .slice A2 x2.length c2, .slice A3 x3.length c3, .slice A4 x4.length c4, .slice A5 x5.length c5, .slice A6 x6.length c6, .slice A7 x7.length c7, .slice A8 x8.length c8, .slice A9 x9.length c9]] w fun e w' => ∃ v0 v1 v2 v3 v4 v5 : Value, e = .returned (.tuple #[.agg #[v0, v1], .agg #[v2, v3], .agg #[v4, v5], .int .i64 er]) ∧ Vr (Kd.int .i64) w' v0 [] ∧ Vr k94 w' v1 [] ∧ Vr (Kd.int .i64) w' v2 [] ∧ Vr (Kd.int .i64) w' v3 [] ∧ Vr (Kd.int .i64) w' v4 [] ∧ Vr (Kd.int .i64) w' v5 [] ∧ Below w.heap.size w w' := by
 have hO_ := Aside0.mk hO
 have her_ := Aside0.mk her
 clear hO her
 have hu25 := Try.underlying25
 have hu27 := Try.underlying27
 have hu29 := Try.underlying29
 have hu81 := Try.underlying81
 have SB := Since.refl w
 go_enter Try.func20, Try.ntmps20
 go_upto_region 1 with fail
 obtain ⟨BS, hb⟩ := blk_new1 w 29 #[.slice A0 x0.length c0, .slice A1 x1.length c1, .slice A2 x2.length c2, .slice A3 x3.length c3, .slice A4 x4.length c4, .slice A5 x5.length c5, .slice A6 x6.length c6, .slice A7 x7.length c7, .slice A8 x8.length c8, .slice A9 x9.length c9]
 replace R0 := R0.below hb
 replace R1 := R1.below hb
 replace R2 := R2.below hb
 replace R3 := R3.below hb
 replace R4 := R4.below hb
 replace R5 := R5.below hb
 replace R6 := R6.below hb
 replace R7 := R7.below hb
 replace R8 := R8.below hb
 replace R9 := R9.below hb
 replace SB := SB.step hb
 clear hb
 obtain ⟨D2, hb⟩ := blk_new1 (w.alloc (.cells #[.slice A0 x0.length c0, .slice A1 x1.length c1, .slice A2 x2.length c2, .slice A3 x3.length c3, .slice A4 x4.length c4, .slice A5 x5.length c5, .slice A6 x6.length c6, .slice A7 x7.length c7, .slice A8 x8.length c8, .slice A9 x9.length c9] 29)) 25 #[.slice none 0 0, .slice none 0 0]
 replace R0 := R0.below hb
 replace R1 := R1.below hb
 replace R2 := R2.below hb
 replace R3 := R3.below hb
 replace R4 := R4.below hb
 replace R5 := R5.below hb
 replace R6 := R6.below hb
 replace R7 := R7.below hb
 replace R8 := R8.below hb
 replace R9 := R9.below hb
 replace BS := BS.below hb
 replace SB := SB.step hb
 clear hb
 obtain ⟨D3, hb⟩ := blk_new1 ((w.alloc (.cells #[.slice A0 x0.length c0, .slice A1 x1.length c1, .slice A2 x2.length c2, .slice A3 x3.length c3, .slice A4 x4.length c4, .slice A5 x5.length c5, .slice A6 x6.length c6, .slice A7 x7.length c7, .slice A8 x8.length c8, .slice A9 x9.length c9] 29)).alloc (.cells #[.slice none 0 0, .slice none 0 0] 25)) 27 #[.slice none 0 0, .slice none 0 0]
 replace R0 := R0.below hb
 replace R1 := R1.below hb
 replace R2 := R2.below hb
 replace R3 := R3.below hb
 replace R4 := R4.below hb
 replace R5 := R5.below hb
 replace R6 := R6.below hb
 replace R7 := R7.below hb
 replace R8 := R8.below hb
 replace R9 := R9.below hb
 replace BS := BS.below hb
 replace D2 := D2.below hb
 replace SB := SB.step hb
 clear hb
 obtain ⟨D4, hb⟩ := blk_new1 (((w.alloc (.cells #[.slice A0 x0.length c0, .slice A1 x1.length c1, .slice A2 x2.length c2, .slice A3 x3.length c3, .slice A4 x4.length c4, .slice A5 x5.length c5, .slice A6 x6.length c6, .slice A7 x7.length c7, .slice A8 x8.length c8, .slice A9 x9.length c9] 29)).alloc (.cells #[.slice none 0 0, .slice none 0 0] 25)).alloc (.cells #[.slice none 0 0, .slice none 0 0] 27)) 27 #[.slice none 0 0, .slice none 0 0]
 replace R0 := R0.below hb
 replace R1 := R1.below hb
 replace R2 := R2.below hb
 replace R3 := R3.below hb
 replace R4 := R4.below hb
 replace R5 := R5.below hb
 replace R6 := R6.below hb
 replace R7 := R7.below hb
 replace R8 := R8.below hb
 replace R9 := R9.below hb
 replace BS := BS.below hb
 replace D2 := D2.below hb
 replace D3 := D3.below hb
 replace SB := SB.step hb
 clear hb
 simp only [size_alloc1] at D2 D3 D4
 generalize hw : ((((w.alloc (.cells #[.slice A0 x0.length c0, .slice A1 x1.length c1, .slice A2 x2.length c2, .slice A3 x3.length c3, .slice A4 x4.length c4, .slice A5 x5.length c5, .slice A6 x6.length c6, .slice A7 x7.length c7, .slice A8 x8.length c8, .slice A9 x9.length c9] 29)).alloc (.cells #[.slice none 0 0, .slice none 0 0] 25)).alloc (.cells #[.slice none 0 0, .slice none 0 0] 27)).alloc (.cells #[.slice none 0 0, .slice none 0 0] 27)) = w1 at *
 clear hw
 have BSx0 := BS.at 0 rfl
 have BSx1 := BS.at 1 rfl
 have BSx2 := BS.at 2 rfl
 have BSx3 := BS.at 3 rfl
 have BSx4 := BS.at 4 rfl
 have BSx5 := BS.at 5 rfl
 have BSx6 := BS.at 6 rfl
 have BSx7 := BS.at 7 rfl
 have BSx8 := BS.at 8 rfl
 have BSx9 := BS.at 9 rfl
 have D2x0 := D2.at 0 rfl
 have D2x1 := D2.at 1 rfl
 have D3x0 := D3.at 0 rfl
 have D3x1 := D3.at 1 rfl
 have D4x0 := D4.at 0 rfl
 have D4x1 := D4.at 1 rfl
 go_wp2_with fail
 refine (pullback_of.calls k _ _ x0 _ _ x1 _ _ x2 _ _ x3 _ _ x4 _ _ x5 _ _ x6 _ _ x7 _ _ x8 _ _ x9 P Q n m er _ R0.at_ R0.cap R1.at_ R1.cap R2.at_ R2.cap R3.at_ R3.cap R4.at_ R4.cap R5.at_ R5.cap R6.at_ R6.cap R7.at_ R7.cap R8.at_ R8.cap R9.at_ R9.cap hO_.out).mono ?_
 rintro e w2 ⟨y0, y1, y2, y3, rfl, q0, q1, q2, q3, hb⟩
 replace hb := bS (w := w1) hb
 replace R0 := R0.below hb
 replace R1 := R1.below hb
 replace R2 := R2.below hb
 replace R3 := R3.below hb
 replace R4 := R4.below hb
 replace R5 := R5.below hb
 replace R6 := R6.below hb
 replace R7 := R7.below hb
 replace R8 := R8.below hb
 replace R9 := R9.below hb
 replace BS := BS.below hb
 replace D2 := D2.below hb
 replace D3 := D3.below hb
 replace D4 := D4.below hb
 replace SB := SB.step hb
 clear hb
 obtain ⟨P0, p0, rfl, Q0⟩ := Row.of_R q0
 clear q0
 obtain ⟨P1, p1, rfl, Q1⟩ := Row.of_R q1
 clear q1
 obtain ⟨P2, p2, rfl, Q2⟩ := Row.of_R q2
 clear q2
 obtain ⟨P3, p3, rfl, Q3⟩ := Row.of_R q3
 clear q3
 clear D2x0 D2x1 D3x0 D3x1 D4x0 D4x1 BSx0 BSx1 BSx2 BSx3 BSx4 BSx5 BSx6 BSx7 BSx8 BSx9
 have hlt := blk_lt D4.get
 have hz : (er != 0) = true := bne_iff_ne.mpr her_.out
 go_upto_region 2 with fail
 obtain ⟨B6, hb⟩ := blk_new1 w2 81 #[.slice P0 P.length p0, .slice P1 Q.length p1, .slice P2 n.length p2, .slice P3 m.length p3]
 replace R0 := R0.below hb
 replace R1 := R1.below hb
 replace R2 := R2.below hb
 replace R3 := R3.below hb
 replace R4 := R4.below hb
 replace R5 := R5.below hb
 replace R6 := R6.below hb
 replace R7 := R7.below hb
 replace R8 := R8.below hb
 replace R9 := R9.below hb
 replace Q0 := Q0.below hb
 replace Q1 := Q1.below hb
 replace Q2 := Q2.below hb
 replace Q3 := Q3.below hb
 replace BS := BS.below hb
 replace D2 := D2.below hb
 replace D3 := D3.below hb
 replace D4 := D4.below hb
 replace SB := SB.step hb
 clear hb
 generalize hw : (w2.alloc (.cells #[.slice P0 P.length p0, .slice P1 Q.length p1, .slice P2 n.length p2, .slice P3 m.length p3] 81)) = w3 at *
 clear hw
 replace D2 : Box2 w3 _ 25 (.slice none 0 0) (.slice none 0 0) := ⟨D2.get⟩
 replace D3 : Box2 w3 _ 27 (.slice none 0 0) (.slice none 0 0) := ⟨D3.get⟩
 replace D4 : Box2 w3 _ 27 (.slice none 0 0) (.slice none 0 0) := ⟨D4.get⟩
 have le2 : w.heap.size ≤ w.heap.size + 1 := by omega
 have ne23 : w.heap.size + 1 ≠ w.heap.size + 1 + 1 := by omega
 have ne24 : w.heap.size + 1 ≠ w.heap.size + 1 + 1 + 1 := by omega
 have le3 : w.heap.size ≤ w.heap.size + 1 + 1 := by omega
 have ne32 : w.heap.size + 1 + 1 ≠ w.heap.size + 1 := by omega
 have ne34 : w.heap.size + 1 + 1 ≠ w.heap.size + 1 + 1 + 1 := by omega
 have le4 : w.heap.size ≤ w.heap.size + 1 + 1 + 1 := by omega
 have ne42 : w.heap.size + 1 + 1 + 1 ≠ w.heap.size + 1 := by omega
 have ne43 : w.heap.size + 1 + 1 + 1 ≠ w.heap.size + 1 + 1 := by omega
 clear hlt B6 Q0 Q1 Q2 Q3 BS R0 R1 R2 R3 R4 R5 R6 R7 R8 R9
 generalize w.heap.size + 1 + 1 + 1 = g4 at *
 generalize w.heap.size + 1 + 1 = g3 at *
 generalize w.heap.size + 1 = g2 at *
 obtain ⟨_, _, _, _⟩ := D2.qf
 obtain ⟨_, _, _, _⟩ := D3.qf
 obtain ⟨_, _, _, _⟩ := D4.qf
 go_wp2_with fail
 replace D3 := D3.far (p := ⟨g2, 0, none⟩) ne32 (.slice none 0 0)
 replace D4 := D4.far (p := ⟨g2, 0, none⟩) ne42 (.slice none 0 0)
 replace D2 := D2.put0 (.slice none 0 0)
 replace SB : Since w _ := SB.put (j := 0) le2 (.slice none 0 0)
 replace D3 := D3.far (p := ⟨g2, 1, none⟩) ne32 (.slice none 0 0)
 replace D4 := D4.far (p := ⟨g2, 1, none⟩) ne42 (.slice none 0 0)
 replace D2 := D2.put1 (.slice none 0 0)
 replace SB : Since w _ := SB.put (j := 1) le2 (.slice none 0 0)
 replace D2 := D2.far (p := ⟨g3, 0, none⟩) ne23 (.slice none 0 0)
 replace D4 := D4.far (p := ⟨g3, 0, none⟩) ne43 (.slice none 0 0)
 replace D3 := D3.put0 (.slice none 0 0)
 replace SB : Since w _ := SB.put (j := 0) le3 (.slice none 0 0)
 replace D2 := D2.far (p := ⟨g3, 1, none⟩) ne23 (.slice none 0 0)
 replace D4 := D4.far (p := ⟨g3, 1, none⟩) ne43 (.slice none 0 0)
 replace D3 := D3.put1 (.slice none 0 0)
 replace SB : Since w _ := SB.put (j := 1) le3 (.slice none 0 0)
 replace D2 := D2.far (p := ⟨g4, 0, none⟩) ne24 (.slice none 0 0)
 replace D3 := D3.far (p := ⟨g4, 0, none⟩) ne34 (.slice none 0 0)
 replace D4 := D4.put0 (.slice none 0 0)
 replace SB : Since w _ := SB.put (j := 0) le4 (.slice none 0 0)
 replace D2 := D2.far (p := ⟨g4, 1, none⟩) ne24 (.slice none 0 0)
 replace D3 := D3.far (p := ⟨g4, 1, none⟩) ne34 (.slice none 0 0)
 replace D4 := D4.put1 (.slice none 0 0)
 replace SB : Since w _ := SB.put (j := 1) le4 (.slice none 0 0)
 generalize hw : (World.setCell (World.setCell (World.setCell (World.setCell (World.setCell (World.setCell _ _ _) _ _) _ _) _ _) _ _) _ _) = w8 at *
 clear hw
 refine bodyPost_ret (results_list (rs := [.cell 2 25, .cell 3 27, .cell 4 27, .tmp 5]) rfl (by simp) (.cell g2 25 #[.slice none 0 0, .slice none 0 0] (0, 0) _ rfl D2.get Try.underlying25 rfl (by kernel_rfl) (.cell g3 27 #[.slice none 0 0, .slice none 0 0] (0, 0) _ rfl D3.get Try.underlying27 rfl (by kernel_rfl) (.cell g4 27 #[.slice none 0 0, .slice none 0 0] (0, 0) _ rfl D4.get Try.underlying27 rfl (by kernel_rfl) (.tmp .nil))))) rfl ?_
 exact ⟨_, _, _, _, _, _, rfl, ⟨_, _, rfl, Row.nil _ _⟩, ⟨_, _, rfl, Row.nil _ _⟩, ⟨_, _, rfl, Row.nil _ _⟩, ⟨_, _, rfl, Row.nil _ _⟩, ⟨_, _, rfl, Row.nil _ _⟩, ⟨_, _, rfl, Row.nil _ _⟩, SB.get⟩
theorem Of_calls (k : Nat) (A0 : Option Addr) (c0 : Nat) (x0 : List Int) (A1 : Option Addr) (c1 : Nat) (x1 : List S94) (A2 : Option Addr) (c2 : Nat) (x2 : List Int) (A3 : Option Addr) (c3 : Nat) (x3 : List S94) (A4 : Option Addr) (c4 : Nat) (x4 : List Int) (A5 : Option Addr) (c5 : Nat) (x5 : List S94) (A6 : Option Addr) (c6 : Nat) (x6 : List Int) (A7 : Option Addr) (c7 : Nat) (x7 : List Int) (A8 : Option Addr) (c8 : Nat) (x8 : List Int) (A9 : Option Addr) (c9 : Nat) (x9 : List Int) (w : World)
  (R0 : Row (Kd.int .i64) w A0 c0 x0) (R1 : Row k94 w A1 c1 x1) (R2 : Row (Kd.int .i64) w A2 c2 x2) (R3 : Row k94 w A3 c3 x3) (R4 : Row (Kd.int .i64) w A4 c4 x4) (R5 : Row k94 w A5 c5 x5) (R6 : Row (Kd.int .i64) w A6 c6 x6) (R7 : Row (Kd.int .i64) w A7 c7 x7) (R8 : Row (Kd.int .i64) w A8 c8 x8) (R9 : Row (Kd.int .i64) w A9 c9 x9)
  (r1 : List Int) (r2 : List S94) (r3 r4 r5 r6 : List Int) (r7 : Int) (h : pullback_Of.f k x0 x1 x2 x3 x4 x5 x6 x7 x8 x9 = some (r1, r2, r3, r4, r5, r6, r7)) :
  Calls Try.prog 20 #[.agg #[.slice A0 x0.length c0, .slice A1 x1.length c1, .slice A2 x2.length c2, .slice A3 x3.length c3, .slice A4 x4.length c4, .slice A5 x5.length c5, .slice A6 x6.length c6, .slice A7 x7.length c7, .slice A8 x8.length c8, .slice A9 x9.length c9]] w fun e w' => ∃ v0 v1 v2 v3 v4 v5 : Value, e = .returned (.tuple #[.agg #[v0, v1], .agg #[v2, v3], .agg #[v4, v5], .int .i64 r7]) ∧ Vr (Kd.int .i64) w' v0 r1 ∧ Vr k94 w' v1 r2 ∧ Vr (Kd.int .i64) w' v2 r3 ∧ Vr (Kd.int .i64) w' v3 r4 ∧ Vr (Kd.int .i64) w' v4 r5 ∧ Vr (Kd.int .i64) w' v5 r6 ∧ Below w.heap.size w w' := by
 unfold pullback_Of.f at h
 cases hO : pullback_of.f k x0 x1 x2 x3 x4 x5 x6 x7 x8 x9 with
 | none => rw [hO] at h; cases h
 | some o =>
  obtain ⟨P, Q, n, m, er⟩ := o
  rw [hO] at h
  simp only [Option.bind_some] at h
  by_cases her : er = 0
  ·subst her
   rw [if_pos rfl] at h
   cases hS : pullback_sides.f k P with
   | none => rw [hS] at h; cases h
   | some s =>
    cases hT : pullback_sides.f k Q with
    | none => rw [hS, hT] at h; cases h
    | some t =>
     obtain ⟨s0, s1⟩ := s
     obtain ⟨t0, t1⟩ := t
     rw [hS, hT] at h
     cases h
     exact Of_b k A0 c0 x0 A1 c1 x1 A2 c2 x2 A3 c3 x3 A4 c4 x4 A5 c5 x5 A6 c6 x6 A7 c7 x7 A8 c8 x8 A9 c9 x9 w R0 R1 R2 R3 R4 R5 R6 R7 R8 R9 _ _ _ _ _ _ _ _ hO hS hT
  ·rw [if_neg her] at h
   cases h
   exact Of_a k A0 c0 x0 A1 c1 x1 A2 c2 x2 A3 c3 x3 A4 c4 x4 A5 c5 x5 A6 c6 x6 A7 c7 x7 A8 c8 x8 A9 c9 x9 w R0 R1 R2 R3 R4 R5 R6 R7 R8 R9 _ _ _ _ _ hO her
/-- The place of the first element of which p holds, or -1. -/
def idx79 (p : S79 → Bool) (l : List S79) : Int := match l.findIdx? p with
 | some i => (i : Int)
 | none => -1
theorem idx79_hit {p : S79 → Bool} {l : List S79} {i : Int} (h0 : 0 ≤ i) (h1 : i < l.length) (hm : ∀ j : Nat, (j : Int) < i → p (l.getD j z79) = false) (hp : p (rd_T79 l i) = true) : idx79 p l = i := by
 have hi : i.toNat < l.length := by omega
 have : l.findIdx? p = some i.toNat := by
  rw [List.findIdx?_eq_some_iff_getElem]
  refine ⟨hi, ?_, fun j hj => ?_⟩
  ·unfold rd_T79 at hp; rw [List.getD_eq_getElem?_getD, List.getElem?_eq_getElem hi] at hp; exact hp
  ·have := hm j (by omega); rw [List.getD_eq_getElem?_getD, List.getElem?_eq_getElem (by omega)] at this; simpa using this
 unfold idx79
 rw [this]
 simp only
 omega
theorem idx79_miss {p : S79 → Bool} {l : List S79} (hm : ∀ j : Nat, j < l.length → p (l.getD j z79) = false) : idx79 p l = -1 := by
 have : l.findIdx? p = none := by
  rw [List.findIdx?_eq_none_iff]
  intro x hx
  obtain ⟨j, hj, rfl⟩ := List.mem_iff_getElem.mp hx
  have := hm j hj
  rw [List.getD_eq_getElem?_getD, List.getElem?_eq_getElem hj] at this
  exact this
 unfold idx79
 rw [this]
set_option maxHeartbeats 2000000 in
theorem Kernel1_calls (e : S79) (w : World) : Calls Try.prog 64 #[.agg #[.int .i64 e.f0, .int .i64 e.f1]] w fun r w' => r = .returned (.bool (decide (e.f0 ≥ e.f1))) ∧ Below w.heap.size w w' := by
 have hu79 := Try.underlying79
 go_enter Try.func64, Try.ntmps64
 go_wp2
 go_ret
 exact ⟨rfl, below_alloc (Below.refl _ _) _⟩
set_option maxHeartbeats 2000000 in
theorem IndexFunc81_calls (p : S79 → Bool) (g : Nat) (lb : Array Value) (eg : ∀ args w, (callFunc g args).run Try.prog w = .ok (.enter g args) w) (A0 : Option Addr) (c0 : Nat) (l0 : List S79) (w : World)
  (hp : ∀ W, Below w.heap.size w W → ∀ x : S79, Calls Try.prog g (#[.agg #[.int .i64 x.f0, .int .i64 x.f1]] ++ lb) W fun e w' => e = .returned (.bool (p x)) ∧ Below W.heap.size W w')
  (hr0 : Kd.C k79 w A0 l0.length l0) (hbig : l0.length ≤ 9223372036854775807) :
  Calls Try.prog 81 #[.slice A0 l0.length c0, .func (.func g) #[] lb] w fun e w' => e = .returned (.int .i64 (idx79 p l0)) ∧ Below w.heap.size w w' := by
 have hu79 := Try.underlying79
 have HR := Aside0.mk hr0
 have HP := Aside0.mk hp
 have HB := Aside0.mk hbig
 clear hr0 hp hbig
 go_enter Try.func81, Try.ntmps81
 go_wp2
 go_loopg [5, 8] l0.length (fun gg _ s8 wr => ∃ i : Int, s8 = .int .i64 i ∧ Aside0 (0 ≤ i ∧ i ≤ (l0.length : Int) ∧ (l0.length : Int) - i ≤ gg ∧ ∀ j : Nat, (j : Int) < i → p (l0.getD j z79) = false) ∧ Aside0 (Below w.heap.size w wr))
 case atStart => exact ⟨0, rfl, ⟨by omega, by omega, by omega, fun j hj => by omega⟩, ⟨Below.refl _ _⟩⟩
 case round =>
  obtain ⟨i, rfl, A, BW⟩ := hrel
  by_cases hlt : i < (l0.length : Int)
  ·have c3b0 : decide (i < (l0.length : Int)) = true := decide_eq_true hlt
   have p105 : 0 ≤ i := A.out.1
   obtain ⟨ad105, e105, hx105_0, hx105_1⟩ := at_T79 (Kd.C_below HR.out BW.out) i p105 hlt
   cases e105
   have HC := Aside0.mk (HP.out wr BW.out (rd_T79 l0 i))
   have q105 := eq_true hlt
   clear hlt
   replace p105 := eq_true p105
   cases hq : p (rd_T79 l0 i) with
   | true =>
    rw [hq] at HC
    have HQ := Aside0.mk hq
    clear hq
    go_wp2_with (go_at_fn g; refine (HC.out).mono ?_; rintro e w' ⟨rfl, hb'⟩)
    go_ret
    refine ⟨?_, below_step BW.out hb'⟩
    rw [idx79_hit (of_eq_true p105) (of_eq_true q105) A.out.2.2.2 HQ.out]
    rfl
   | false =>
    rw [hq] at HC
    have HQ := Aside0.mk hq
    clear hq
    go_wp2_with (go_at_fn g; refine (HC.out).mono ?_; rintro e w' ⟨rfl, hb'⟩)
    go_roundg (l0.length - (i + 1).toNat)
    case measure => have := A.out; have := of_eq_true q105; omega
    case rel =>
     have q := of_eq_true q105
     have z := of_eq_true p105
     refine ⟨i + 1, ?_, ⟨by omega, by omega, by omega, fun j hj => ?_⟩, ⟨below_step BW.out hb'⟩⟩
     ·have := HB.out
      rw [show wrap64 (i + 1) = i + 1 from by unfold wrap64; omega]
     ·by_cases e : (j : Int) < i
      ·exact A.out.2.2.2 j e
      ·obtain rfl : j = i.toNat := by omega
       exact HQ.out
  ·have c3b0 : decide (i < (l0.length : Int)) = false := decide_eq_false hlt
   have HL := Aside0.mk hlt
   clear hlt
   go_wp2
   go_ret
   refine ⟨?_, BW.out⟩
   rw [idx79_miss (fun j hj => A.out.2.2.2 j (by have := HL.out; omega))]
   rfl
/-- The block g holds the pairs l one after the other. -/
structure Pairs (W : World) (g c : Nat) (l : List S79) : Prop where
 get : ∃ cs : Array Value, W.heap[g]? = some (.cells cs 79 (0, 0)) ∧ cs.size = c * 2 ∧ ∀ j : Nat, j < l.length → cs[j * 2]? = some (.int .i64 (l.getD j z79).f0) ∧ cs[j * 2 + 1]? = some (.int .i64 (l.getD j z79).f1)
theorem Pairs.below {W W' : World} {g c : Nat} {l : List S79} (h : Pairs W g c l) (hb : Below W.heap.size W W') : Pairs W' g c l := by
 obtain ⟨cs, h1, hs, h2⟩ := h.get
 exact ⟨cs, blk_below h1 hb, hs, h2⟩
theorem Pairs.at_ {W : World} {g c : Nat} {l : List S79} (h : Pairs W g c l) (j : Nat) (hj : j < l.length) : W.cell? ⟨g, j * 2, none⟩ = some (.int .i64 (l.getD j z79).f0) ∧ W.cell? ⟨g, j * 2 + 1, none⟩ = some (.int .i64 (l.getD j z79).f1) ∧ W.frozen? ⟨g, j * 2, none⟩ = false ∧ W.frozen? ⟨g, j * 2 + 1, none⟩ = false := by
 obtain ⟨cs, h1, hs, h2⟩ := h.get
 obtain ⟨c0, c1⟩ := h2 j hj
 exact ⟨(blk_cell h1 _).trans c0, (blk_cell h1 _).trans c1, blk_frozen h1 _, blk_frozen h1 _⟩
theorem Pairs.C {W : World} {g c : Nat} {l : List S79} (h : Pairs W g c l) (hl : l.length ≤ 9223372036854775807) (n : Nat) (hn : n ≤ l.length) : Kd.C k79 W (some ⟨g, 0, none⟩) n (l.take n) := by
 obtain ⟨cs, h1, hs, h2⟩ := h.get
 refine ⟨by simp; omega, by omega, fun hp => ⟨_, rfl, fun j p hj => ?_⟩⟩
 have hjl : j < n ∧ j < l.length := by
  have := (List.getElem?_eq_some_iff.mp hj).1
  simp at this
  omega
 obtain ⟨c0, c1⟩ := h2 j hjl.2
 have e : l.getD j z79 = p := by
  rw [List.getElem?_take_of_lt hjl.1] at hj
  rw [List.getD_eq_getElem?_getD, hj]
  rfl
 rw [e] at c0 c1
 refine ⟨[.int .i64 p.f0, .int .i64 p.f1], rfl, k79_mk W p, fun i u hu => ?_⟩
 have ad : ∀ k : Nat, (⟨g, 0, none⟩ : Addr).add k = ⟨g, k, none⟩ := by intro k; unfold Addr.add; split <;> simp_all
 rw [show k79.sz = 2 from rfl, ad, blk_cell h1]
 match i with
 | 0 => simpa [c0] using hu
 | 1 => simpa [c1] using hu
 | i + 2 => simp at hu
theorem Pairs.put {W : World} {g c : Nat} {l : List S79} (h : Pairs W g c l) (i : Nat) (hi : i < l.length) (x : S79) :
  Pairs ((W.setCell ⟨g, i * 2, none⟩ (.int .i64 x.f0)).setCell ⟨g, i * 2 + 1, none⟩ (.int .i64 x.f1)) g c (l.set i x) := by
 obtain ⟨cs, h1, hs, h2⟩ := h.get
 refine ⟨_, blk_put (blk_put h1 _ _ rfl) _ _ rfl, by simp [hs], fun j hj => ?_⟩
 simp only [List.length_set] at hj
 obtain ⟨c0, c1⟩ := h2 j hj
 obtain ⟨d0, d1⟩ := h2 i hi
 have s0 := (Array.getElem?_eq_some_iff.mp d0).1
 have s1 := (Array.getElem?_eq_some_iff.mp d1).1
 by_cases e : i = j
 ·subst e
  have : (l.set i x).getD i z79 = x := by rw [List.getD_eq_getElem?_getD, List.getElem?_set_self hi]; rfl
  rw [this]
  constructor
  ·rw [Array.getElem?_setIfInBounds_ne (by omega), Array.getElem?_setIfInBounds_self_of_lt (by simpa using s0)]
  ·rw [Array.getElem?_setIfInBounds_self_of_lt (by simpa using s1)]
 ·have : (l.set i x).getD j z79 = l.getD j z79 := by rw [List.getD_eq_getElem?_getD, List.getElem?_set_ne e, List.getD_eq_getElem?_getD]
  rw [this]
  constructor
  ·rw [Array.getElem?_setIfInBounds_ne (by omega), Array.getElem?_setIfInBounds_ne (by omega)]; exact c0
  ·rw [Array.getElem?_setIfInBounds_ne (by omega), Array.getElem?_setIfInBounds_ne (by omega)]; exact c1
theorem run_clear_pairs (w : World) (ty : TypeId) (b o n c : Nat) (hn : 0 < n)
  (hc : ∀ j, j < n * 2 → (w.cell? ⟨b, o + j, none⟩).isSome = true) (hf : ∀ j, j < n * 2 → w.frozen? ⟨b, o + j, none⟩ = false) :
  (Builtin.clear_ #[70] ty #[.slice (some ⟨b, o, none⟩) n c]).run Try.prog w = .ok (.tuple #[]) (w.setCells b o (List.replicate (n * 2) (.int .i64 0))) := by
 have hz : (Value.agg #[.int .i64 0, .int .i64 0]).cells = #[.int .i64 0, .int .i64 0] := by first | rfl | (simp [Value.cells]; done) | decide
 have hzc : (Builtin.zeroCells (Value.agg #[.int .i64 0, .int .i64 0]).cells n).toList = List.replicate (n * 2) (.int .i64 0) := by
  rw [hz]
  simp [Builtin.zeroCells]
  apply List.ext_getElem
  ·simp
  ·intro i h1 h2
   simp
   have : i % 2 = 0 ∨ i % 2 = 1 := by omega
   rcases this with h | h <;> simp [h]
 have hst := run_storeCells_cells (P := Try.prog) b o (List.replicate (n * 2) (.int .i64 0)) 0 w (by simpa using hc) (by simpa using hf) (by intro v hv'; rw [List.eq_of_mem_replicate hv']; rfl)
 simp only [Nat.add_zero] at hst
 obtain ⟨m, rfl⟩ : ∃ m, n = m + 1 := ⟨n - 1, by omega⟩
 simp [Builtin.clear_, run_underlying Try.underlying70, hzc, hst]
theorem blk_setCells {g t : Nat} : ∀ (vs : List Value) (o : Nat) (w : World) (cs : Array Value), w.heap[g]? = some (.cells cs t (0, 0)) → ∃ cs' : Array Value, (w.setCells g o vs).heap[g]? = some (.cells cs' t (0, 0)) ∧ cs'.size = cs.size ∧ ∀ k, k < o → cs'[k]? = cs[k]? := by
 intro vs
 induction vs with
 | nil => intro o w cs h; exact ⟨cs, h, rfl, fun _ _ => rfl⟩
 | cons v r ih =>
  intro o w cs h
  obtain ⟨cs', h1, hs, h2⟩ := ih (o + 1) _ _ (blk_put h o v rfl)
  refine ⟨cs', h1, by simpa using hs, fun k hk => ?_⟩
  rw [h2 k (by omega), Array.getElem?_setIfInBounds_ne (by omega)]
theorem below_setCells {w0 : World} {g : Nat} (hg : w0.heap.size ≤ g) : ∀ (vs : List Value) (o : Nat) (w : World), Below w0.heap.size w0 w → Below w0.heap.size w0 (w.setCells g o vs) := by
 intro vs
 induction vs with
 | nil => intro o w h; exact h
 | cons v r ih => intro o w h; exact ih (o + 1) _ (below_set h hg)
theorem Pairs.cleared {W : World} {g c : Nat} {l : List S79} (h : Pairs W g c l) (i : Nat) (hi : i ≤ l.length) (vs : List Value) : Pairs (W.setCells g (i * 2) vs) g c (l.take i) := by
 obtain ⟨cs, h1, hs, h2⟩ := h.get
 obtain ⟨cs', h3, h5, h4⟩ := blk_setCells vs (i * 2) W cs h1
 refine ⟨cs', h3, by rw [h5, hs], fun j hj => ?_⟩
 have hji : j < i := by simp at hj; omega
 obtain ⟨c0, c1⟩ := h2 j (by omega)
 have e : (l.take i).getD j z79 = l.getD j z79 := by rw [List.getD_eq_getElem?_getD, List.getElem?_take_of_lt hji, List.getD_eq_getElem?_getD]
 rw [e, h4 _ (by omega), h4 _ (by omega)]
 exact ⟨c0, c1⟩
theorem idx79_spec (p : S79 → Bool) (l : List S79) : (idx79 p l = -1 ∧ l.filter (fun x => !p x) = l) ∨
  (∃ i : Nat, i < l.length ∧ idx79 p l = i ∧ l.take i = (l.take (i + 1)).filter (fun x => !p x)) := by
 unfold idx79
 cases h : l.findIdx? p with
 | none =>
  left
  rw [List.findIdx?_eq_none_iff] at h
  exact ⟨rfl, List.filter_eq_self.mpr (fun x hx => by rw [h x hx]; rfl)⟩
 | some i =>
  right
  rw [List.findIdx?_eq_some_iff_getElem] at h
  obtain ⟨hi, h1, h2⟩ := h
  refine ⟨i, hi, rfl, ?_⟩
  rw [List.take_succ_eq_append_getElem hi, List.filter_append]
  have e1 : [l[i]].filter (fun x => !p x) = [] := by simp [h1]
  rw [e1, List.append_nil]
  refine (List.filter_eq_self.mpr (fun x hx => ?_)).symm
  obtain ⟨j, hj, rfl⟩ := List.mem_iff_getElem.mp hx
  simp at hj
  rw [List.getElem_take]
  have := h2 j (by omega)
  simpa using this
set_option maxHeartbeats 4000000 in
set_option maxRecDepth 100000 in
theorem DeleteFunc65_calls (p : S79 → Bool) (g : Nat) (lb : Array Value) (eg : ∀ args w, (callFunc g args).run Try.prog w = .ok (.enter g args) w) (b c0 : Nat) (l0 : List S79) (w0 w : World) (hB : Below w0.heap.size w0 w) (hb0 : w0.heap.size ≤ b) (hb1 : b < w.heap.size) (hP : Pairs w b c0 l0) (hc : l0.length ≤ c0)
  (hp : ∀ W, ∀ x : S79, Calls Try.prog g (#[.agg #[.int .i64 x.f0, .int .i64 x.f1]] ++ lb) W fun e w' => e = .returned (.bool (p x)) ∧ Below W.heap.size W w')
  (hbig : l0.length ≤ 9223372036854775807) :
  Calls Try.prog 65 #[.slice (some ⟨b, 0, none⟩) l0.length c0, .func (.func g) #[] lb] w fun e w' => e = .returned (.slice (some ⟨b, 0, none⟩) (l0.filter (fun x => !p x)).length c0) ∧ Pairs w' b c0 (l0.filter (fun x => !p x)) ∧ Below w0.heap.size w0 w' := by
 have hu79 := Try.underlying79
 have hu70 := Try.underlying70
 have HI := Aside0.mk (IndexFunc81_calls p g lb eg (some ⟨b, 0, none⟩) c0 l0 w (fun W _ x => hp W x) (by have := hP.C (by omega) l0.length (Nat.le_refl _); rwa [List.take_length] at this) (by omega))
 have HP := Aside0.mk hP
 have HB := Aside0.mk hB
 have H0 := Aside0.mk hb0
 have H1 := Aside0.mk hb1
 have HQ := Aside0.mk hp
 have HC := Aside0.mk hc
 have HG := Aside0.mk hbig
 clear hP hB hb0 hb1 hp hc hbig
 rcases idx79_spec p l0 with ⟨h1, h2⟩ | ⟨i, hi, h1, h2⟩
 ·rw [h1] at HI
  have H2 := Aside0.mk h2
  clear h1 h2
  go_enter Try.func65, Try.ntmps65
  go_wp2_with (go_at_call 81; refine (HI.out).mono ?_; rintro e w' ⟨rfl, hb'⟩)
  go_ret
  refine ⟨by rw [H2.out]; rfl, by rw [H2.out]; exact HP.out.below hb', below_step HB.out hb'⟩
 ·rw [h1] at HI
  have H2 := Aside0.mk h2
  have HI1 := Aside0.mk hi
  clear h1 h2 hi
  go_enter Try.func65, Try.ntmps65
  go_wp2_with (go_at_call 81; refine (HI.out).mono ?_; rintro e w' ⟨rfl, hb'⟩)
  go_loopg [5, 6] l0.length (fun gg s5 s6 wr => ∃ (i j : Nat) (cur : List S79), s5 = .int .i64 i ∧ s6 = .int .i64 j ∧ Aside0 (i < j ∧ j ≤ l0.length ∧ l0.length - j ≤ gg ∧ cur.length = l0.length ∧ cur.take i = (l0.take j).filter (fun x => !p x) ∧ cur.drop j = l0.drop j) ∧ Aside0 (Pairs wr b c0 cur) ∧ Aside0 (Below w0.heap.size w0 wr) ∧ Aside0 (b < wr.heap.size))
  case atStart =>
   have h1 := HI1.out
   have h2 := HG.out
   exact ⟨i, i + 1, l0, rfl, by first | rfl | (rw [show wrap64 ((i : Int) + 1) = ((i + 1 : Nat) : Int) from by unfold wrap64; omega]) | (simp; done), ⟨by omega, by omega, by omega, rfl, H2.out, rfl⟩, ⟨HP.out.below hb'⟩, ⟨below_step HB.out hb'⟩, ⟨Nat.lt_of_lt_of_le H1.out hb'.size⟩⟩
  case round =>
   clear HI HP HB H1 hb'
   obtain ⟨i, j, cur, rfl, rfl, A, HP, HB, H1⟩ := hrel
   by_cases hlt : (j : Int) < (l0.length : Int)
   ·have c1 : decide ((j : Int) < (l0.length : Int)) = true := decide_eq_true hlt
    have hl : cur.length = l0.length := A.out.2.2.2.1
    have hj : j < l0.length := by omega
    obtain ⟨hx0, hx1, -, -⟩ := HP.out.at_ j (by omega)
    have q105 := eq_true hlt
    have p105 : (0 ≤ (j : Int)) = True := eq_true (by omega)
    have HJ := Aside0.mk hj
    have HL := Aside0.mk hl
    clear hlt hj hl
    cases hq : p (cur.getD j z79) with
    | true =>
     have HQ1 := Aside0.mk hq
     have HC1 := Aside0.mk (fun W => HQ.out W (cur.getD j z79))
     rw [hq] at HC1
     clear hq
     go_wp2_with (go_at_fn g; refine (HC1.out _).mono ?_; rintro e w' ⟨rfl, hb'⟩)
     go_roundg (gk - 1)
     case measure => have h1 := A.out; have h2 := HJ.out; omega
     case rel =>
      have h1 := A.out
      have h2 := HJ.out
      have h3 := HG.out
      have hbb := below_step (below_alloc (Below.refl wr.heap.size wr) _) hb'
      have hj : j < cur.length := by omega
      have e1 : l0[j] = cur[j] := by
       have := congrArg (fun l => l[0]?) h1.2.2.2.2.2
       simp only [List.getElem?_drop] at this
       rw [List.getElem?_eq_getElem (by omega), List.getElem?_eq_getElem (by omega)] at this
       exact (Option.some.inj this).symm
      refine ⟨i, j + 1, cur, rfl, ?_, ⟨by omega, by omega, by omega, h1.2.2.2.1, ?_, ?_⟩, ⟨HP.out.below hbb⟩, ⟨below_step HB.out hbb⟩, ⟨Nat.lt_of_lt_of_le H1.out hbb.size⟩⟩
      ·first | rfl | (rw [show wrap64 ((j : Int) + 1) = ((j + 1 : Nat) : Int) from by unfold wrap64; omega])
      ·rw [h1.2.2.2.2.1, List.take_succ_eq_append_getElem h2, List.filter_append, e1]
       have : p cur[j] = true := by have := HQ1.out; rw [List.getD_eq_getElem?_getD, List.getElem?_eq_getElem hj] at this; exact this
       simp [this]
      ·have := congrArg (List.drop 1) h1.2.2.2.2.2
       simpa [List.drop_drop, Nat.add_comm] using this
    | false =>
     have HQ1 := Aside0.mk hq
     have HC1 := Aside0.mk (fun W => HQ.out W (cur.getD j z79))
     rw [hq] at HC1
     clear hq
     have r1 : ((i : Int) < (l0.length : Int)) = True := eq_true (by have := A.out.1; have := HJ.out; omega)
     have r2 : (0 ≤ (i : Int)) = True := eq_true (by omega)
     go_wp2_with (go_at_fn g; refine (HC1.out _).mono ?_; rintro e w' ⟨rfl, hb'⟩; have HBX := Aside0.mk (blk_below (heap_alloc_new wr _) hb'); have hv0 := (blk_cell HBX.out 0).trans rfl; have hv1 := (blk_cell HBX.out 1).trans rfl; have HPW := Aside0.mk (HP.out.below (below_step (below_alloc (Below.refl wr.heap.size wr) _) hb')); obtain ⟨y0, y1, z0, z1⟩ := HPW.out.at_ i (by have := A.out; have := HJ.out; omega))
     go_roundg (gk - 1)
     case measure => have h1 := A.out; have h2 := HJ.out; omega
     case rel =>
      have h1 := A.out
      have h2 := HJ.out
      have h3 := HG.out
      have hbb := below_step (below_alloc (Below.refl wr.heap.size wr) _) hb'
      have hj : j < cur.length := by omega
      have e1 : l0[j] = cur[j] := by
       have := congrArg (fun l => l[0]?) h1.2.2.2.2.2
       simp only [List.getElem?_drop] at this
       rw [List.getElem?_eq_getElem (by omega), List.getElem?_eq_getElem (by omega)] at this
       exact (Option.some.inj this).symm
      have e2 : cur[j]?.getD z79 = cur[j] := by rw [List.getElem?_eq_getElem hj]; rfl
      refine ⟨i + 1, j + 1, cur.set i (cur[j]?.getD z79), ?_, ?_, ⟨by omega, by omega, by omega, by rw [List.length_set]; exact h1.2.2.2.1, ?_, ?_⟩, ⟨HPW.out.put i (by omega) _⟩, ⟨below_set (below_set (below_step HB.out hbb) H0.out) H0.out⟩, ⟨by have := Nat.lt_of_lt_of_le H1.out hbb.size; simpa [World.setCell] using this⟩⟩
      ·first | rfl | (rw [show wrap64 ((i : Int) + 1) = ((i + 1 : Nat) : Int) from by unfold wrap64; omega])
      ·first | rfl | (rw [show wrap64 ((j : Int) + 1) = ((j + 1 : Nat) : Int) from by unfold wrap64; omega])
      ·rw [e2, List.take_succ_eq_append_getElem h2, List.filter_append, e1, ← h1.2.2.2.2.1, List.take_succ_eq_append_getElem (by rw [List.length_set]; omega), List.getElem_set_self, List.take_set_of_le (Nat.le_refl _)]
       have : p cur[j] = false := by have := HQ1.out; rw [List.getD_eq_getElem?_getD, List.getElem?_eq_getElem hj] at this; exact this
       simp [this]
      ·rw [List.drop_set_of_lt (by omega)]
       have := congrArg (List.drop 1) h1.2.2.2.2.2
       simpa [List.drop_drop, Nat.add_comm] using this
   ·have c1 : decide ((j : Int) < (l0.length : Int)) = false := decide_eq_false hlt
    have q105 : ((j : Int) < (l0.length : Int)) = False := eq_false hlt
    have HL := Aside0.mk hlt
    clear hlt
    have hj : j = l0.length := by have := HL.out; have := A.out.2.1; omega
    have hi : i < l0.length := by have := A.out.1; omega
    have s1 : ((i : Int) ≤ (l0.length : Int)) = True := eq_true (by omega)
    have s2 : ((l0.length : Int) ≤ (c0 : Int)) = True := eq_true (by have := HC.out; omega)
    have s3 : ((i : Int) ≤ (c0 : Int)) = True := eq_true (by have := HC.out; omega)
    have s4 : (0 ≤ (i : Int)) = True := eq_true (by omega)
    have hl : cur.length = l0.length := A.out.2.2.2.1
    have hcl := run_clear_pairs wr 0 b (i * 2) (l0.length - i) (c0 - i) (by omega)
     (fun k hk => by
      obtain ⟨a0, a1, -, -⟩ := HP.out.at_ ((i * 2 + k) / 2) (by omega)
      rcases (show (i * 2 + k) % 2 = 0 ∨ (i * 2 + k) % 2 = 1 by omega) with e | e
      ·rw [show i * 2 + k = (i * 2 + k) / 2 * 2 by omega, a0]; rfl
      ·rw [show i * 2 + k = (i * 2 + k) / 2 * 2 + 1 by omega, a1]; rfl)
     (fun k hk => by
      obtain ⟨-, -, a0, a1⟩ := HP.out.at_ ((i * 2 + k) / 2) (by omega)
      rcases (show (i * 2 + k) % 2 = 0 ∨ (i * 2 + k) % 2 = 1 by omega) with e | e
      ·rw [show i * 2 + k = (i * 2 + k) / 2 * 2 by omega, a0]
      ·rw [show i * 2 + k = (i * 2 + k) / 2 * 2 + 1 by omega, a1])
    have HI2 := Aside0.mk hi
    have HJ2 := Aside0.mk hj
    have HL2 := Aside0.mk hl
    clear hi hj hl
    go_wp2
    all_goals first | (exfalso; have h1 := HI2.out; have h2 := HC.out; omega) | skip
    go_ret
    have hf : l0.filter (fun x => !p x) = cur.take i := by rw [A.out.2.2.2.2.1, HJ2.out, List.take_length]
    have hi := HI2.out
    have hl := HL2.out
    refine ⟨?_, by rw [hf]; exact HP.out.cleared i (by omega) _, below_setCells H0.out _ _ _ HB.out⟩
    rw [hf, List.length_take, Nat.min_eq_left (by omega)]
    rfl
theorem Pairs.of_R {W : World} {base : Nat} {ok : Nat → Prop} {v : Value} {l : List S79} (h : Kd.R k79 79 W base ok v l) : (v = .slice none 0 0 ∧ l = []) ∨ ∃ g c, v = .slice (some ⟨g, 0, none⟩) l.length c ∧ base ≤ g ∧ g < W.heap.size ∧ l.length ≤ c ∧ c ≤ maxLen ∧ Pairs W g c l := by
 obtain ⟨A, c, e0, hc, hC⟩ := Kd.R_reads h
 obtain ⟨-, inner, ho, -⟩ := h
 rcases ho.2 with ⟨rfl, h0⟩ | ⟨g, cap, cur, rfl, hb, hh, h1, h2, h3, -⟩
 ·exact .inl ⟨rfl, List.eq_nil_of_length_eq_zero h0⟩
 ·right
  injection e0 with eA _ ec
  subst eA ec
  refine ⟨g, cap, rfl, hb, (Array.getElem?_eq_some_iff.mp hh).1, h1, h2, ⟨cur, hh, h3, fun j hj => ?_⟩⟩
  obtain ⟨ad, e, c0, c1⟩ := at_T79 hC (j : Int) (by omega) (by omega)
  injection e with e
  subst e
  have ad : ∀ k : Nat, (⟨g, 0, none⟩ : Addr).add k = ⟨g, k, none⟩ := by intro k; unfold Addr.add; split <;> simp_all
  rw [Int.toNat_natCast, ad, blk_cell hh] at c0 c1
  unfold rd_T79 at c0 c1
  rw [Int.toNat_natCast] at c0 c1
  exact ⟨c0, c1⟩
theorem Pairs.R {W : World} {g c : Nat} {l : List S79} (h : Pairs W g c l) {base : Nat} {ok : Nat → Prop} (hb : base ≤ g) (hok : ok g) (hc : l.length ≤ c) (hm : c ≤ maxLen) : Kd.R k79 79 W base ok (.slice (some ⟨g, 0, none⟩) l.length c) l := by
 obtain ⟨cs, h1, hs, h2⟩ := h.get
 have hs' : cs.toList.length = c * 2 := by simpa using hs
 refine ⟨fun k hk => ?_, cs.toList.take (l.length * 2), ⟨?_, .inr ⟨g, c, cs, rfl, hb, h1, hc, hm, hs, rfl⟩⟩, ?_, fun j p hp => ?_⟩
 ·have : g = k := by simpa [Value.ownBlock] using hk
  subst this
  exact hok
 ·rw [List.length_take, hs', show k79.sz = 2 from rfl]
  omega
 ·rw [List.length_take, hs', show k79.sz = 2 from rfl]
  omega
 ·have hj : j < l.length := (List.getElem?_eq_some_iff.mp hp).1
  obtain ⟨c0, c1⟩ := h2 j hj
  have e : l.getD j z79 = p := by rw [List.getD_eq_getElem?_getD, hp]; rfl
  rw [e] at c0 c1
  have : ((cs.toList.take (l.length * 2)).drop (j * k79.sz)).take k79.sz = [.int .i64 p.f0, .int .i64 p.f1] := by
   rw [show k79.sz = 2 from rfl]
   obtain ⟨i0, e0⟩ := Array.getElem?_eq_some_iff.mp c0
   obtain ⟨i1, e1⟩ := Array.getElem?_eq_some_iff.mp c1
   apply List.ext_getElem?
   intro k
   match k with
   | 0 =>
    rw [List.getElem?_take_of_lt (by omega), List.getElem?_drop, List.getElem?_take_of_lt (by omega), Array.getElem?_toList]
    exact c0
   | 1 =>
    rw [List.getElem?_take_of_lt (by omega), List.getElem?_drop, List.getElem?_take_of_lt (by omega), Array.getElem?_toList]
    exact c1
   | k + 2 =>
    rw [List.getElem?_eq_none (by rw [List.length_take]; omega)]
    rfl
  rw [this]
  exact k79_mkM _ _ _ p
set_option maxHeartbeats 2000000 in
theorem DeleteFunc65_none (p : S79 → Bool) (g : Nat) (lb : Array Value) (eg : ∀ args w, (callFunc g args).run Try.prog w = .ok (.enter g args) w) (w : World)
  (hp : ∀ W, ∀ x : S79, Calls Try.prog g (#[.agg #[.int .i64 x.f0, .int .i64 x.f1]] ++ lb) W fun e w' => e = .returned (.bool (p x)) ∧ Below W.heap.size W w') :
  Calls Try.prog 65 #[.slice none 0 0, .func (.func g) #[] lb] w fun e w' => e = .returned (.slice none 0 0) ∧ Below w.heap.size w w' := by
 have HI := Aside0.mk (IndexFunc81_calls p g lb eg none 0 [] w (fun W _ x => hp W x) ⟨rfl, by decide, fun h => absurd h (by decide)⟩ (by decide))
 clear hp
 go_enter Try.func65, Try.ntmps65
 go_wp2_with (go_at_call 81; refine (HI.out).mono ?_; rintro e w' ⟨rfl, hb'⟩)
 go_ret
 exact ⟨rfl, hb'⟩
theorem DeleteFunc65_R (p : S79 → Bool) (g : Nat) (lb : Array Value) (eg : ∀ args w, (callFunc g args).run Try.prog w = .ok (.enter g args) w) (v : Value) (l0 : List S79) (w0 w : World) (hB : Below w0.heap.size w0 w) (hv : Kd.R k79 79 w w0.heap.size (fun _ => True) v l0)
  (hp : ∀ W, ∀ x : S79, Calls Try.prog g (#[.agg #[.int .i64 x.f0, .int .i64 x.f1]] ++ lb) W fun e w' => e = .returned (.bool (p x)) ∧ Below W.heap.size W w') :
  Calls Try.prog 65 #[v, .func (.func g) #[] lb] w fun e w' => ∃ v', e = .returned v' ∧ Kd.R k79 79 w' w0.heap.size (fun _ => True) v' (l0.filter (fun x => !p x)) ∧ Below w0.heap.size w0 w' := by
 obtain ⟨_, _, _, _, hC⟩ := Kd.R_reads hv
 have hbig := hC.2.1
 rcases Pairs.of_R hv with ⟨rfl, rfl⟩ | ⟨b, c, rfl, h1, h2, h3, h4, hP⟩
 ·refine (DeleteFunc65_none p g lb eg w hp).mono ?_
  rintro e w' ⟨rfl, hb⟩
  exact ⟨_, rfl, Kd.R_nil _ _ _ _ _, below_step hB hb⟩
 ·refine (DeleteFunc65_calls p g lb eg b c l0 w0 w hB h1 h2 hP h3 hp hbig).mono ?_
  rintro e w' ⟨rfl, hP', hb⟩
  have hl := List.length_filter_le (fun x => !p x) l0
  exact ⟨_, rfl, hP'.R h1 trivial (by omega) h4, hb⟩
def T33 : Bool × List (List Nat × List Nat) := (true, [([], []), ([0], [0]), ([], []), ([2], [2]), ([1, 3], [1, 3]), ([], []), ([4, 5, 4], [4, 5]), ([], []), ([7], [7]), ([], []), ([9], [9]), ([8, 10, 6], [8, 10]), ([], []), ([11, 12, 11], [11, 12]), ([6, 13, 0, 1, 2, 3, 4, 5, 6], [6]), ([13, 14, 0, 1, 2, 3, 4, 5, 6, 7, 8, 9, 10, 11, 12, 13, 14], [13]), ([15, 0, 1, 2, 3, 4, 5, 6, 7, 8, 9, 10, 11, 12, 13, 14, 15], [])])
theorem tab33 : rtab .any (opsOf Try.f33 5) = T33 := by kernel_rfl
theorem two_R {W1 w' : World} {base : Nat} {q t : Value} {a b : List S79} (hq : Kd.R k79 79 W1 base (fun _ => True) q a) (hb : Below W1.heap.size W1 w') (ht : Kd.R k79 79 w' W1.heap.size (fun _ => True) t b) (hbase : base ≤ W1.heap.size) :
  Kd.R k79 79 w' base (fun k_ => some k_ ≠ t.ownBlock) q a ∧ Kd.R k79 79 w' base (fun k_ => some k_ ≠ q.ownBlock) t b := by
 have h1 := Kd.R_bound hq
 have h2 := Kd.R_bound ht
 refine ⟨Kd.R_mono (Kd.R_below h1 hb) (fun k hk e => ?_), Kd.R_mono (Kd.R_lower h2 hbase) (fun k hk e => ?_)⟩
 ·have := (h2.1 k e.symm).2.1
  have := hk.2.2.1
  omega
 ·have := (h1.1 k e.symm).2.2.1
  have := hk.2.1
  omega
def J33 (W0 : World) (B3 B4 B5 : Nat) (A0 : Option Addr) (c0 : Nat) (a0 : List Int) (A1 : Option Addr) (c1 : Nat) (a1 : List S94) (A2 : Option Addr) (c2 : Nat) (b0 : List Int) (A3 : Option Addr) (c3 : Nat) (b1 : List S94) (A4 : Option Addr) (c4 : Nat) (n : List Int) (A5 : Option Addr) (c5 : Nat) (m : List Int) (P Q : List S79) (l : List Bool) (a : Act) (w' : World) : Prop :=
 ∃ (y0 y1 y2 y3 y4 y5 y6 y7 y8 y9 y10 y11 y12 y13 y14 y15 y16 : Bool) (x6 x7 x8 x18 x19 x20 x21 x22 x23 x24 x25 x26 x27 x28 x29 x30 x31 : Value) (p q s t : Value), l = [y0, y1, y2, y3, y4, y5, y6, y7, y8, y9, y10, y11, y12, y13, y14, y15, y16] ∧ a = ⟨#[.agg #[.slice A0 a0.length c0, .slice A1 a1.length c1], .agg #[.slice A2 b0.length c2, .slice A3 b1.length c3], .agg #[.slice A4 n.length c4, .slice A5 m.length c5], .pointer (some ⟨B3, 0, none⟩), .pointer (some ⟨B4, 0, none⟩), .pointer (some ⟨B5, 0, none⟩), x6, x7, x8, .int .i64 0, .func (.func 64) #[] #[], .agg #[.slice A0 a0.length c0, .slice A1 a1.length c1], .agg #[.slice A2 b0.length c2, .slice A3 b1.length c3], .agg #[.slice A4 n.length c4, .slice A5 m.length c5], .int .i64 0, .int .i64 0, .bool false, undef, x18, x19, x20, x21, x22, x23, x24, x25, x26, x27, x28, x29, x30, x31], []⟩ ∧
 (y0 = true → x18 = .pointer (some ⟨B5, 0, none⟩)) ∧
 (y1 = true → x19 = .slice A4 n.length c4) ∧
 (y2 = true → x20 = .pointer (some ⟨B5, 0, none⟩)) ∧
 (y3 = true → x21 = .slice A4 n.length c4) ∧
 (y4 = true → x22 = p ∧ (y6 = false → Kd.R k79 79 w' W0.heap.size (fun _ => True) p P)) ∧
 (y5 = true → x23 = .func (.func 64) #[] #[]) ∧
 (y6 = true → y4 = true) ∧
 (y6 = true → x24 = q ∧ (y11 = false → Kd.R k79 79 w' W0.heap.size (fun _ => True) q (P.filter (fun x => !decide (x.f0 ≥ x.f1))))) ∧
 (y7 = true → x25 = .pointer (some ⟨B5, 1, none⟩)) ∧
 (y8 = true → x26 = .slice A5 m.length c5) ∧
 (y9 = true → x27 = .pointer (some ⟨B5, 1, none⟩)) ∧
 (y10 = true → x28 = .slice A5 m.length c5) ∧
 (y11 = true → y6 = true ∧ x29 = s ∧ ∃ W1, Since W0 W1 ∧ Below W1.heap.size W1 w' ∧ Kd.R k79 79 W1 W0.heap.size (fun _ => True) q (P.filter (fun x => !decide (x.f0 ≥ x.f1))) ∧ (y13 = false → Kd.R k79 79 w' W1.heap.size (fun _ => True) s Q) ∧ (y13 = true → x31 = t ∧ Kd.R k79 79 w' W1.heap.size (fun _ => True) t (Q.filter (fun x => !decide (x.f0 ≥ x.f1))))) ∧
 (y12 = true → x30 = .func (.func 64) #[] #[]) ∧
 (y13 = true → y11 = true) ∧
 (y14 = true → y6 = true ∧ x6 = q) ∧
 (y15 = true → y13 = true ∧ x7 = t) ∧
 (y16 = true → x8 = .int .i64 0) ∧
 (Since W0 w')
set_option maxRecDepth 100000 in
set_option maxHeartbeats 4000000 in
theorem J33_step (k : Nat) (W0 : World) (B3 B4 B5 : Nat) (A0 : Option Addr) (c0 : Nat) (a0 : List Int) (A1 : Option Addr) (c1 : Nat) (a1 : List S94) (A2 : Option Addr) (c2 : Nat) (b0 : List Int) (A3 : Option Addr) (c3 : Nat) (b1 : List S94) (A4 : Option Addr) (c4 : Nat) (n : List Int) (A5 : Option Addr) (c5 : Nat) (m : List Int) (P Q : List S79) (BZ : Box2 W0 B5 27 (.slice A4 n.length c4) (.slice A5 m.length c5)) (R4 : Row (Kd.int .i64) W0 A4 c4 n) (R5 : Row (Kd.int .i64) W0 A5 c5 m) (hP : pullback_pairs.f k n n = some P) (hQ : pullback_pairs.f k m m = some Q)
  {Q_ : Exit → Act → World → Prop} : ∀ l a w' i, J33 W0 B3 B4 B5 A0 c0 a0 A1 c1 a1 A2 c2 b0 A3 c3 b1 A4 c4 n A5 c5 m P Q l a w' → l.length = (opsOf Try.f33 5).size → readyAt T33.2 l i = true → i < T33.2.length → wpOp Try.prog (opsOf Try.f33 5) Q_ i (fun a' w'' => J33 W0 B3 B4 B5 A0 c0 a0 A1 c1 a1 A2 c2 b0 A3 c3 b1 A4 c4 n A5 c5 m P Q (l.set i true) a' w'') a w' := by
 rintro l a w' i ⟨y0, y1, y2, y3, y4, y5, y6, y7, y8, y9, y10, y11, y12, y13, y14, y15, y16, x6, x7, x8, x18, x19, x20, x21, x22, x23, x24, x25, x26, x27, x28, x29, x30, x31, p, q, s, t, rfl, rfl, f0, f1, f2, f3, f4, f5, d6, f6, f7, f8, f9, f10, f11, f12, f13, f14, f15, f16, sb⟩ _ hr hi
 have hu27 := Try.underlying27
 replace hi : i < 17 := hi
 have hcase : i = 0 ∨ i = 1 ∨ i = 2 ∨ i = 3 ∨ i = 4 ∨ i = 5 ∨ i = 6 ∨ i = 7 ∨ i = 8 ∨ i = 9 ∨ i = 10 ∨ i = 11 ∨ i = 12 ∨ i = 13 ∨ i = 14 ∨ i = 15 ∨ i = 16 := by omega
 rcases hcase with rfl | rfl | rfl | rfl | rfl | rfl | rfl | rfl | rfl | rfl | rfl | rfl | rfl | rfl | rfl | rfl | rfl
 ·-- 0
  have nb : y0 = false := need_not hr
  refine wpOp_step (i := 0) (o := { dst := some 18, op := Op.fieldAddr 27 (Operand.tmp 5) 0, type := 0, pos := "pullback.go:154", after := #[], guard := none }) (by rfl) (fun K hK => ?_)
  refine event_step (v := .pointer (some ⟨B5, 0, none⟩)) (w1 := w') rfl ?_ ?_
  ·first | (go_simp; done) | (go_simp; rfl)
  refine hK _ _ ⟨true, y1, y2, y3, y4, y5, y6, y7, y8, y9, y10, y11, y12, y13, y14, y15, y16, x6, x7, x8, .pointer (some ⟨B5, 0, none⟩), x19, x20, x21, x22, x23, x24, x25, x26, x27, x28, x29, x30, x31, p, q, s, t, rfl, ?_, fun _ => rfl,
   f1,
   f2,
   f3,
   f4,
   f5,
   d6,
   f6,
   f7,
   f8,
   f9,
   f10,
   f11,
   f12,
   f13,
   f14,
   f15,
   f16,
   sb⟩
  simp only [Act.put, List.setIfInBounds_toArray, List.set_cons_zero, List.set_cons_succ]
 ·-- 1
  have nb : y1 = false := need_not hr
  have n0 : y0 = true := need (j := 0) hr rfl (by decide)
  refine wpOp_step (i := 1) (o := { dst := some 19, op := Op.load 22 (Operand.tmp 18), type := 22, pos := "pullback.go:154", after := #[aD 0], guard := none }) (by rfl) (fun K hK => ?_)
  obtain rfl := f0 n0
  have hx := (BZ.below sb.get).c0
  refine event_step (v := .slice A4 n.length c4) (w1 := w') rfl ?_ ?_
  ·first | (go_simp; done) | (go_simp; rfl)
  refine hK _ _ ⟨y0, true, y2, y3, y4, y5, y6, y7, y8, y9, y10, y11, y12, y13, y14, y15, y16, x6, x7, x8, .pointer (some ⟨B5, 0, none⟩), .slice A4 n.length c4, x20, x21, x22, x23, x24, x25, x26, x27, x28, x29, x30, x31, p, q, s, t, rfl, ?_, fun _ => rfl,
   fun _ => rfl,
   f2,
   f3,
   f4,
   f5,
   d6,
   f6,
   f7,
   f8,
   f9,
   f10,
   f11,
   f12,
   f13,
   f14,
   f15,
   f16,
   sb⟩
  simp only [Act.put, List.setIfInBounds_toArray, List.set_cons_zero, List.set_cons_succ]
 ·-- 2
  have nb : y2 = false := need_not hr
  refine wpOp_step (i := 2) (o := { dst := some 20, op := Op.fieldAddr 27 (Operand.tmp 5) 0, type := 0, pos := "pullback.go:154", after := #[], guard := none }) (by rfl) (fun K hK => ?_)
  refine event_step (v := .pointer (some ⟨B5, 0, none⟩)) (w1 := w') rfl ?_ ?_
  ·first | (go_simp; done) | (go_simp; rfl)
  refine hK _ _ ⟨y0, y1, true, y3, y4, y5, y6, y7, y8, y9, y10, y11, y12, y13, y14, y15, y16, x6, x7, x8, x18, x19, .pointer (some ⟨B5, 0, none⟩), x21, x22, x23, x24, x25, x26, x27, x28, x29, x30, x31, p, q, s, t, rfl, ?_, f0,
   f1,
   fun _ => rfl,
   f3,
   f4,
   f5,
   d6,
   f6,
   f7,
   f8,
   f9,
   f10,
   f11,
   f12,
   f13,
   f14,
   f15,
   f16,
   sb⟩
  simp only [Act.put, List.setIfInBounds_toArray, List.set_cons_zero, List.set_cons_succ]
 ·-- 3
  have nb : y3 = false := need_not hr
  have n2 : y2 = true := need (j := 2) hr rfl (by decide)
  refine wpOp_step (i := 3) (o := { dst := some 21, op := Op.load 22 (Operand.tmp 20), type := 22, pos := "pullback.go:154", after := #[aD 2], guard := none }) (by rfl) (fun K hK => ?_)
  obtain rfl := f2 n2
  have hx := (BZ.below sb.get).c0
  refine event_step (v := .slice A4 n.length c4) (w1 := w') rfl ?_ ?_
  ·first | (go_simp; done) | (go_simp; rfl)
  refine hK _ _ ⟨y0, y1, y2, true, y4, y5, y6, y7, y8, y9, y10, y11, y12, y13, y14, y15, y16, x6, x7, x8, x18, x19, .pointer (some ⟨B5, 0, none⟩), .slice A4 n.length c4, x22, x23, x24, x25, x26, x27, x28, x29, x30, x31, p, q, s, t, rfl, ?_, f0,
   f1,
   fun _ => rfl,
   fun _ => rfl,
   f4,
   f5,
   d6,
   f6,
   f7,
   f8,
   f9,
   f10,
   f11,
   f12,
   f13,
   f14,
   f15,
   f16,
   sb⟩
  simp only [Act.put, List.setIfInBounds_toArray, List.set_cons_zero, List.set_cons_succ]
 ·-- 4
  have nb : y4 = false := need_not hr
  have n1 : y1 = true := need (j := 1) hr rfl (by decide)
  have n3 : y3 = true := need (j := 3) hr rfl (by decide)
  refine wpOp_step (i := 4) (o := { dst := some 22, op := Op.call { callee := Callee.value (Operand.func 66), args := #[Operand.tmp 19, Operand.tmp 21], argTypes := #[22, 22] }, type := 70, pos := "pullback.go:154", after := #[aD 1, aD 3], guard := none }) (by rfl) (fun K hK => ?_)
  obtain rfl := f1 n1
  obtain rfl := f3 n3
  refine goes_ Try.func66 (by kernel_rfl) rfl #[.slice A4 n.length c4, .slice A4 n.length c4] (by rfl) rfl rfl (by (try simp only [List.map_toArray, List.map_cons, List.map_nil]); first | done | rfl) ?_
  refine (pullback_pairs.calls k _ _ n _ _ n P _ (R4.below sb.get).at_ R4.cap (R4.below sb.get).at_ R4.cap hP).mono ?_
  rintro e w1 ⟨p', rfl, h0, hb⟩
  refine ⟨_, rfl, ?_⟩
  refine hK _ _ ⟨y0, y1, y2, y3, true, y5, y6, y7, y8, y9, y10, y11, y12, y13, y14, y15, y16, x6, x7, x8, x18, .slice A4 n.length c4, x20, .slice A4 n.length c4, p', x23, x24, x25, x26, x27, x28, x29, x30, x31, p', q, s, t, rfl, ?_, f0,
   fun _ => rfl,
   f2,
   fun _ => rfl,
   fun _ => ⟨rfl, fun _ => Kd.R_lower h0 sb.get.size⟩,
   f5,
   fun _ => rfl,
   fun h => absurd (d6 h) (by rw [nb]; decide),
   f7,
   f8,
   f9,
   f10,
   fun h => absurd (d6 (f11 h).1) (by rw [nb]; decide),
   f12,
   f13,
   f14,
   f15,
   f16,
   sb.step hb⟩
  simp only [Act.put, List.setIfInBounds_toArray, List.set_cons_zero, List.set_cons_succ]
 ·-- 5
  have nb : y5 = false := need_not hr
  refine wpOp_step (i := 5) (o := { dst := some 23, op := Op.move (Operand.tmp 10), type := 102, pos := "pullback.go:154", after := #[], guard := none }) (by rfl) (fun K hK => ?_)
  refine event_step (v := .func (.func 64) #[] #[]) (w1 := w') rfl ?_ ?_
  ·first | (go_simp; done) | (go_simp; rfl)
  refine hK _ _ ⟨y0, y1, y2, y3, y4, true, y6, y7, y8, y9, y10, y11, y12, y13, y14, y15, y16, x6, x7, x8, x18, x19, x20, x21, x22, .func (.func 64) #[] #[], x24, x25, x26, x27, x28, x29, x30, x31, p, q, s, t, rfl, ?_, f0,
   f1,
   f2,
   f3,
   f4,
   fun _ => rfl,
   d6,
   f6,
   f7,
   f8,
   f9,
   f10,
   f11,
   f12,
   f13,
   f14,
   f15,
   f16,
   sb⟩
  simp only [Act.put, List.setIfInBounds_toArray, List.set_cons_zero, List.set_cons_succ]
 ·-- 6
  have nb : y6 = false := need_not hr
  have n4 : y4 = true := need (j := 4) hr rfl (by decide)
  have n5 : y5 = true := need (j := 5) hr rfl (by decide)
  refine wpOp_step (i := 6) (o := { dst := some 24, op := Op.call { callee := Callee.value (Operand.func 65), args := #[Operand.tmp 22, Operand.tmp 23], argTypes := #[70, 102] }, type := 70, pos := "pullback.go:154", after := #[aD 4, aD 5, { on := 4, ground := Ground.chain }], guard := none }) (by rfl) (fun K hK => ?_)
  obtain ⟨e4, hr⟩ := f4 n4
  subst p
  obtain rfl := f5 n5
  refine goes_ Try.func65 (by kernel_rfl) rfl #[x22, .func (.func 64) #[] #[]] (by rfl) rfl rfl (by (try simp only [List.map_toArray, List.map_cons, List.map_nil]); first | done | rfl) ?_
  refine (DeleteFunc65_R (fun x => decide (x.f0 ≥ x.f1)) 64 #[] (fun args w => enters_ Try.func64 (by kernel_rfl) rfl args w) x22 P W0 w' sb.get (hr nb) (fun W x => Kernel1_calls x W)).mono ?_
  rintro e w1 ⟨q', rfl, h0, hb⟩
  refine ⟨_, rfl, ?_⟩
  refine hK _ _ ⟨y0, y1, y2, y3, y4, y5, true, y7, y8, y9, y10, y11, y12, y13, y14, y15, y16, x6, x7, x8, x18, x19, x20, x21, x22, .func (.func 64) #[] #[], q', x25, x26, x27, x28, x29, x30, x31, x22, q', s, t, rfl, ?_, f0,
   f1,
   f2,
   f3,
   fun _ => ⟨rfl, fun h => absurd h (by decide)⟩,
   fun _ => rfl,
   fun _ => n4,
   fun _ => ⟨rfl, fun _ => h0⟩,
   f7,
   f8,
   f9,
   f10,
   fun h => absurd (f11 h).1 (by rw [nb]; decide),
   f12,
   f13,
   fun h => absurd (f14 h).1 (by rw [nb]; decide),
   f15,
   f16,
   ⟨hb⟩⟩
  simp only [Act.put, List.setIfInBounds_toArray, List.set_cons_zero, List.set_cons_succ]
 ·-- 7
  have nb : y7 = false := need_not hr
  refine wpOp_step (i := 7) (o := { dst := some 25, op := Op.fieldAddr 27 (Operand.tmp 5) 1, type := 0, pos := "pullback.go:154", after := #[], guard := none }) (by rfl) (fun K hK => ?_)
  refine event_step (v := .pointer (some ⟨B5, 1, none⟩)) (w1 := w') rfl ?_ ?_
  ·first | (go_simp; done) | (go_simp; rfl)
  refine hK _ _ ⟨y0, y1, y2, y3, y4, y5, y6, true, y8, y9, y10, y11, y12, y13, y14, y15, y16, x6, x7, x8, x18, x19, x20, x21, x22, x23, x24, .pointer (some ⟨B5, 1, none⟩), x26, x27, x28, x29, x30, x31, p, q, s, t, rfl, ?_, f0,
   f1,
   f2,
   f3,
   f4,
   f5,
   d6,
   f6,
   fun _ => rfl,
   f8,
   f9,
   f10,
   f11,
   f12,
   f13,
   f14,
   f15,
   f16,
   sb⟩
  simp only [Act.put, List.setIfInBounds_toArray, List.set_cons_zero, List.set_cons_succ]
 ·-- 8
  have nb : y8 = false := need_not hr
  have n7 : y7 = true := need (j := 7) hr rfl (by decide)
  refine wpOp_step (i := 8) (o := { dst := some 26, op := Op.load 22 (Operand.tmp 25), type := 22, pos := "pullback.go:154", after := #[aD 7], guard := none }) (by rfl) (fun K hK => ?_)
  obtain rfl := f7 n7
  have hx := (BZ.below sb.get).c1
  refine event_step (v := .slice A5 m.length c5) (w1 := w') rfl ?_ ?_
  ·first | (go_simp; done) | (go_simp; rfl)
  refine hK _ _ ⟨y0, y1, y2, y3, y4, y5, y6, y7, true, y9, y10, y11, y12, y13, y14, y15, y16, x6, x7, x8, x18, x19, x20, x21, x22, x23, x24, .pointer (some ⟨B5, 1, none⟩), .slice A5 m.length c5, x27, x28, x29, x30, x31, p, q, s, t, rfl, ?_, f0,
   f1,
   f2,
   f3,
   f4,
   f5,
   d6,
   f6,
   fun _ => rfl,
   fun _ => rfl,
   f9,
   f10,
   f11,
   f12,
   f13,
   f14,
   f15,
   f16,
   sb⟩
  simp only [Act.put, List.setIfInBounds_toArray, List.set_cons_zero, List.set_cons_succ]
 ·-- 9
  have nb : y9 = false := need_not hr
  refine wpOp_step (i := 9) (o := { dst := some 27, op := Op.fieldAddr 27 (Operand.tmp 5) 1, type := 0, pos := "pullback.go:154", after := #[], guard := none }) (by rfl) (fun K hK => ?_)
  refine event_step (v := .pointer (some ⟨B5, 1, none⟩)) (w1 := w') rfl ?_ ?_
  ·first | (go_simp; done) | (go_simp; rfl)
  refine hK _ _ ⟨y0, y1, y2, y3, y4, y5, y6, y7, y8, true, y10, y11, y12, y13, y14, y15, y16, x6, x7, x8, x18, x19, x20, x21, x22, x23, x24, x25, x26, .pointer (some ⟨B5, 1, none⟩), x28, x29, x30, x31, p, q, s, t, rfl, ?_, f0,
   f1,
   f2,
   f3,
   f4,
   f5,
   d6,
   f6,
   f7,
   f8,
   fun _ => rfl,
   f10,
   f11,
   f12,
   f13,
   f14,
   f15,
   f16,
   sb⟩
  simp only [Act.put, List.setIfInBounds_toArray, List.set_cons_zero, List.set_cons_succ]
 ·-- 10
  have nb : y10 = false := need_not hr
  have n9 : y9 = true := need (j := 9) hr rfl (by decide)
  refine wpOp_step (i := 10) (o := { dst := some 28, op := Op.load 22 (Operand.tmp 27), type := 22, pos := "pullback.go:154", after := #[aD 9], guard := none }) (by rfl) (fun K hK => ?_)
  obtain rfl := f9 n9
  have hx := (BZ.below sb.get).c1
  refine event_step (v := .slice A5 m.length c5) (w1 := w') rfl ?_ ?_
  ·first | (go_simp; done) | (go_simp; rfl)
  refine hK _ _ ⟨y0, y1, y2, y3, y4, y5, y6, y7, y8, y9, true, y11, y12, y13, y14, y15, y16, x6, x7, x8, x18, x19, x20, x21, x22, x23, x24, x25, x26, .pointer (some ⟨B5, 1, none⟩), .slice A5 m.length c5, x29, x30, x31, p, q, s, t, rfl, ?_, f0,
   f1,
   f2,
   f3,
   f4,
   f5,
   d6,
   f6,
   f7,
   f8,
   fun _ => rfl,
   fun _ => rfl,
   f11,
   f12,
   f13,
   f14,
   f15,
   f16,
   sb⟩
  simp only [Act.put, List.setIfInBounds_toArray, List.set_cons_zero, List.set_cons_succ]
 ·-- 11
  have nb : y11 = false := need_not hr
  have n8 : y8 = true := need (j := 8) hr rfl (by decide)
  have n10 : y10 = true := need (j := 10) hr rfl (by decide)
  have n6 : y6 = true := need (j := 6) hr rfl (by decide)
  refine wpOp_step (i := 11) (o := { dst := some 29, op := Op.call { callee := Callee.value (Operand.func 66), args := #[Operand.tmp 26, Operand.tmp 28], argTypes := #[22, 22] }, type := 70, pos := "pullback.go:154", after := #[aD 8, aD 10, { on := 6, ground := Ground.chain }], guard := none }) (by rfl) (fun K hK => ?_)
  obtain rfl := f8 n8
  obtain rfl := f10 n10
  refine goes_ Try.func66 (by kernel_rfl) rfl #[.slice A5 m.length c5, .slice A5 m.length c5] (by rfl) rfl rfl (by (try simp only [List.map_toArray, List.map_cons, List.map_nil]); first | done | rfl) ?_
  refine (pullback_pairs.calls k _ _ m _ _ m Q _ (R5.below sb.get).at_ R5.cap (R5.below sb.get).at_ R5.cap hQ).mono ?_
  rintro e w1 ⟨s', rfl, h0, hb⟩
  refine ⟨_, rfl, ?_⟩
  refine hK _ _ ⟨y0, y1, y2, y3, y4, y5, y6, y7, y8, y9, y10, true, y12, y13, y14, y15, y16, x6, x7, x8, x18, x19, x20, x21, x22, x23, x24, x25, .slice A5 m.length c5, x27, .slice A5 m.length c5, s', x30, x31, p, q, s', t, rfl, ?_, f0,
   f1,
   f2,
   f3,
   fun h => ⟨(f4 h).1, fun h' => absurd h' (by rw [n6]; decide)⟩,
   f5,
   d6,
   fun h => ⟨(f6 h).1, fun h' => absurd h' (by decide)⟩,
   f7,
   fun _ => rfl,
   f9,
   fun _ => rfl,
   fun _ => ⟨n6, rfl, w', sb, hb, (f6 n6).2 nb, fun _ => h0, fun h => absurd (f13 h) (by rw [nb]; decide)⟩,
   f12,
   fun _ => rfl,
   f14,
   f15,
   f16,
   sb.step hb⟩
  simp only [Act.put, List.setIfInBounds_toArray, List.set_cons_zero, List.set_cons_succ]
 ·-- 12
  have nb : y12 = false := need_not hr
  refine wpOp_step (i := 12) (o := { dst := some 30, op := Op.move (Operand.tmp 10), type := 102, pos := "pullback.go:154", after := #[], guard := none }) (by rfl) (fun K hK => ?_)
  refine event_step (v := .func (.func 64) #[] #[]) (w1 := w') rfl ?_ ?_
  ·first | (go_simp; done) | (go_simp; rfl)
  refine hK _ _ ⟨y0, y1, y2, y3, y4, y5, y6, y7, y8, y9, y10, y11, true, y13, y14, y15, y16, x6, x7, x8, x18, x19, x20, x21, x22, x23, x24, x25, x26, x27, x28, x29, .func (.func 64) #[] #[], x31, p, q, s, t, rfl, ?_, f0,
   f1,
   f2,
   f3,
   f4,
   f5,
   d6,
   f6,
   f7,
   f8,
   f9,
   f10,
   f11,
   fun _ => rfl,
   f13,
   f14,
   f15,
   f16,
   sb⟩
  simp only [Act.put, List.setIfInBounds_toArray, List.set_cons_zero, List.set_cons_succ]
 ·-- 13
  have nb : y13 = false := need_not hr
  have n11 : y11 = true := need (j := 11) hr rfl (by decide)
  have n12 : y12 = true := need (j := 12) hr rfl (by decide)
  obtain ⟨n6, -⟩ := f11 n11
  refine wpOp_step (i := 13) (o := { dst := some 31, op := Op.call { callee := Callee.value (Operand.func 65), args := #[Operand.tmp 29, Operand.tmp 30], argTypes := #[70, 102] }, type := 70, pos := "pullback.go:154", after := #[aD 11, aD 12, { on := 11, ground := Ground.chain }], guard := none }) (by rfl) (fun K hK => ?_)
  obtain ⟨-, e11, W1, k1, k2, k3, k4, -⟩ := f11 n11
  subst s
  obtain rfl := f12 n12
  refine goes_ Try.func65 (by kernel_rfl) rfl #[x29, .func (.func 64) #[] #[]] (by rfl) rfl rfl (by (try simp only [List.map_toArray, List.map_cons, List.map_nil]); first | done | rfl) ?_
  refine (DeleteFunc65_R (fun x => decide (x.f0 ≥ x.f1)) 64 #[] (fun args w => enters_ Try.func64 (by kernel_rfl) rfl args w) x29 Q W1 w' k2 (k4 nb) (fun W x => Kernel1_calls x W)).mono ?_
  rintro e w1 ⟨t', rfl, h0, hb⟩
  refine ⟨_, rfl, ?_⟩
  refine hK _ _ ⟨y0, y1, y2, y3, y4, y5, y6, y7, y8, y9, y10, y11, y12, true, y14, y15, y16, x6, x7, x8, x18, x19, x20, x21, x22, x23, x24, x25, x26, x27, x28, x29, .func (.func 64) #[] #[], t', p, q, x29, t', rfl, ?_, f0,
   f1,
   f2,
   f3,
   fun h => ⟨(f4 h).1, fun h' => absurd h' (by rw [n6]; decide)⟩,
   f5,
   d6,
   fun h => ⟨(f6 h).1, fun h' => absurd h' (by rw [n11]; decide)⟩,
   f7,
   f8,
   f9,
   f10,
   fun _ => ⟨n6, rfl, W1, k1, hb, k3, fun h => absurd h (by decide), fun _ => ⟨rfl, h0⟩⟩,
   fun _ => rfl,
   fun _ => n11,
   f14,
   fun h => absurd (f15 h).1 (by rw [nb]; decide),
   f16,
   ⟨below_step k1.get hb⟩⟩
  simp only [Act.put, List.setIfInBounds_toArray, List.set_cons_zero, List.set_cons_succ]
 ·-- 14
  have nb : y14 = false := need_not hr
  have n6 : y6 = true := need (j := 6) hr rfl (by decide)
  have n13 : y13 = true := need (j := 13) hr rfl (by decide)
  refine wpOp_step (i := 14) (o := { dst := some 6, op := Op.assign (Operand.tmp 24), type := 70, pos := "pullback.go:154", after := #[aD 6, { on := 13, ground := Ground.chain }, aP 0, aP 1, aP 2, aP 3, aP 4, aP 5, aP 6, { on := 7, ground := Ground.textOnly Departure.lateStores }, { on := 8, ground := Ground.textOnly Departure.lateStores }, { on := 9, ground := Ground.textOnly Departure.lateStores }, { on := 10, ground := Ground.textOnly Departure.lateStores }, { on := 11, ground := Ground.textOnly Departure.lateStoresUnsure }, { on := 12, ground := Ground.textOnly Departure.lateStores }, { on := 13, ground := Ground.textOnly Departure.lateStoresUnsure }], guard := none }) (by rfl) (fun K hK => ?_)
  obtain ⟨e6, _⟩ := f6 n6
  subst q
  refine event_step (v := x24) (w1 := w') rfl ?_ ?_
  ·first | (go_simp; done) | (go_simp; rfl)
  refine hK _ _ ⟨y0, y1, y2, y3, y4, y5, y6, y7, y8, y9, y10, y11, y12, y13, true, y15, y16, x24, x7, x8, x18, x19, x20, x21, x22, x23, x24, x25, x26, x27, x28, x29, x30, x31, p, x24, s, t, rfl, ?_, f0,
   f1,
   f2,
   f3,
   f4,
   f5,
   d6,
   fun h => ⟨rfl, (f6 h).2⟩,
   f7,
   f8,
   f9,
   f10,
   f11,
   f12,
   f13,
   fun _ => ⟨n6, rfl⟩,
   f15,
   f16,
   sb⟩
  simp only [Act.put, List.setIfInBounds_toArray, List.set_cons_zero, List.set_cons_succ]
 ·-- 15
  have nb : y15 = false := need_not hr
  have n13 : y13 = true := need (j := 13) hr rfl (by decide)
  have n14 : y14 = true := need (j := 14) hr rfl (by decide)
  refine wpOp_step (i := 15) (o := { dst := some 7, op := Op.assign (Operand.tmp 31), type := 70, pos := "pullback.go:154", after := #[aD 13, { on := 14, ground := Ground.chain }, aP 0, aP 1, aP 2, aP 3, aP 4, aP 5, aP 6, aP 7, aP 8, aP 9, aP 10, aP 11, aP 12, aP 13, aP 14], guard := none }) (by rfl) (fun K hK => ?_)
  obtain ⟨-, -, W1, k1, k2, k3, k4, k5⟩ := f11 (f13 n13)
  obtain ⟨e7, k6⟩ := k5 n13
  subst t
  refine event_step (v := x31) (w1 := w') rfl ?_ ?_
  ·first | (go_simp; done) | (go_simp; rfl)
  refine hK _ _ ⟨y0, y1, y2, y3, y4, y5, y6, y7, y8, y9, y10, y11, y12, y13, y14, true, y16, x6, x31, x8, x18, x19, x20, x21, x22, x23, x24, x25, x26, x27, x28, x29, x30, x31, p, q, s, x31, rfl, ?_, f0,
   f1,
   f2,
   f3,
   f4,
   f5,
   d6,
   f6,
   f7,
   f8,
   f9,
   f10,
   fun h => ⟨(f11 h).1, (f11 h).2.1, W1, k1, k2, k3, k4, fun _ => ⟨rfl, k6⟩⟩,
   f12,
   f13,
   f14,
   fun _ => ⟨n13, rfl⟩,
   f16,
   sb⟩
  simp only [Act.put, List.setIfInBounds_toArray, List.set_cons_zero, List.set_cons_succ]
 ·-- 16
  have nb : y16 = false := need_not hr
  have n15 : y15 = true := need (j := 15) hr rfl (by decide)
  refine wpOp_step (i := 16) (o := { dst := some 8, op := Op.assign (Operand.const (Value.int IntKind.i64 0)), type := 34, pos := "pullback.go:154", after := #[{ on := 15, ground := Ground.chain }, aP 0, aP 1, aP 2, aP 3, aP 4, aP 5, aP 6, aP 7, aP 8, aP 9, aP 10, aP 11, aP 12, aP 13, aP 14, aP 15], guard := none }) (by rfl) (fun K hK => ?_)
  refine event_step (v := .int .i64 0) (w1 := w') rfl ?_ ?_
  ·first | (go_simp; done) | (go_simp; rfl)
  refine hK _ _ ⟨y0, y1, y2, y3, y4, y5, y6, y7, y8, y9, y10, y11, y12, y13, y14, y15, true, x6, x7, .int .i64 0, x18, x19, x20, x21, x22, x23, x24, x25, x26, x27, x28, x29, x30, x31, p, q, s, t, rfl, ?_, f0,
   f1,
   f2,
   f3,
   f4,
   f5,
   d6,
   f6,
   f7,
   f8,
   f9,
   f10,
   f11,
   f12,
   f13,
   f14,
   f15,
   fun _ => rfl,
   sb⟩
  simp only [Act.put, List.setIfInBounds_toArray, List.set_cons_zero, List.set_cons_succ]
set_option maxHeartbeats 4000000 in
set_option maxRecDepth 100000 in
theorem kernel_a (A0 : Option Addr) (c0 : Nat) (a0 : List Int) (A1 : Option Addr) (c1 : Nat) (a1 : List S94) (A2 : Option Addr) (c2 : Nat) (b0 : List Int) (A3 : Option Addr) (c3 : Nat) (b1 : List S94) (A4 : Option Addr) (c4 : Nat) (n : List Int) (A5 : Option Addr) (c5 : Nat) (m : List Int) (w : World) (R0 : Row (Kd.int .i64) w A0 c0 a0) (R1 : Row k94 w A1 c1 a1) (R2 : Row (Kd.int .i64) w A2 c2 b0) (R3 : Row k94 w A3 c3 b1) (R4 : Row (Kd.int .i64) w A4 c4 n) (R5 : Row (Kd.int .i64) w A5 c5 m) (hv : mvalid a0 a1 b0 b1 n m ≠ 0) :
  Calls Try.prog 33 #[.agg #[.slice A0 a0.length c0, .slice A1 a1.length c1], .agg #[.slice A2 b0.length c2, .slice A3 b1.length c3], .agg #[.slice A4 n.length c4, .slice A5 m.length c5]] w fun e w' => ∃ v0_ v1_ : Value, e = .returned (.tuple #[v0_, v1_, .int .i64 (mvalid a0 a1 b0 b1 n m)]) ∧ Kd.R k79 79 w' w.heap.size (fun k_ => some k_ ≠ (v1_ : Value).ownBlock) v0_ [] ∧ Kd.R k79 79 w' w.heap.size (fun k_ => some k_ ≠ (v0_ : Value).ownBlock) v1_ [] ∧ Below w.heap.size w w' := by
 have hu25 := Try.underlying25
 have hu27 := Try.underlying27
 have hu94 := Try.underlying94
 have HV_ := Aside0.mk hv
 clear hv
 have SB := Since.refl w
 go_enter Try.func33, Try.ntmps33
 go_upto_region 1 with fail
 obtain ⟨BX, BY, BZ, hb⟩ := tri_new w (.slice A0 a0.length c0) (.slice A1 a1.length c1) 25 (.slice A2 b0.length c2) (.slice A3 b1.length c3) 25 (.slice A4 n.length c4) (.slice A5 m.length c5) 27
 replace R0 := R0.below hb
 replace R1 := R1.below hb
 replace R2 := R2.below hb
 replace R3 := R3.below hb
 replace R4 := R4.below hb
 replace R5 := R5.below hb
 replace SB := SB.step hb
 clear hb
 generalize hw : (((w.alloc (.cells #[.slice A0 a0.length c0, .slice A1 a1.length c1] 25)).alloc (.cells #[.slice A2 b0.length c2, .slice A3 b1.length c3] 25)).alloc (.cells #[.slice A4 n.length c4, .slice A5 m.length c5] 27)) = w0 at *
 clear hw
 have BXx0 := BX.c0
 have BXx1 := BX.c1
 have BYx0 := BY.c0
 have BYx1 := BY.c1
 have BZx0 := BZ.c0
 have BZx1 := BZ.c1
 go_wp2_with fail
 refine (morphism_Valid.calls _ _ a0 _ _ a1 _ _ b0 _ _ b1 _ _ n _ _ m (mvalid a0 a1 b0 b1 n m) _ R0.at_ R0.cap R1.at_ R1.cap R2.at_ R2.cap R3.at_ R3.cap R4.at_ R4.cap R5.at_ R5.cap rfl).mono ?_
 rintro e w1 ⟨rfl, hb⟩
 replace hb := bS (w := w0) hb
 replace R0 := R0.below hb
 replace R1 := R1.below hb
 replace R2 := R2.below hb
 replace R3 := R3.below hb
 replace R4 := R4.below hb
 replace R5 := R5.below hb
 replace BX := BX.below hb
 replace BY := BY.below hb
 replace BZ := BZ.below hb
 replace SB := SB.step hb
 clear hb
 have BXx0 := BX.c0
 have BXx1 := BX.c1
 have BYx0 := BY.c0
 have BYx1 := BY.c1
 have BZx0 := BZ.c0
 have BZx1 := BZ.c1
 have hz : (mvalid a0 a1 b0 b1 n m != 0) = true := bne_iff_ne.mpr HV_.out
 go_wp2_with fail
 go_ret3
 exact ⟨_, _, rfl, Kd.R_nil _ _ _ _ _, Kd.R_nil _ _ _ _ _, SB.get⟩
set_option maxHeartbeats 4000000 in
set_option maxRecDepth 100000 in
theorem kernel_b (k : Nat) (A0 : Option Addr) (c0 : Nat) (a0 : List Int) (A1 : Option Addr) (c1 : Nat) (a1 : List S94) (A2 : Option Addr) (c2 : Nat) (b0 : List Int) (A3 : Option Addr) (c3 : Nat) (b1 : List S94) (A4 : Option Addr) (c4 : Nat) (n : List Int) (A5 : Option Addr) (c5 : Nat) (m : List Int) (w : World) (R0 : Row (Kd.int .i64) w A0 c0 a0) (R1 : Row k94 w A1 c1 a1) (R2 : Row (Kd.int .i64) w A2 c2 b0) (R3 : Row k94 w A3 c3 b1) (R4 : Row (Kd.int .i64) w A4 c4 n) (R5 : Row (Kd.int .i64) w A5 c5 m) (hv : mvalid a0 a1 b0 b1 n m = 0) (P Q : List S79) (hP : pullback_pairs.f k n n = some P) (hQ : pullback_pairs.f k m m = some Q) :
  Calls Try.prog 33 #[.agg #[.slice A0 a0.length c0, .slice A1 a1.length c1], .agg #[.slice A2 b0.length c2, .slice A3 b1.length c3], .agg #[.slice A4 n.length c4, .slice A5 m.length c5]] w fun e w' => ∃ v0_ v1_ : Value, e = .returned (.tuple #[v0_, v1_, .int .i64 0]) ∧ Kd.R k79 79 w' w.heap.size (fun k_ => some k_ ≠ (v1_ : Value).ownBlock) v0_ (P.filter (fun x => !decide (x.f0 ≥ x.f1))) ∧ Kd.R k79 79 w' w.heap.size (fun k_ => some k_ ≠ (v0_ : Value).ownBlock) v1_ (Q.filter (fun x => !decide (x.f0 ≥ x.f1))) ∧ Below w.heap.size w w' := by
 have hu25 := Try.underlying25
 have hu27 := Try.underlying27
 have hu94 := Try.underlying94
 have HV_ := Aside0.mk hv
 have HP_ := Aside0.mk hP
 have HQ_ := Aside0.mk hQ
 clear hv hP hQ
 have SB := Since.refl w
 go_enter Try.func33, Try.ntmps33
 go_upto_region 1 with fail
 obtain ⟨BX, BY, BZ, hb⟩ := tri_new w (.slice A0 a0.length c0) (.slice A1 a1.length c1) 25 (.slice A2 b0.length c2) (.slice A3 b1.length c3) 25 (.slice A4 n.length c4) (.slice A5 m.length c5) 27
 replace R0 := R0.below hb
 replace R1 := R1.below hb
 replace R2 := R2.below hb
 replace R3 := R3.below hb
 replace R4 := R4.below hb
 replace R5 := R5.below hb
 replace SB := SB.step hb
 clear hb
 generalize hw : (((w.alloc (.cells #[.slice A0 a0.length c0, .slice A1 a1.length c1] 25)).alloc (.cells #[.slice A2 b0.length c2, .slice A3 b1.length c3] 25)).alloc (.cells #[.slice A4 n.length c4, .slice A5 m.length c5] 27)) = w0 at *
 clear hw
 have BXx0 := BX.c0
 have BXx1 := BX.c1
 have BYx0 := BY.c0
 have BYx1 := BY.c1
 have BZx0 := BZ.c0
 have BZx1 := BZ.c1
 go_wp2_with fail
 refine (morphism_Valid.calls _ _ a0 _ _ a1 _ _ b0 _ _ b1 _ _ n _ _ m 0 _ R0.at_ R0.cap R1.at_ R1.cap R2.at_ R2.cap R3.at_ R3.cap R4.at_ R4.cap R5.at_ R5.cap (by unfold morphism_Valid.f; rw [HV_.out])).mono ?_
 rintro e w1 ⟨rfl, hb⟩
 replace hb := bS (w := w0) hb
 replace R0 := R0.below hb
 replace R1 := R1.below hb
 replace R2 := R2.below hb
 replace R3 := R3.below hb
 replace R4 := R4.below hb
 replace R5 := R5.below hb
 replace BX := BX.below hb
 replace BY := BY.below hb
 replace BZ := BZ.below hb
 replace SB := SB.step hb
 clear hb
 have BXx0 := BX.c0
 have BXx1 := BX.c1
 have BYx0 := BY.c0
 have BYx1 := BY.c1
 have BZx0 := BZ.c0
 have BZx1 := BZ.c1
 go_upto_region 5 with fail
 refine drawn_ (J33 w1 w.heap.size (w.heap.size + 1) (w.heap.size + 2) A0 c0 a0 A1 c1 a1 A2 c2 b0 A3 c3 b1 A4 c4 n A5 c5 m P Q) T33 tab33 (by kernel_rfl) ?_ (J33_step k w1 w.heap.size (w.heap.size + 1) (w.heap.size + 2) A0 c0 a0 A1 c1 a1 A2 c2 b0 A3 c3 b1 A4 c4 n A5 c5 m P Q BZ R4 R5 HP_.out HQ_.out) ?_
 ·exact ⟨false, false, false, false, false, false, false, false, false, false, false, false, false, false, false, false, false, .slice none 0 0, .slice none 0 0, .int .i64 0, undef, undef, undef, undef, undef, undef, undef, undef, undef, undef, undef, undef, undef, undef, undef, undef, undef, undef, rfl, rfl, fun h => absurd h (by decide), fun h => absurd h (by decide), fun h => absurd h (by decide), fun h => absurd h (by decide), fun h => absurd h (by decide), fun h => absurd h (by decide), fun h => absurd h (by decide), fun h => absurd h (by decide), fun h => absurd h (by decide), fun h => absurd h (by decide), fun h => absurd h (by decide), fun h => absurd h (by decide), fun h => absurd h (by decide), fun h => absurd h (by decide), fun h => absurd h (by decide), fun h => absurd h (by decide), fun h => absurd h (by decide), fun h => absurd h (by decide), ⟨below_drew1 (Below.refl _ _)⟩⟩
 rintro l a wd ⟨y0, y1, y2, y3, y4, y5, y6, y7, y8, y9, y10, y11, y12, y13, y14, y15, y16, x6, x7, x8, x18, x19, x20, x21, x22, x23, x24, x25, x26, x27, x28, x29, x30, x31, p, q, s, t, rfl, rfl, f0, f1, f2, f3, f4, f5, d6, f6, f7, f8, f9, f10, f11, f12, f13, f14, f15, f16, sb⟩ _ hr
 obtain rfl : y0 = true := all_done hr 0 rfl rfl
 obtain rfl : y1 = true := all_done hr 1 rfl rfl
 obtain rfl : y2 = true := all_done hr 2 rfl rfl
 obtain rfl : y3 = true := all_done hr 3 rfl rfl
 obtain rfl : y4 = true := all_done hr 4 rfl rfl
 obtain rfl : y5 = true := all_done hr 5 rfl rfl
 obtain rfl : y6 = true := all_done hr 6 rfl rfl
 obtain rfl : y7 = true := all_done hr 7 rfl rfl
 obtain rfl : y8 = true := all_done hr 8 rfl rfl
 obtain rfl : y9 = true := all_done hr 9 rfl rfl
 obtain rfl : y10 = true := all_done hr 10 rfl rfl
 obtain rfl : y11 = true := all_done hr 11 rfl rfl
 obtain rfl : y12 = true := all_done hr 12 rfl rfl
 obtain rfl : y13 = true := all_done hr 13 rfl rfl
 obtain rfl : y14 = true := all_done hr 14 rfl rfl
 obtain rfl : y15 = true := all_done hr 15 rfl rfl
 obtain rfl : y16 = true := all_done hr 16 rfl rfl
 obtain ⟨-, rfl⟩ := f14 rfl
 obtain ⟨-, rfl⟩ := f15 rfl
 obtain rfl := f16 rfl
 obtain ⟨-, -, W1, k1, k2, k3, -, k5⟩ := f11 rfl
 obtain ⟨-, k6⟩ := k5 rfl
 obtain ⟨z0, z1⟩ := two_R k3 k2 k6 k1.get.size
 clear hr f0 f1 f2 f3 f4 f5 d6 f6 f7 f8 f9 f10 f11 f12 f13 f14 f15 f16 k1 k2 k3 k5 k6
 have hb := sb.get
 have SB0 := SB
 replace SB := SB.step hb
 have hs := sb.get.size
 go_wp2_with fail
 go_ret3
 exact ⟨_, _, rfl, Kd.R_lower z0 SB0.get.size, Kd.R_lower z1 SB0.get.size, SB.get⟩
def pullback_Kernel.f (k : Nat) (l0_0 : List Int) (l0_1 : List (S94)) (l1_0 : List Int) (l1_1 : List (S94)) (l2_0 : List Int) (l2_1 : List Int) : Option ((List (S79)) × (List (S79)) × Int) := if mvalid l0_0 l0_1 l1_0 l1_1 l2_0 l2_1 = 0 then ((pullback_pairs.f k l2_0 l2_0).bind fun P => (pullback_pairs.f k l2_1 l2_1).bind fun Q => some ((P.filter (fun x => !decide (x.f0 ≥ x.f1))), (Q.filter (fun x => !decide (x.f0 ≥ x.f1))), 0)) else some ([], [], mvalid l0_0 l0_1 l1_0 l1_1 l2_0 l2_1)
theorem pullback_Kernel.mono : ∀ a0 a1 a2 a3 a4 a5 k, LeO (pullback_Kernel.f k a0 a1 a2 a3 a4 a5) (pullback_Kernel.f (k + 1) a0 a1 a2 a3 a4 a5) := by
 intro a0 a1 a2 a3 a4 a5 k
 unfold pullback_Kernel.f
 refine LeO.ite ?_ (LeO.refl _)
 refine LeO.bind (pullback_pairs.mono _ _ _) (fun _ => ?_)
 exact LeO.bind (pullback_pairs.mono _ _ _) (fun _ => LeO.refl _)
theorem pullback_Kernel.calls (k : Nat) (A0_0 : Option Addr) (c0_0 : Nat) (l0_0 : List Int) (A0_1 : Option Addr) (c0_1 : Nat) (l0_1 : List (S94)) (A1_0 : Option Addr) (c1_0 : Nat) (l1_0 : List Int) (A1_1 : Option Addr) (c1_1 : Nat) (l1_1 : List (S94)) (A2_0 : Option Addr) (c2_0 : Nat) (l2_0 : List Int) (A2_1 : Option Addr) (c2_1 : Nat) (l2_1 : List Int) (r1 r2 : List S79) (r3 : Int) (w : World) (hr0_0 : Kd.C (Kd.int .i64) w A0_0 l0_0.length l0_0) (hc0_0 : l0_0.length ≤ c0_0) (hr0_1 : Kd.C k94 w A0_1 l0_1.length l0_1) (hc0_1 : l0_1.length ≤ c0_1) (hr1_0 : Kd.C (Kd.int .i64) w A1_0 l1_0.length l1_0) (hc1_0 : l1_0.length ≤ c1_0) (hr1_1 : Kd.C k94 w A1_1 l1_1.length l1_1) (hc1_1 : l1_1.length ≤ c1_1) (hr2_0 : Kd.C (Kd.int .i64) w A2_0 l2_0.length l2_0) (hc2_0 : l2_0.length ≤ c2_0) (hr2_1 : Kd.C (Kd.int .i64) w A2_1 l2_1.length l2_1) (hc2_1 : l2_1.length ≤ c2_1) (h : pullback_Kernel.f k l0_0 l0_1 l1_0 l1_1 l2_0 l2_1 = some (r1, r2, r3)) :
  Calls Try.prog 33 #[.agg #[.slice A0_0 l0_0.length c0_0, .slice A0_1 l0_1.length c0_1], .agg #[.slice A1_0 l1_0.length c1_0, .slice A1_1 l1_1.length c1_1], .agg #[.slice A2_0 l2_0.length c2_0, .slice A2_1 l2_1.length c2_1]] w fun e w' => ∃ v0_ v1_ : Value, e = .returned (.tuple #[v0_, v1_, .int .i64 r3]) ∧ Kd.R k79 79 w' w.heap.size (fun k_ => some k_ ≠ (v1_ : Value).ownBlock) v0_ r1 ∧ Kd.R k79 79 w' w.heap.size (fun k_ => some k_ ≠ (v0_ : Value).ownBlock) v1_ r2 ∧ Below w.heap.size w w' := by
 unfold pullback_Kernel.f at h
 split at h
 ·rename_i hv
  cases hP : pullback_pairs.f k l2_0 l2_0 with
  | none => rw [hP] at h; cases h
  | some P =>
   cases hQ : pullback_pairs.f k l2_1 l2_1 with
   | none => rw [hP, hQ] at h; cases h
   | some Q =>
    rw [hP, hQ] at h
    cases h
    exact kernel_b k A0_0 c0_0 l0_0 A0_1 c0_1 l0_1 A1_0 c1_0 l1_0 A1_1 c1_1 l1_1 A2_0 c2_0 l2_0 A2_1 c2_1 l2_1 w ⟨hc0_0, hr0_0⟩ ⟨hc0_1, hr0_1⟩ ⟨hc1_0, hr1_0⟩ ⟨hc1_1, hr1_1⟩ ⟨hc2_0, hr2_0⟩ ⟨hc2_1, hr2_1⟩ hv P Q hP hQ
 ·rename_i hv
  cases h
  exact kernel_a A0_0 c0_0 l0_0 A0_1 c0_1 l0_1 A1_0 c1_0 l1_0 A1_1 c1_1 l1_1 A2_0 c2_0 l2_0 A2_1 c2_1 l2_1 w ⟨hc0_0, hr0_0⟩ ⟨hc0_1, hr0_1⟩ ⟨hc1_0, hr1_0⟩ ⟨hc1_1, hr1_1⟩ ⟨hc2_0, hr2_0⟩ ⟨hc2_1, hr2_1⟩ hv
end Go.Proofs.Ytillofiphkmjjaa.X

namespace Go.Proofs.Ytillofiphkmjjaa.X
open Go.RowKit Go.Proofs.YtillofiphkmjjaaW.PrintWords Go.Proofs.YtillofiphkmjjaaW.PrintLast Go.Proofs.YtillofiphkmjjaaW.PrintMore
open Go.Proofs.YtillofiphkmjjaaW.PrintWords renaming blk_drewN → bN, blk_drew → bD, blk_alloc → bA, below_alloc → wA, pw_below_drewN → wN, below_drew1 → wD, blk_below → bB, below_step → wS, blk_at → bT, blk_grown → bG
open Go.Proofs.YtillofiphkmjjaaW.PrintWords.Kd renaming R_alloc → rA, R_drewN → rN, R_drew → rD, R_below → rB, R_grown → rG, C_below → cB, C_alloc → cA, C_drewN → cN, C_drew → cD
attribute [local go_sem] max2_int min2_int max_two min_two max_three min_three max_four min_four
set_option linter.unusedVariables false
set_option linter.unusedSimpArgs false
attribute [local go_sem high] eqA79
/-! ### scarfjointref11_SamePairs: function 35 -/
def scarfjointref11_SamePairs.l0 : Nat → List (S79) → List (S79) → Int → Option (Bool)
 | 0, _, _, _ => none
 | k + 1, x0, x1, x5 => if x5 < (x0.length : Int) then (if 0 ≤ x5 then (if x5 < (x1.length : Int) then (if (!(((rd_T79 x0 x5).f0) == ((rd_T79 x1 x5).f0)) || (!(((rd_T79 x0 x5).f1) == ((rd_T79 x1 x5).f1)))) = true then (some false) else (scarfjointref11_SamePairs.l0 k x0 x1 (wrap64 (x5 + 1)))) else (none)) else (none)) else (some true)
def scarfjointref11_SamePairs.f (k : Nat) (l0 : List (S79)) (l1 : List (S79)) : Option (Bool) := if (l0.length : Int) = (l1.length : Int) then (scarfjointref11_SamePairs.l0 k l0 l1 0) else (some false)
theorem scarfjointref11_SamePairs.mono_l : ∀ k, (∀ y0 y1 y2, LeO (scarfjointref11_SamePairs.l0 k y0 y1 y2) (scarfjointref11_SamePairs.l0 (k + 1) y0 y1 y2))
 | 0 => fun _ _ _ r h => by simp [scarfjointref11_SamePairs.l0] at h
 | k + 1 => by
  have ih0 := scarfjointref11_SamePairs.mono_l k
  ·intro y0 y1 y2
   unfold scarfjointref11_SamePairs.l0
   repeat' first
   | (with_reducible exact ih0 _ _ _)
   | (with_reducible exact LeO.refl _)
   | (with_reducible exact LeO.none _)
   | (with_reducible refine LeO.ite ?_ ?_)
   | (with_reducible refine LeO.bind ?_ (fun _ => ?_))
   | exact ih0 _ _ _
   | exact LeO.none _
   | refine LeO.ite ?_ ?_
   | refine LeO.bind ?_ (fun _ => ?_)
theorem scarfjointref11_SamePairs.mono : ∀ a0 a1 k, LeO (scarfjointref11_SamePairs.f k a0 a1) (scarfjointref11_SamePairs.f (k + 1) a0 a1) := by
 intro a0 a1 k
 have ih0 := scarfjointref11_SamePairs.mono_l k
 unfold scarfjointref11_SamePairs.f
 repeat' first
   | (with_reducible exact ih0 _ _ _)
   | (with_reducible exact LeO.refl _)
   | (with_reducible exact LeO.none _)
   | (with_reducible refine LeO.ite ?_ ?_)
   | (with_reducible refine LeO.bind ?_ (fun _ => ?_))
   | exact ih0 _ _ _
   | exact LeO.none _
   | refine LeO.ite ?_ ?_
   | refine LeO.bind ?_ (fun _ => ?_)
set_option maxHeartbeats 8000000 in
set_option maxRecDepth 100000 in
theorem scarfjointref11_SamePairs.calls (k : Nat) (A0 : Option Addr) (c0 : Nat) (l0 : List (S79)) (A1 : Option Addr) (c1 : Nat) (l1 : List (S79)) (r : Bool) (w : World) (hr0 : Kd.C k79 w A0 l0.length l0) (hc0 : l0.length ≤ c0) (hr1 : Kd.C k79 w A1 l1.length l1) (hc1 : l1.length ≤ c1) (h : scarfjointref11_SamePairs.f k l0 l1 = some r) :
  Calls Try.prog 35 #[.slice A0 l0.length c0, .slice A1 l1.length c1] w fun e w' => e = .returned (.bool r) ∧ Drawn0 w w' := by
 have hu79 := Try.underlying79
 have HR0 := Aside0.mk hr0
 have HC0 := Aside0.mk hc0
 clear hr0 hc0
 have HR1 := Aside0.mk hr1
 have HC1 := Aside0.mk hc1
 clear hr1 hc1
 have H : (if (l0.length : Int) = (l1.length : Int) then (scarfjointref11_SamePairs.l0 k l0 l1 0) else (some false)) = some r := h
 clear h
 by_cases c3 : (l0.length : Int) = (l1.length : Int)
 ·rw [if_pos c3] at H
  have c3b0 : ((l0.length : Int) == (l1.length : Int)) = true := beq_iff_eq.mpr c3
  have c3b1 : ((l0.length : Int) != (l1.length : Int)) = false := bne_eq_false_iff_eq.mpr c3
  have c3b2 : (l0.length == l1.length) = true := by first | simpa using c3 | (simp at c3 ⊢; omega)
  clear c3
  have H' := Aside0.mk H
  clear H
  go_enter Try.func35, Try.ntmps35
  go_wp2
  repeat (go_quiet (fail); try go_wp2)
  go_loopg [5] k (fun kq v5 w' => ∃ (x5_1 : Int), v5 = .int .i64 x5_1 ∧ Aside0 (scarfjointref11_SamePairs.l0 kq l0 l1 x5_1 = some r) ∧ Aside0 (kq ≤ k) ∧ Drawn0 w w')
  case atStart => exact ⟨(0), rS, H', ⟨Nat.le_refl _⟩, by repeat (first | exact Drawn0.refl _ | apply Drawn0.step)⟩
  case round =>
   clear H'
   try clear c1; try clear p2; try clear c3; try clear c3b0; try clear c3b1; try clear c3b2
   obtain ⟨x5_1, rfl, HA, HK1, ⟨m1, rfl⟩⟩ := hrel
   cases gk with
   | zero => exact absurd HA.out (by simp [scarfjointref11_SamePairs.l0])
   | succ k1 =>
    have H := HA.out
    clear HA
    simp only [scarfjointref11_SamePairs.l0] at H
    by_cases c4 : x5_1 < (l0.length : Int)
    ·rw [if_pos c4] at H
     have c4b0 : decide (x5_1 < (l0.length : Int)) = true := decide_eq_true c4
     clear c4
     by_cases c5 : 0 ≤ x5_1
     ·rw [if_pos c5] at H
      have c5b0 : decide (0 ≤ x5_1) = true := decide_eq_true c5
      clear c5
      by_cases c6 : x5_1 < (l1.length : Int)
      ·rw [if_pos c6] at H
       have c6b0 : decide (x5_1 < (l1.length : Int)) = true := decide_eq_true c6
       clear c6
       by_cases c7 : (!(((rd_T79 l0 x5_1).f0) == ((rd_T79 l1 x5_1).f0)) || (!(((rd_T79 l0 x5_1).f1) == ((rd_T79 l1 x5_1).f1)))) = true
       ·rw [if_pos c7] at H
        have c7b0 : (!(((rd_T79 l0 x5_1).f0) == ((rd_T79 l1 x5_1).f0)) || (!(((rd_T79 l0 x5_1).f1) == ((rd_T79 l1 x5_1).f1)))) = true := c7
        clear c7
        obtain rfl := Option.some.inj H
        have p101 : 0 ≤ (x5_1 : Int) := oT
        have q101 : x5_1 < (l0.length : Int) := oT
        obtain ⟨ad101, e101, hx101_0, hx101_1⟩ := at_T79 HR0.out x5_1 p101 q101
        cases e101
        replace p101 := eq_true p101
        replace q101 := eq_true q101
        have p102 : 0 ≤ (x5_1 : Int) := oT
        have q102 : x5_1 < (l1.length : Int) := oT
        obtain ⟨ad102, e102, hx102_0, hx102_1⟩ := at_T79 HR1.out x5_1 p102 q102
        cases e102
        replace p102 := eq_true p102
        replace q102 := eq_true q102
        go_wp2
        repeat (go_quiet (fail); try go_wp2)
        go_ret
        exact ⟨by first | rfl | (simp; done) | (simp [*]; done), by repeat (first | exact Drawn0.refl _ | apply Drawn0.step)⟩
       ·rw [if_neg c7] at H
        have c7b0 : (!(((rd_T79 l0 x5_1).f0) == ((rd_T79 l1 x5_1).f0)) || (!(((rd_T79 l0 x5_1).f1) == ((rd_T79 l1 x5_1).f1)))) = false := by simpa using c7
        clear c7
        have H' := Aside0.mk H
        clear H
        have p101 : 0 ≤ (x5_1 : Int) := oT
        have q101 : x5_1 < (l0.length : Int) := oT
        obtain ⟨ad101, e101, hx101_0, hx101_1⟩ := at_T79 HR0.out x5_1 p101 q101
        cases e101
        replace p101 := eq_true p101
        replace q101 := eq_true q101
        have p102 : 0 ≤ (x5_1 : Int) := oT
        have q102 : x5_1 < (l1.length : Int) := oT
        obtain ⟨ad102, e102, hx102_0, hx102_1⟩ := at_T79 HR1.out x5_1 p102 q102
        cases e102
        replace p102 := eq_true p102
        replace q102 := eq_true q102
        go_wp2
        repeat (go_quiet (fail); try go_wp2)
        go_roundg k1
        case measure => have := HK1.out; omega
        case rel => exact ⟨(wrap64 (x5_1 + 1)), rS, H', ⟨by have := HK1.out; omega⟩, by repeat (first | exact Drawn0.refl _ | apply Drawn0.step)⟩
      ·rw [if_neg c6] at H
       exact absurd H (by simp)
     ·rw [if_neg c5] at H
      exact absurd H (by simp)
    ·rw [if_neg c4] at H
     have c4b0 : decide (x5_1 < (l0.length : Int)) = false := decide_eq_false c4
     clear c4
     obtain rfl := Option.some.inj H
     go_wp2
     repeat (go_quiet (fail); try go_wp2)
     go_ret
     exact ⟨by first | rfl | (simp; done) | (simp [*]; done), by repeat (first | exact Drawn0.refl _ | apply Drawn0.step)⟩
 ·rw [if_neg c3] at H
  have c3b0 : ((l0.length : Int) == (l1.length : Int)) = false := beq_eq_false_iff_ne.mpr c3
  have c3b1 : ((l0.length : Int) != (l1.length : Int)) = true := bne_iff_ne.mpr c3
  have c3b2 : (l0.length == l1.length) = false := by first | simpa using c3 | (simp at c3 ⊢; omega)
  obtain rfl := Option.some.inj H
  go_enter Try.func35, Try.ntmps35
  go_wp2
  repeat (go_quiet (fail); try go_wp2)
  go_ret
  exact ⟨by first | rfl | (simp; done) | (simp [*]; done), by repeat (first | exact Drawn0.refl _ | apply Drawn0.step)⟩
end Go.Proofs.Ytillofiphkmjjaa.X

/- The chapter's example (39), walked by hand. -/
namespace Go.Proofs.Ytillofiphkmjjaa.X
open Go.RowKit Go.Proofs.YtillofiphkmjjaaW.PrintWords Go.Proofs.YtillofiphkmjjaaW.PrintLast Go.Proofs.YtillofiphkmjjaaW.PrintMore
set_option linter.unusedVariables false
set_option linter.unusedSimpArgs false
theorem Blk.put {W : World} {g t : Nat} {cs cs' : Array Value} (h : Blk W g t cs) (i : Nat) (v : Value) (e : cs.setIfInBounds i v = cs') : Blk (W.setCell ⟨g, i, none⟩ v) g t cs' := ⟨blk_put h.get i v e⟩
theorem Blk.far10 {W : World} {g t g' : Nat} {cs : Array Value} (h : Blk W g t cs) (hp : g ≠ g') (v0 v1 v2 v3 v4 v5 v6 v7 v8 v9 : Value) : Blk ((((((((((W.setCell ⟨g', 0, none⟩ v0).setCell ⟨g', 1, none⟩ v1).setCell ⟨g', 2, none⟩ v2).setCell ⟨g', 3, none⟩ v3).setCell ⟨g', 4, none⟩ v4).setCell ⟨g', 5, none⟩ v5).setCell ⟨g', 6, none⟩ v6).setCell ⟨g', 7, none⟩ v7).setCell ⟨g', 8, none⟩ v8).setCell ⟨g', 9, none⟩ v9) g t cs := (Blk.far (p := ⟨g', 9, none⟩) (Blk.far (p := ⟨g', 8, none⟩) (Blk.far (p := ⟨g', 7, none⟩) (Blk.far (p := ⟨g', 6, none⟩) (Blk.far (p := ⟨g', 5, none⟩) (Blk.far (p := ⟨g', 4, none⟩) (Blk.far (p := ⟨g', 3, none⟩) (Blk.far (p := ⟨g', 2, none⟩) (Blk.far (p := ⟨g', 1, none⟩) (Blk.far (p := ⟨g', 0, none⟩) h hp v0) hp v1) hp v2) hp v3) hp v4) hp v5) hp v6) hp v7) hp v8) hp v9)
theorem Blk.fill10 {W : World} {g t : Nat} {u0 u1 u2 u3 u4 u5 u6 u7 u8 u9 : Value} (h : Blk W g t #[u0, u1, u2, u3, u4, u5, u6, u7, u8, u9]) (v0 v1 v2 v3 v4 v5 v6 v7 v8 v9 : Value) : Blk ((((((((((W.setCell ⟨g, 0, none⟩ v0).setCell ⟨g, 1, none⟩ v1).setCell ⟨g, 2, none⟩ v2).setCell ⟨g, 3, none⟩ v3).setCell ⟨g, 4, none⟩ v4).setCell ⟨g, 5, none⟩ v5).setCell ⟨g, 6, none⟩ v6).setCell ⟨g, 7, none⟩ v7).setCell ⟨g, 8, none⟩ v8).setCell ⟨g, 9, none⟩ v9) g t #[v0, v1, v2, v3, v4, v5, v6, v7, v8, v9] := (Blk.put (cs' := #[v0, v1, v2, v3, v4, v5, v6, v7, v8, v9]) (Blk.put (cs' := #[v0, v1, v2, v3, v4, v5, v6, v7, v8, u9]) (Blk.put (cs' := #[v0, v1, v2, v3, v4, v5, v6, v7, u8, u9]) (Blk.put (cs' := #[v0, v1, v2, v3, v4, v5, v6, u7, u8, u9]) (Blk.put (cs' := #[v0, v1, v2, v3, v4, v5, u6, u7, u8, u9]) (Blk.put (cs' := #[v0, v1, v2, v3, v4, u5, u6, u7, u8, u9]) (Blk.put (cs' := #[v0, v1, v2, v3, u4, u5, u6, u7, u8, u9]) (Blk.put (cs' := #[v0, v1, v2, u3, u4, u5, u6, u7, u8, u9]) (Blk.put (cs' := #[v0, v1, u2, u3, u4, u5, u6, u7, u8, u9]) (Blk.put (cs' := #[v0, u1, u2, u3, u4, u5, u6, u7, u8, u9]) h 0 v0 rfl) 1 v1 rfl) 2 v2 rfl) 3 v3 rfl) 4 v4 rfl) 5 v5 rfl) 6 v6 rfl) 7 v7 rfl) 8 v8 rfl) 9 v9 rfl)
theorem Since.put10 {W0 W : World} {g : Nat} (h : Since W0 W) (hg : W0.heap.size ≤ g) (v0 v1 v2 v3 v4 v5 v6 v7 v8 v9 : Value) : Since W0 ((((((((((W.setCell ⟨g, 0, none⟩ v0).setCell ⟨g, 1, none⟩ v1).setCell ⟨g, 2, none⟩ v2).setCell ⟨g, 3, none⟩ v3).setCell ⟨g, 4, none⟩ v4).setCell ⟨g, 5, none⟩ v5).setCell ⟨g, 6, none⟩ v6).setCell ⟨g, 7, none⟩ v7).setCell ⟨g, 8, none⟩ v8).setCell ⟨g, 9, none⟩ v9) := (Since.put (j := 9) (Since.put (j := 8) (Since.put (j := 7) (Since.put (j := 6) (Since.put (j := 5) (Since.put (j := 4) (Since.put (j := 3) (Since.put (j := 2) (Since.put (j := 1) (Since.put (j := 0) h hg v0) hg v1) hg v2) hg v3) hg v4) hg v5) hg v6) hg v7) hg v8) hg v9)
set_option maxHeartbeats 4000000 in
set_option maxRecDepth 100000 in
theorem example_calls (w : World) : Calls Try.prog 39 #[] w fun e w' => ∃ A0 A4 A6 : Addr, e = .returned (.agg #[.slice (some A0) 2 2, .slice none 0 0, .slice (some A0) 2 2, .slice none 0 0, .slice (some A4) 1 1, .slice none 0 0, .slice (some A6) 2 2, .slice none 0 0, .slice (some A6) 2 2, .slice none 0 0]) ∧
  Row (Kd.int .i64) w' (some A0) 2 [0, 0] ∧ Row (Kd.int .i64) w' (some A4) 1 [0] ∧ Row (Kd.int .i64) w' (some A6) 2 [0, 0] ∧ Below w.heap.size w w' := by
 have hu25 := Try.underlying25
 have hu27 := Try.underlying27
 have hu29 := Try.underlying29
 have SB := Since.refl w
 have RS := cE SB
 clear SB 
 go_enter Try.func39, Try.ntmps39
 go_upto_region 3 with fail
 obtain ⟨v1, hv, D0, S1, S2, X1, X2, hb⟩ := nw5 w 29 #[.slice none 0 0, .slice none 0 0, .slice none 0 0, .slice none 0 0, .slice none 0 0, .slice none 0 0, .slice none 0 0, .slice none 0 0, .slice none 0 0, .slice none 0 0] 3 #[.int .i64 0, .int .i64 0] 3 #[.int .i64 0] 25 #[.slice (some ⟨w.heap.size + 1, 0, none⟩) 2 2, .slice none 0 0] 25 #[.slice (some ⟨w.heap.size + 1 + 1, 0, none⟩) 1 1, .slice none 0 0]
 have hz : v1.heap.size = w.heap.size + 1 + 1 + 1 + 1 + 1 := by rw [hv]; simp
 rw [← hv]
 clear hv
 replace RS := mo hb RS
 clear hb
 obtain ⟨v2, hv, S3, X3, hb⟩ := nw2 v1 3 #[.int .i64 0, .int .i64 0] 27 #[.slice (some ⟨w.heap.size + 1 + 1 + 1 + 1 + 1, 0, none⟩) 2 2, .slice none 0 0]
 rw [← hv]
 clear hv
 rw [hz] at S3 X3
 replace RS := mo hb RS
 replace D0 := D0.below hb
 replace S1 := S1.below hb
 replace S2 := S2.below hb
 replace X1 := X1.below hb
 replace X2 := X2.below hb
 clear hb hz
 obtain ⟨_, _⟩ := X1.q2
 obtain ⟨_, _⟩ := X2.q2
 obtain ⟨_, _⟩ := X3.q2
 obtain ⟨_, _, _, _, _, _, _, _, _, _⟩ := D0.q10
 have hf := fun i => blk_frozen D0.get i
 rcases RS with ⟨SB⟩
 go_wp2_with fail
 replace S1 := S1.far10 (g' := w.heap.size) (by omega) (.slice (some ⟨w.heap.size + 1, 0, none⟩) 2 2) (.slice none 0 0) (.slice (some ⟨w.heap.size + 1, 0, none⟩) 2 2) (.slice none 0 0) (.slice (some ⟨w.heap.size + 1 + 1, 0, none⟩) 1 1) (.slice none 0 0) (.slice (some ⟨w.heap.size + 1 + 1 + 1 + 1 + 1, 0, none⟩) 2 2) (.slice none 0 0) (.slice (some ⟨w.heap.size + 1 + 1 + 1 + 1 + 1, 0, none⟩) 2 2) (.slice none 0 0)
 replace S2 := S2.far10 (g' := w.heap.size) (by omega) (.slice (some ⟨w.heap.size + 1, 0, none⟩) 2 2) (.slice none 0 0) (.slice (some ⟨w.heap.size + 1, 0, none⟩) 2 2) (.slice none 0 0) (.slice (some ⟨w.heap.size + 1 + 1, 0, none⟩) 1 1) (.slice none 0 0) (.slice (some ⟨w.heap.size + 1 + 1 + 1 + 1 + 1, 0, none⟩) 2 2) (.slice none 0 0) (.slice (some ⟨w.heap.size + 1 + 1 + 1 + 1 + 1, 0, none⟩) 2 2) (.slice none 0 0)
 replace S3 := S3.far10 (g' := w.heap.size) (by omega) (.slice (some ⟨w.heap.size + 1, 0, none⟩) 2 2) (.slice none 0 0) (.slice (some ⟨w.heap.size + 1, 0, none⟩) 2 2) (.slice none 0 0) (.slice (some ⟨w.heap.size + 1 + 1, 0, none⟩) 1 1) (.slice none 0 0) (.slice (some ⟨w.heap.size + 1 + 1 + 1 + 1 + 1, 0, none⟩) 2 2) (.slice none 0 0) (.slice (some ⟨w.heap.size + 1 + 1 + 1 + 1 + 1, 0, none⟩) 2 2) (.slice none 0 0)
 replace D0 := D0.fill10 (.slice (some ⟨w.heap.size + 1, 0, none⟩) 2 2) (.slice none 0 0) (.slice (some ⟨w.heap.size + 1, 0, none⟩) 2 2) (.slice none 0 0) (.slice (some ⟨w.heap.size + 1 + 1, 0, none⟩) 1 1) (.slice none 0 0) (.slice (some ⟨w.heap.size + 1 + 1 + 1 + 1 + 1, 0, none⟩) 2 2) (.slice none 0 0) (.slice (some ⟨w.heap.size + 1 + 1 + 1 + 1 + 1, 0, none⟩) 2 2) (.slice none 0 0)
 replace SB : Since w _ := SB.put10 (Nat.le_refl _) (.slice (some ⟨w.heap.size + 1, 0, none⟩) 2 2) (.slice none 0 0) (.slice (some ⟨w.heap.size + 1, 0, none⟩) 2 2) (.slice none 0 0) (.slice (some ⟨w.heap.size + 1 + 1, 0, none⟩) 1 1) (.slice none 0 0) (.slice (some ⟨w.heap.size + 1 + 1 + 1 + 1 + 1, 0, none⟩) 2 2) (.slice none 0 0) (.slice (some ⟨w.heap.size + 1 + 1 + 1 + 1 + 1, 0, none⟩) 2 2) (.slice none 0 0)
 generalize hw : World.setCell (World.setCell (World.setCell (World.setCell (World.setCell (World.setCell (World.setCell (World.setCell (World.setCell (World.setCell _ _ _) _ _) _ _) _ _) _ _) _ _) _ _) _ _) _ _) _ _ = w8 at *
 clear hw
 refine bodyPost_ret (results_single rfl (.cell w.heap.size 29 _ (0, 0) _ rfl D0.get Try.underlying29 rfl (by kernel_rfl) .nil)) rfl ?_
 exact ⟨_, _, _, rfl, S1.row (l := [0, 0]) (by decide), S2.row (l := [0]) (by decide), S3.row (l := [0, 0]) (by decide), SB.get⟩
theorem example_rows (e0 : List Int) (e1 : List S94) (e2 : List Int) (e3 : List S94) (e4 : List Int) (e5 : List S94) (e6 e7 e8 e9 : List Int) (w : World) (h : (e0, e1, e2, e3, e4, e5, e6, e7, e8, e9) = ([0, 0], [], [0, 0], [], [0], [], [0, 0], [], [0, 0], [])) :
  Calls Try.prog 39 #[] w fun e w' => ∃ y0 y1 y2 y3 y4 y5 y6 y7 y8 y9 : Value, e = .returned (.agg #[y0, y1, y2, y3, y4, y5, y6, y7, y8, y9]) ∧ Vr (Kd.int .i64) w' y0 e0 ∧ Vr k94 w' y1 e1 ∧ Vr (Kd.int .i64) w' y2 e2 ∧ Vr k94 w' y3 e3 ∧ Vr (Kd.int .i64) w' y4 e4 ∧ Vr k94 w' y5 e5 ∧ Vr (Kd.int .i64) w' y6 e6 ∧ Vr (Kd.int .i64) w' y7 e7 ∧ Vr (Kd.int .i64) w' y8 e8 ∧ Vr (Kd.int .i64) w' y9 e9 ∧ Below w.heap.size w w' := by
 cases h
 refine (example_calls w).mono ?_
 rintro e w' ⟨A0, A4, A6, rfl, R0, R4, R6, hb⟩
 exact ⟨_, _, _, _, _, _, _, _, _, _, rfl, ⟨_, _, rfl, R0⟩, ⟨_, _, rfl, Row.nil _ _⟩, ⟨_, _, rfl, R0⟩, ⟨_, _, rfl, Row.nil _ _⟩, ⟨_, _, rfl, R4⟩, ⟨_, _, rfl, Row.nil _ _⟩, ⟨_, _, rfl, R6⟩, ⟨_, _, rfl, Row.nil _ _⟩, ⟨_, _, rfl, R6⟩, ⟨_, _, rfl, Row.nil _ _⟩, hb⟩
end Go.Proofs.Ytillofiphkmjjaa.X

namespace Go.Proofs.Ytillofiphkmjjaa.X
open Go.RowKit Go.Proofs.YtillofiphkmjjaaW.PrintWords Go.Proofs.YtillofiphkmjjaaW.PrintLast Go.Proofs.YtillofiphkmjjaaW.PrintMore
open Go.Proofs.YtillofiphkmjjaaW.PrintWords renaming blk_drewN → bN, blk_drew → bD, blk_alloc → bA, below_alloc → wA, pw_below_drewN → wN, below_drew1 → wD, blk_below → bB, below_step → wS, blk_at → bT, blk_grown → bG
open Go.Proofs.YtillofiphkmjjaaW.PrintWords.Kd renaming R_alloc → rA, R_drewN → rN, R_drew → rD, R_below → rB, R_grown → rG, C_below → cB, C_alloc → cA, C_drewN → cN, C_drew → cD
attribute [local go_sem] max2_int min2_int max_two min_two max_three min_three max_four min_four
set_option linter.unusedVariables false
set_option linter.unusedSimpArgs false
/-! ### slices_Equal_int_int: function 40 -/
def slices_Equal_int_int.l0 : Nat → List Int → List Int → Int → Int → Option (Bool)
 | 0, _, _, _, _ => none
 | k + 1, x0, x1, x12, x13 => if x13 < x12 then (if 0 ≤ x13 then (if x13 < (x0.length : Int) then (if x13 < (x1.length : Int) then (if (rd x0 x13) = (rd x1 x13) then (slices_Equal_int_int.l0 k x0 x1 x12 (wrap64 (x13 + 1))) else (some false)) else (none)) else (none)) else (none)) else (some true)
def slices_Equal_int_int.f (k : Nat) (l0 : List Int) (l1 : List Int) : Option (Bool) := if (l0.length : Int) = (l1.length : Int) then (slices_Equal_int_int.l0 k l0 l1 (l0.length : Int) 0) else (some false)
theorem slices_Equal_int_int.mono_l : ∀ k, (∀ y0 y1 y2 y3, LeO (slices_Equal_int_int.l0 k y0 y1 y2 y3) (slices_Equal_int_int.l0 (k + 1) y0 y1 y2 y3))
 | 0 => fun _ _ _ _ r h => by simp [slices_Equal_int_int.l0] at h
 | k + 1 => by
  have ih0 := slices_Equal_int_int.mono_l k
  ·intro y0 y1 y2 y3
   unfold slices_Equal_int_int.l0
   repeat' first
   | (with_reducible exact ih0 _ _ _ _)
   | (with_reducible exact LeO.refl _)
   | (with_reducible exact LeO.none _)
   | (with_reducible refine LeO.ite ?_ ?_)
   | (with_reducible refine LeO.bind ?_ (fun _ => ?_))
   | exact ih0 _ _ _ _
   | exact LeO.none _
   | refine LeO.ite ?_ ?_
   | refine LeO.bind ?_ (fun _ => ?_)
theorem slices_Equal_int_int.mono : ∀ a0 a1 k, LeO (slices_Equal_int_int.f k a0 a1) (slices_Equal_int_int.f (k + 1) a0 a1) := by
 intro a0 a1 k
 have ih0 := slices_Equal_int_int.mono_l k
 unfold slices_Equal_int_int.f
 repeat' first
   | (with_reducible exact ih0 _ _ _ _)
   | (with_reducible exact LeO.refl _)
   | (with_reducible exact LeO.none _)
   | (with_reducible refine LeO.ite ?_ ?_)
   | (with_reducible refine LeO.bind ?_ (fun _ => ?_))
   | exact ih0 _ _ _ _
   | exact LeO.none _
   | refine LeO.ite ?_ ?_
   | refine LeO.bind ?_ (fun _ => ?_)
set_option maxHeartbeats 8000000 in
set_option maxRecDepth 100000 in
theorem slices_Equal_int_int.calls (k : Nat) (A0 : Option Addr) (c0 : Nat) (l0 : List Int) (A1 : Option Addr) (c1 : Nat) (l1 : List Int) (r : Bool) (w : World) (hr0 : Kd.C (Kd.int .i64) w A0 l0.length l0) (hc0 : l0.length ≤ c0) (hr1 : Kd.C (Kd.int .i64) w A1 l1.length l1) (hc1 : l1.length ≤ c1) (h : slices_Equal_int_int.f k l0 l1 = some r) :
  Calls Try.prog 40 #[.slice A0 l0.length c0, .slice A1 l1.length c1] w fun e w' => e = .returned (.bool r) ∧ Drawn0 w w' := by
 have HR0 := Aside0.mk hr0
 have HC0 := Aside0.mk hc0
 clear hr0 hc0
 have HR1 := Aside0.mk hr1
 have HC1 := Aside0.mk hc1
 clear hr1 hc1
 have H : (if (l0.length : Int) = (l1.length : Int) then (slices_Equal_int_int.l0 k l0 l1 (l0.length : Int) 0) else (some false)) = some r := h
 clear h
 by_cases c3 : (l0.length : Int) = (l1.length : Int)
 ·rw [if_pos c3] at H
  have c3b0 : ((l0.length : Int) == (l1.length : Int)) = true := beq_iff_eq.mpr c3
  have c3b1 : ((l0.length : Int) != (l1.length : Int)) = false := bne_eq_false_iff_eq.mpr c3
  have c3b2 : (l0.length == l1.length) = true := by first | simpa using c3 | (simp at c3 ⊢; omega)
  clear c3
  have H' := Aside0.mk H
  clear H
  go_enter Try.func40, Try.ntmps40
  go_wp2
  repeat (go_quiet (fail); try go_wp2)
  go_loopg [13] k (fun kq v13 w' => ∃ (x13_1 : Int), v13 = .int .i64 x13_1 ∧ Aside0 (slices_Equal_int_int.l0 kq l0 l1 (l0.length : Int) x13_1 = some r) ∧ Aside0 (kq ≤ k) ∧ Drawn0 w w')
  case atStart => exact ⟨(0), rS, H', ⟨Nat.le_refl _⟩, by repeat (first | exact Drawn0.refl _ | apply Drawn0.step)⟩
  case round =>
   clear H'
   try clear c1; try clear p2; try clear c3; try clear c3b0; try clear c3b1; try clear c3b2
   obtain ⟨x13_1, rfl, HA, HK1, ⟨m1, rfl⟩⟩ := hrel
   cases gk with
   | zero => exact absurd HA.out (by simp [slices_Equal_int_int.l0])
   | succ k1 =>
    have H := HA.out
    clear HA
    simp only [slices_Equal_int_int.l0] at H
    by_cases c4 : x13_1 < (l0.length : Int)
    ·rw [if_pos c4] at H
     have c4b0 : decide (x13_1 < (l0.length : Int)) = true := decide_eq_true c4
     clear c4
     by_cases c5 : 0 ≤ x13_1
     ·rw [if_pos c5] at H
      have c5b0 : decide (0 ≤ x13_1) = true := decide_eq_true c5
      clear c5
      by_cases c6 : x13_1 < (l0.length : Int)
      ·rw [if_pos c6] at H
       have c6b0 : decide (x13_1 < (l0.length : Int)) = true := decide_eq_true c6
       clear c6
       by_cases c7 : x13_1 < (l1.length : Int)
       ·rw [if_pos c7] at H
        have c7b0 : decide (x13_1 < (l1.length : Int)) = true := decide_eq_true c7
        clear c7
        by_cases c8 : (rd l0 x13_1) = (rd l1 x13_1)
        ·rw [if_pos c8] at H
         have c8b0 : ((rd l0 x13_1) == (rd l1 x13_1)) = true := beq_iff_eq.mpr c8
         have c8b1 : ((rd l0 x13_1) != (rd l1 x13_1)) = false := bne_eq_false_iff_eq.mpr c8
         clear c8
         have H' := Aside0.mk H
         clear H
         have p101 : 0 ≤ (x13_1 : Int) := oT
         have q101 : x13_1 < (l0.length : Int) := oT
         obtain ⟨ad101, e101, hx101_0⟩ := Kd.at_int HR0.out x13_1 p101 q101
         cases e101
         replace p101 := eq_true p101
         replace q101 := eq_true q101
         have p102 : 0 ≤ (x13_1 : Int) := oT
         have q102 : x13_1 < (l1.length : Int) := oT
         obtain ⟨ad102, e102, hx102_0⟩ := Kd.at_int HR1.out x13_1 p102 q102
         cases e102
         replace p102 := eq_true p102
         replace q102 := eq_true q102
         go_wp2
         repeat (go_quiet (fail); try go_wp2)
         go_roundg k1
         case measure => have := HK1.out; omega
         case rel => exact ⟨(wrap64 (x13_1 + 1)), rS, H', ⟨by have := HK1.out; omega⟩, by repeat (first | exact Drawn0.refl _ | apply Drawn0.step)⟩
        ·rw [if_neg c8] at H
         have c8b0 : ((rd l0 x13_1) == (rd l1 x13_1)) = false := beq_eq_false_iff_ne.mpr c8
         have c8b1 : ((rd l0 x13_1) != (rd l1 x13_1)) = true := bne_iff_ne.mpr c8
         obtain rfl := Option.some.inj H
         have p101 : 0 ≤ (x13_1 : Int) := oT
         have q101 : x13_1 < (l0.length : Int) := oT
         obtain ⟨ad101, e101, hx101_0⟩ := Kd.at_int HR0.out x13_1 p101 q101
         cases e101
         replace p101 := eq_true p101
         replace q101 := eq_true q101
         have p102 : 0 ≤ (x13_1 : Int) := oT
         have q102 : x13_1 < (l1.length : Int) := oT
         obtain ⟨ad102, e102, hx102_0⟩ := Kd.at_int HR1.out x13_1 p102 q102
         cases e102
         replace p102 := eq_true p102
         replace q102 := eq_true q102
         go_wp2
         repeat (go_quiet (fail); try go_wp2)
         go_ret
         exact ⟨by first | rfl | (simp; done) | (simp [*]; done), by repeat (first | exact Drawn0.refl _ | apply Drawn0.step)⟩
       ·rw [if_neg c7] at H
        exact absurd H (by simp)
      ·rw [if_neg c6] at H
       exact absurd H (by simp)
     ·rw [if_neg c5] at H
      exact absurd H (by simp)
    ·rw [if_neg c4] at H
     have c4b0 : decide (x13_1 < (l0.length : Int)) = false := decide_eq_false c4
     clear c4
     obtain rfl := Option.some.inj H
     go_wp2
     repeat (go_quiet (fail); try go_wp2)
     go_ret
     exact ⟨by first | rfl | (simp; done) | (simp [*]; done), by repeat (first | exact Drawn0.refl _ | apply Drawn0.step)⟩
 ·rw [if_neg c3] at H
  have c3b0 : ((l0.length : Int) == (l1.length : Int)) = false := beq_eq_false_iff_ne.mpr c3
  have c3b1 : ((l0.length : Int) != (l1.length : Int)) = true := bne_iff_ne.mpr c3
  have c3b2 : (l0.length == l1.length) = false := by first | simpa using c3 | (simp at c3 ⊢; omega)
  obtain rfl := Option.some.inj H
  go_enter Try.func40, Try.ntmps40
  go_wp2
  repeat (go_quiet (fail); try go_wp2)
  go_ret
  exact ⟨by first | rfl | (simp; done) | (simp [*]; done), by repeat (first | exact Drawn0.refl _ | apply Drawn0.step)⟩
end Go.Proofs.Ytillofiphkmjjaa.X

/- awake, walked by hand. -/
namespace Go.Proofs.Ytillofiphkmjjaa.X
open Go.RowKit Go.Proofs.YtillofiphkmjjaaW.PrintWords Go.Proofs.YtillofiphkmjjaaW.PrintLast Go.Proofs.YtillofiphkmjjaaW.PrintMore
set_option linter.unusedVariables false
set_option linter.unusedSimpArgs false
set_option maxHeartbeats 4000000 in
set_option maxRecDepth 100000 in
theorem awake_walk (k : Nat) (e0 : List Int) (e1 : List S94) (e2 : List Int) (e3 : List S94) (e4 : List Int) (e5 : List S94) (e6 : List Int) (e7 : List Int) (e8 : List Int) (e9 : List Int) (r1 : List Int) (r2 : List S94) (r3 r4 r5 r6 : List Int) (m1 m2 : List Int) (n1 n2 : List S79) (w : World)
  (hE : (e0, e1, e2, e3, e4, e5, e6, e7, e8, e9) = ([0, 0], [], [0, 0], [], [0], [], [0, 0], [], [0, 0], []))
  (hO : pullback_Of.f k e0 e1 e2 e3 e4 e5 e6 e7 e8 e9 = some (r1, r2, r3, r4, r5, r6, 0))
  (hM : medF k e0 e1 e2 e3 e4 e5 e6 e7 e8 e9 e4 e5 [1] [] [0] [] = some (m1, m2, 0))
  (hK : pullback_Kernel.f k e0 e1 e4 e5 e6 e7 = some (n1, n2, 0))
  (hL : r1.length = 4)
  (hp : slices_Equal_int_int.f k r3 [0, 0, 1, 1] = some true)
  (hq : slices_Equal_int_int.f k r5 [0, 1, 0, 1] = some true)
  (hm : slices_Equal_int_int.f k m1 [2] = some true)
  (hs : scarfjointref11_SamePairs.f k n1 [(⟨0, 1⟩ : S79)] = some true) :
  Calls Try.prog 10 #[] w fun e w' => e = .returned (.bool true) ∧ Below w.heap.size w w' := by
 have HE_ := Aside0.mk hE
 have HO_ := Aside0.mk hO
 have HM_ := Aside0.mk hM
 have HK_ := Aside0.mk hK
 have HL_ := Aside0.mk hL
 have HP_L := Aside0.mk hp
 have HQ_L := Aside0.mk hq
 have HM_L := Aside0.mk hm
 have HS_L := Aside0.mk hs
 clear hE hO hM hK hL hp hq hm hs
 have hu25 := Try.underlying25
 have hu27 := Try.underlying27
 have hu29 := Try.underlying29
 have hu79 := Try.underlying79
 have SB := Since.refl w
 have RS := cE SB
 clear SB 
 go_enter Try.func10, Try.ntmps10
 go_wp2_with fail
 refine (example_rows e0 e1 e2 e3 e4 e5 e6 e7 e8 e9 _ HE_.out).mono ?_
 rintro e w1 ⟨y0, y1, y2, y3, y4, y5, y6, y7, y8, y9, rfl, q0, q1, q2, q3, q4, q5, q6, q7, q8, q9, hb⟩
 replace hb := bS (w := w) hb
 replace RS := mo hb RS
 clear hb
 obtain ⟨A0, c0, rfl, R0⟩ := q0.get
 obtain ⟨A1, c1, rfl, R1⟩ := q1.get
 obtain ⟨A2, c2, rfl, R2⟩ := q2.get
 obtain ⟨A3, c3, rfl, R3⟩ := q3.get
 obtain ⟨A4, c4, rfl, R4⟩ := q4.get
 obtain ⟨A5, c5, rfl, R5⟩ := q5.get
 obtain ⟨A6, c6, rfl, R6⟩ := q6.get
 obtain ⟨A7, c7, rfl, R7⟩ := q7.get
 obtain ⟨A8, c8, rfl, R8⟩ := q8.get
 obtain ⟨A9, c9, rfl, R9⟩ := q9.get
 replace RS := cR R0 (cR R1 (cR R2 (cR R3 (cR R4 (cR R5 (cR R6 (cR R7 (cR R8 (cR R9 (RS))))))))))
 clear R0 R1 R2 R3 R4 R5 R6 R7 R8 R9
 go_upto_region 2 with fail
 obtain ⟨w2, hv, BS, hb⟩ := nw1 w1 29 #[.slice A0 e0.length c0, .slice A1 e1.length c1, .slice A2 e2.length c2, .slice A3 e3.length c3, .slice A4 e4.length c4, .slice A5 e5.length c5, .slice A6 e6.length c6, .slice A7 e7.length c7, .slice A8 e8.length c8, .slice A9 e9.length c9]
 rw [← hv]
 clear hv
 replace RS := mo hb RS
 clear hb
 replace RS := cK BS (RS)
 clear BS
 rcases (id RS) with ⟨⟨BS⟩, -⟩
 obtain ⟨_, _, _, _, _, _, _, _, _, _⟩ := BS.q10
 go_wp2_with fail
 rcases (id RS) with ⟨-, ⟨⟨R0⟩, ⟨⟨R1⟩, ⟨⟨R2⟩, ⟨⟨R3⟩, ⟨⟨R4⟩, ⟨⟨R5⟩, ⟨⟨R6⟩, ⟨⟨R7⟩, ⟨⟨R8⟩, ⟨⟨R9⟩, -⟩⟩⟩⟩⟩⟩⟩⟩⟩⟩⟩
 refine (Of_calls k _ _ e0 _ _ e1 _ _ e2 _ _ e3 _ _ e4 _ _ e5 _ _ e6 _ _ e7 _ _ e8 _ _ e9 _ R0 R1 R2 R3 R4 R5 R6 R7 R8 R9 r1 r2 r3 r4 r5 r6 0 HO_.out).mono ?_
 rintro e w3 ⟨y0, y1, y2, y3, y4, y5, rfl, q0, q1, q2, q3, q4, q5, hb⟩
 clear R0 R1 R2 R3 R4 R5 R6 R7 R8 R9
 replace hb := bS (w := w2) hb
 replace RS := mo hb RS
 clear hb
 obtain ⟨P0, p0, rfl, Q0⟩ := q0.get
 obtain ⟨P1, p1, rfl, Q1⟩ := q1.get
 obtain ⟨P2, p2, rfl, Q2⟩ := q2.get
 obtain ⟨P3, p3, rfl, Q3⟩ := q3.get
 obtain ⟨P4, p4, rfl, Q4⟩ := q4.get
 obtain ⟨P5, p5, rfl, Q5⟩ := q5.get
 replace RS := cR Q0 (cR Q1 (cR Q2 (cR Q3 (cR Q4 (cR Q5 (RS))))))
 clear Q0 Q1 Q2 Q3 Q4 Q5
 go_upto_region 3 with fail
 obtain ⟨w4, hv, BA, BP, BQ, hb⟩ := nw3 w3 25 #[.slice P0 r1.length p0, .slice P1 r2.length p1] 27 #[.slice P2 r3.length p2, .slice P3 r4.length p3] 27 #[.slice P4 r5.length p4, .slice P5 r6.length p5]
 rw [← hv]
 clear hv
 replace RS := mo hb RS
 clear hb
 replace RS := cK BA (cK BP (cK BQ (RS)))
 clear BA BP BQ
 rcases (id RS) with ⟨-, ⟨-, ⟨-, ⟨-, ⟨-, ⟨-, ⟨-, ⟨-, ⟨-, ⟨⟨BS⟩, -⟩⟩⟩⟩⟩⟩⟩⟩⟩⟩
 obtain ⟨_, _, _, _, _, _, _, _, _, _⟩ := BS.q10
 go_wp2_with fail
 obtain ⟨w5, hv, L1, L0, hb⟩ := nw2 w4 3 #[.int .i64 1] 3 #[.int .i64 0]
 rw [← hv]
 clear hv
 replace RS := mo hb RS
 clear hb
 replace RS := cK L1 (cK L0 (RS))
 clear L1 L0
 rcases (id RS) with ⟨⟨L1⟩, ⟨⟨L0⟩, -⟩⟩
 have RL1 := L1.row (l := [1]) (by decide)
 have RL0 := L0.row (l := [0]) (by decide)
 have RN1 := Row.nil (Kd.int .i64) w5
 rcases (id RS) with ⟨-, ⟨-, ⟨-, ⟨-, ⟨-, ⟨-, ⟨-, ⟨-, ⟨-, ⟨-, ⟨-, ⟨-, ⟨⟨R0⟩, ⟨⟨R1⟩, ⟨⟨R2⟩, ⟨⟨R3⟩, ⟨⟨R4⟩, ⟨⟨R5⟩, ⟨⟨R6⟩, ⟨⟨R7⟩, ⟨⟨R8⟩, ⟨⟨R9⟩, -⟩⟩⟩⟩⟩⟩⟩⟩⟩⟩⟩⟩⟩⟩⟩⟩⟩⟩⟩⟩⟩⟩
 refine (Med_calls k _ _ e0 _ _ e1 _ _ e2 _ _ e3 _ _ e4 _ _ e5 _ _ e6 _ _ e7 _ _ e8 _ _ e9 _ _ e4 _ _ e5 _ _ [1] _ _ [] _ _ [0] _ _ [] _ R0 R1 R2 R3 R4 R5 R6 R7 R8 R9 R4 R5 RL1 RN1 RL0 RN1 m1 m2 0 HM_.out).mono ?_
 rintro e w6 ⟨y0, y1, rfl, q0, q1, hb⟩
 clear R0 R1 R2 R3 R4 R5 R6 R7 R8 R9
 clear RL1 RL0 RN1 L1 L0
 replace hb := bS (w := w5) hb
 replace RS := mo hb RS
 clear hb
 obtain ⟨N0, g0, rfl, M0⟩ := q0.get
 obtain ⟨N1, g1, rfl, M1⟩ := q1.get
 replace RS := cR M0 (cR M1 (RS))
 clear M0 M1
 go_upto_region 4 with fail
 obtain ⟨w7, hv, BM, hb⟩ := nw1 w6 27 #[.slice N0 m1.length g0, .slice N1 m2.length g1]
 rw [← hv]
 clear hv
 replace RS := mo hb RS
 clear hb
 replace RS := cK BM (RS)
 clear BM
 rcases (id RS) with ⟨-, ⟨-, ⟨-, ⟨-, ⟨-, ⟨-, ⟨-, ⟨-, ⟨-, ⟨-, ⟨-, ⟨-, ⟨-, ⟨-, ⟨⟨BS⟩, -⟩⟩⟩⟩⟩⟩⟩⟩⟩⟩⟩⟩⟩⟩⟩
 obtain ⟨_, _, _, _, _, _, _, _, _, _⟩ := BS.q10
 go_wp2_with fail
 rcases (id RS) with ⟨-, ⟨-, ⟨-, ⟨-, ⟨-, ⟨-, ⟨-, ⟨-, ⟨-, ⟨-, ⟨-, ⟨-, ⟨-, ⟨-, ⟨-, ⟨⟨R0⟩, ⟨⟨R1⟩, ⟨-, ⟨-, ⟨⟨R4⟩, ⟨⟨R5⟩, ⟨⟨R6⟩, ⟨⟨R7⟩, -⟩⟩⟩⟩⟩⟩⟩⟩⟩⟩⟩⟩⟩⟩⟩⟩⟩⟩⟩⟩⟩⟩⟩
 refine (pullback_Kernel.calls k _ _ e0 _ _ e1 _ _ e4 _ _ e5 _ _ e6 _ _ e7 n1 n2 0 _ R0.at_ R0.cap R1.at_ R1.cap R4.at_ R4.cap R5.at_ R5.cap R6.at_ R6.cap R7.at_ R7.cap HK_.out).mono ?_
 rintro e w8 ⟨y0, y1, rfl, q0, q1, hb⟩
 clear R0 R1 R4 R5 R6 R7
 replace hb := bS (w := w7) hb
 replace RS := mo hb RS
 clear hb
 obtain ⟨G0, h0, rfl, K0⟩ := Row.of_R q0
 clear q0
 obtain ⟨G1, h1, rfl, K1⟩ := Row.of_R q1
 clear q1
 replace RS := cR K0 (cR K1 (RS))
 clear K0 K1
 rcases (id RS) with ⟨-, ⟨-, ⟨⟨BM⟩, ⟨-, ⟨-, ⟨-, ⟨-, ⟨⟨BA⟩, ⟨⟨BP⟩, ⟨⟨BQ⟩, -⟩⟩⟩⟩⟩⟩⟩⟩⟩⟩
 obtain ⟨_, _⟩ := BM.q2
 obtain ⟨_, _⟩ := BA.q2
 obtain ⟨_, _⟩ := BP.q2
 obtain ⟨_, _⟩ := BQ.q2
 have hl4 : (r1.length : Int) = 4 := by have := HL_.out; omega
 go_wp2_with fail
 obtain ⟨v1, hv, LT1, hb⟩ := nw1 w8 3 #[.int .i64 0, .int .i64 0, .int .i64 1, .int .i64 1]
 rw [← hv]
 clear hv
 replace RS := mo hb RS
 clear hb
 replace RS := cK LT1 (RS)
 clear LT1
 rcases (id RS) with ⟨⟨LT1⟩, -⟩
 have RL := LT1.row (l := [0, 0, 1, 1]) (by decide)
 rcases (id RS) with ⟨-, ⟨-, ⟨-, ⟨-, ⟨-, ⟨-, ⟨-, ⟨-, ⟨-, ⟨-, ⟨-, ⟨-, ⟨-, ⟨⟨Q2⟩, -⟩⟩⟩⟩⟩⟩⟩⟩⟩⟩⟩⟩⟩⟩
 refine (slices_Equal_int_int.calls k _ _ r3 _ _ [0, 0, 1, 1] true _ Q2.at_ Q2.cap RL.at_ RL.cap HP_L.out).mono ?_
 rintro e v2 ⟨rfl, hd⟩
 clear Q2
 have hb := hd.below
 clear hd RL LT1
 replace hb := bS (w := v1) hb
 replace RS := mo hb RS
 clear hb
 rcases (id RS) with ⟨-, ⟨-, ⟨-, ⟨⟨BM⟩, ⟨-, ⟨-, ⟨-, ⟨-, ⟨⟨BA⟩, ⟨⟨BP⟩, ⟨⟨BQ⟩, -⟩⟩⟩⟩⟩⟩⟩⟩⟩⟩⟩
 obtain ⟨_, _⟩ := BM.q2
 obtain ⟨_, _⟩ := BA.q2
 obtain ⟨_, _⟩ := BP.q2
 obtain ⟨_, _⟩ := BQ.q2
 go_wp2_with fail
 obtain ⟨v3, hv, LT2, hb⟩ := nw1 v2 3 #[.int .i64 0, .int .i64 1, .int .i64 0, .int .i64 1]
 rw [← hv]
 clear hv
 replace RS := mo hb RS
 clear hb
 replace RS := cK LT2 (RS)
 clear LT2
 rcases (id RS) with ⟨⟨LT2⟩, -⟩
 have RL := LT2.row (l := [0, 1, 0, 1]) (by decide)
 rcases (id RS) with ⟨-, ⟨-, ⟨-, ⟨-, ⟨-, ⟨-, ⟨-, ⟨-, ⟨-, ⟨-, ⟨-, ⟨-, ⟨-, ⟨-, ⟨-, ⟨-, ⟨⟨Q4⟩, -⟩⟩⟩⟩⟩⟩⟩⟩⟩⟩⟩⟩⟩⟩⟩⟩⟩
 refine (slices_Equal_int_int.calls k _ _ r5 _ _ [0, 1, 0, 1] true _ Q4.at_ Q4.cap RL.at_ RL.cap HQ_L.out).mono ?_
 rintro e v4 ⟨rfl, hd⟩
 clear Q4
 have hb := hd.below
 clear hd RL LT2
 replace hb := bS (w := v3) hb
 replace RS := mo hb RS
 clear hb
 rcases (id RS) with ⟨-, ⟨-, ⟨-, ⟨-, ⟨⟨BM⟩, ⟨-, ⟨-, ⟨-, ⟨-, ⟨⟨BA⟩, ⟨⟨BP⟩, ⟨⟨BQ⟩, -⟩⟩⟩⟩⟩⟩⟩⟩⟩⟩⟩⟩
 obtain ⟨_, _⟩ := BM.q2
 obtain ⟨_, _⟩ := BA.q2
 obtain ⟨_, _⟩ := BP.q2
 obtain ⟨_, _⟩ := BQ.q2
 go_wp2_with fail
 obtain ⟨v5, hv, LT3, hb⟩ := nw1 v4 3 #[.int .i64 2]
 rw [← hv]
 clear hv
 replace RS := mo hb RS
 clear hb
 replace RS := cK LT3 (RS)
 clear LT3
 rcases (id RS) with ⟨⟨LT3⟩, -⟩
 have RL := LT3.row (l := [2]) (by decide)
 rcases (id RS) with ⟨-, ⟨-, ⟨-, ⟨-, ⟨-, ⟨-, ⟨⟨M0⟩, -⟩⟩⟩⟩⟩⟩⟩
 refine (slices_Equal_int_int.calls k _ _ m1 _ _ [2] true _ M0.at_ M0.cap RL.at_ RL.cap HM_L.out).mono ?_
 rintro e v6 ⟨rfl, hd⟩
 clear M0
 have hb := hd.below
 clear hd RL LT3
 replace hb := bS (w := v5) hb
 replace RS := mo hb RS
 clear hb
 rcases (id RS) with ⟨-, ⟨-, ⟨-, ⟨-, ⟨-, ⟨⟨BM⟩, ⟨-, ⟨-, ⟨-, ⟨-, ⟨⟨BA⟩, ⟨⟨BP⟩, ⟨⟨BQ⟩, -⟩⟩⟩⟩⟩⟩⟩⟩⟩⟩⟩⟩⟩
 obtain ⟨_, _⟩ := BM.q2
 obtain ⟨_, _⟩ := BA.q2
 obtain ⟨_, _⟩ := BP.q2
 obtain ⟨_, _⟩ := BQ.q2
 go_wp2_with fail
 obtain ⟨v7, hv, LP, hb⟩ := nw1 v6 79 #[.int .i64 0, .int .i64 1]
 rw [← hv]
 clear hv
 replace RS := mo hb RS
 clear hb
 replace RS := cK LP (RS)
 clear LP
 rcases (id RS) with ⟨⟨LP⟩, -⟩
 have RL := LP.row79 (x := ⟨0, 1⟩)
 rcases (id RS) with ⟨-, ⟨-, ⟨-, ⟨-, ⟨⟨K0⟩, -⟩⟩⟩⟩⟩
 refine (scarfjointref11_SamePairs.calls k _ _ n1 _ _ [⟨0, 1⟩] true _ K0.at_ K0.cap RL.at_ RL.cap HS_L.out).mono ?_
 rintro e v8 ⟨rfl, hd⟩
 clear K0
 have hb := hd.below
 clear hd RL LP
 replace hb := bS (w := v7) hb
 replace RS := mo hb RS
 clear hb
 go_wp2_with fail
 rcases (id RS) with ⟨-, ⟨-, ⟨-, ⟨-, ⟨-, ⟨-, ⟨-, ⟨-, ⟨-, ⟨-, ⟨-, ⟨-, ⟨-, ⟨-, ⟨-, ⟨-, ⟨-, ⟨-, ⟨-, ⟨-, ⟨-, ⟨-, ⟨-, ⟨-, ⟨-, ⟨-, ⟨-, ⟨-, ⟨-, ⟨-, ⟨-, ⟨SB⟩⟩⟩⟩⟩⟩⟩⟩⟩⟩⟩⟩⟩⟩⟩⟩⟩⟩⟩⟩⟩⟩⟩⟩⟩⟩⟩⟩⟩⟩⟩⟩
 go_ret
 exact ⟨rfl, SB.get⟩
theorem awake_calls (w : World) : Calls Try.prog 10 #[] w fun e w' => e = .returned (.bool true) ∧ Below w.heap.size w w' :=
 awake_walk 40 [0, 0] [] [0, 0] [] [0] [] [0, 0] [] [0, 0] [] [0, 0, 0, 0] [] [0, 0, 1, 1] [] [0, 1, 0, 1] [] [2] [] [⟨0, 1⟩] [] w rfl (by kernel_rfl) (by kernel_rfl) (by kernel_rfl) rfl (by kernel_rfl) (by kernel_rfl) (by kernel_rfl) (by kernel_rfl)
end Go.Proofs.Ytillofiphkmjjaa.X

namespace Go.Proofs.Ytillofiphkmjjaa.X
open Go.RowKit Go.Proofs.YtillofiphkmjjaaW.PrintWords Go.Proofs.YtillofiphkmjjaaW.PrintLast Go.Proofs.YtillofiphkmjjaaW.PrintMore
open Go.Proofs.YtillofiphkmjjaaW.PrintWords renaming blk_drewN → bN, blk_drew → bD, blk_alloc → bA, below_alloc → wA, pw_below_drewN → wN, below_drew1 → wD, blk_below → bB, below_step → wS, blk_at → bT, blk_grown → bG
open Go.Proofs.YtillofiphkmjjaaW.PrintWords.Kd renaming R_alloc → rA, R_drewN → rN, R_drew → rD, R_below → rB, R_grown → rG, C_below → cB, C_alloc → cA, C_drewN → cN, C_drew → cD
attribute [local go_sem] max2_int min2_int max_two min_two max_three min_three max_four min_four
set_option linter.unusedVariables false
set_option linter.unusedSimpArgs false
/-! ### scarfjointref11_over: function 54 -/
def scarfjointref11_over.l0 : Nat → List Int → Int → List Int → Int → Option (List Int)
 | 0, _, _, _, _ => none
 | k + 1, x0, x1, x5, x6 => if x6 < (x0.length : Int) then (if 0 ≤ x6 then (if (rd x0 x6) = x1 then (if x5.length < 17592186044416 then (scarfjointref11_over.l0 k x0 x1 (x5 ++ [x6]) (wrap64 (x6 + 1))) else (none)) else (scarfjointref11_over.l0 k x0 x1 x5 (wrap64 (x6 + 1)))) else (none)) else (some x5)
def scarfjointref11_over.f (k : Nat) (l0 : List Int) (a1 : Int) : Option (List Int) := scarfjointref11_over.l0 k l0 a1 ([] : List Int) 0
theorem scarfjointref11_over.mono_l : ∀ k, (∀ y0 y1 y2 y3, LeO (scarfjointref11_over.l0 k y0 y1 y2 y3) (scarfjointref11_over.l0 (k + 1) y0 y1 y2 y3))
 | 0 => fun _ _ _ _ r h => by simp [scarfjointref11_over.l0] at h
 | k + 1 => by
  have ih0 := scarfjointref11_over.mono_l k
  ·intro y0 y1 y2 y3
   unfold scarfjointref11_over.l0
   repeat' first
   | (with_reducible exact ih0 _ _ _ _)
   | (with_reducible exact LeO.refl _)
   | (with_reducible exact LeO.none _)
   | (with_reducible refine LeO.ite ?_ ?_)
   | (with_reducible refine LeO.bind ?_ (fun _ => ?_))
   | exact ih0 _ _ _ _
   | exact LeO.none _
   | refine LeO.ite ?_ ?_
   | refine LeO.bind ?_ (fun _ => ?_)
theorem scarfjointref11_over.mono : ∀ a0 a1 k, LeO (scarfjointref11_over.f k a0 a1) (scarfjointref11_over.f (k + 1) a0 a1) := by
 intro a0 a1 k
 have ih0 := scarfjointref11_over.mono_l k
 unfold scarfjointref11_over.f
 repeat' first
   | (with_reducible exact ih0 _ _ _ _)
   | (with_reducible exact LeO.refl _)
   | (with_reducible exact LeO.none _)
   | (with_reducible refine LeO.ite ?_ ?_)
   | (with_reducible refine LeO.bind ?_ (fun _ => ?_))
   | exact ih0 _ _ _ _
   | exact LeO.none _
   | refine LeO.ite ?_ ?_
   | refine LeO.bind ?_ (fun _ => ?_)
set_option maxHeartbeats 8000000 in
set_option maxRecDepth 100000 in
theorem scarfjointref11_over.calls (k : Nat) (A0 : Option Addr) (c0 : Nat) (l0 : List Int) (a1 : Int) (r : List Int) (w : World) (hr0 : Kd.C (Kd.int .i64) w A0 l0.length l0) (hc0 : l0.length ≤ c0) (h : scarfjointref11_over.f k l0 a1 = some r) :
  Calls Try.prog 54 #[.slice A0 l0.length c0, .int .i64 a1] w fun e w' => ∃ v0_ : Value, e = .returned (v0_) ∧ Kd.R (Kd.int .i64) 3 w' w.heap.size (fun _ => True) v0_ r ∧ Below w.heap.size w w' := by
 have HR0 := Aside0.mk hr0
 have HC0 := Aside0.mk hc0
 clear hr0 hc0
 have HB := Aside0.mk (Below.refl w.heap.size w)
 have H : (scarfjointref11_over.l0 k l0 a1 ([] : List Int) 0) = some r := h
 clear h
 have H' := Aside0.mk H
 clear H
 go_enter Try.func54, Try.ntmps54
 go_wp2
 go_loopg [5, 6] k (fun kq v5 v6 w' => ∃ (x5_1 : List Int) (x6_1 : Int), v6 = .int .i64 x6_1 ∧ Aside0 (scarfjointref11_over.l0 kq l0 a1 x5_1 x6_1 = some r) ∧ Aside0 (kq ≤ k) ∧ Aside0 (Kd.R (Kd.int .i64) 3 w' w.heap.size (fun _ => True) v5 x5_1) ∧ Aside0 (Below w.heap.size w w'))
 case atStart => exact ⟨(([] : List Int)), (0), rS, H', ⟨Nat.le_refl _⟩, ⟨by first | exact Kd.R_nil _ _ _ _ _ | exact Kd.N_nil _ _ _ _ _ | exact Kd.V_nil _ _ _ _ _ | exact Kd.Q_nil _ _ _ _ _ | exact Kd.S_nil _ _ _ _ _⟩, ⟨pH HB⟩⟩
 case round =>
  clear H'
  try clear p2
  obtain ⟨x5_1, x6_1, rfl, HA, HK1, Q00, HB⟩ := hrel
  cases gk with
  | zero => exact absurd HA.out (by simp [scarfjointref11_over.l0])
  | succ k1 =>
   have H := HA.out
   clear HA
   simp only [scarfjointref11_over.l0] at H
   by_cases c3 : x6_1 < (l0.length : Int)
   ·rw [if_pos c3] at H
    have c3b0 : decide (x6_1 < (l0.length : Int)) = true := decide_eq_true c3
    clear c3
    by_cases c4 : 0 ≤ x6_1
    ·rw [if_pos c4] at H
     have c4b0 : decide (0 ≤ x6_1) = true := decide_eq_true c4
     clear c4
     by_cases c5 : (rd l0 x6_1) = a1
     ·rw [if_pos c5] at H
      have c5b0 : ((rd l0 x6_1) == a1) = true := beq_iff_eq.mpr c5
      have c5b1 : ((rd l0 x6_1) != a1) = false := bne_eq_false_iff_eq.mpr c5
      clear c5
      by_cases c6 : x5_1.length < 17592186044416
      ·rw [if_pos c6] at H
       have LMc6 := Aside0.mk c6
       clear c6
       obtain ⟨y102, hy102⟩ : ∃ y_ : List Int, y_ = (x5_1 ++ [x6_1]) := ⟨_, rfl⟩
       replace H : (scarfjointref11_over.l0 k1 l0 a1 y102 (wrap64 (x6_1 + 1))) = some r := by first | (rw [hy102]; with_reducible exact H) | (have H2_ := (Option.bind_some _ _).symm.trans H; rw [hy102]; with_reducible exact H2_) | (have H2_ := (Option.bind_some _ _).symm.trans H; with_reducible exact H2_) | with_reducible exact H | (rw [hy102]; exact H) | exact H
       have Ny102 := Aside0.mk hy102
       clear hy102
       have H' := Aside0.mk H
       clear H
       have p101 : 0 ≤ (x6_1 : Int) := oT
       have q101 : x6_1 < (l0.length : Int) := oT
       obtain ⟨ad101, e101, hx101_0⟩ := Kd.at_int HR0.out x6_1 p101 q101
       cases e101
       replace hx101_0 := (HB.out.cell (World.block_lt_of_cell? w _ hx101_0)).trans hx101_0
       replace p101 := eq_true p101
       replace q101 := eq_true q101
       go_wp2_with (first | ((with_reducible refine gate_builtin (b := .append) (xs := #[.tmp 19, .tmp 21]) rfl ?_); at_builtin; refine Kd.R_append (Kd.int .i64) (w0 := w) w.heap.size rfl (.tmp 19) (.tmp 21) 22 3 (.int .i64 0) 8 rfl Try.underlying22 info3 rfl (by decide) (by omega) u5 x5_1 x6_1 [.int .i64 x6_1] (fun _ => True) (fun _ => False) rfl rfl ?aP (fun _ hk => hk.elim) ?aF ?aO ?aB ?aS ?aL ?_; (case aP => exact rfl); (case aB => exact hB); (case aF => exact (fun _ _ => trivial)); (case aO => exact (pR Q00)); (case aS => exact (below_size hB)); (case aL => have := LMc6.out; omega); intro v103 w7 ho hb hg hat; rw [← Ny102.out] at ho; replace HB := Aside0.mk (hb); have Q01 := Aside0.mk (ho); clear Q00; clear ho hb hg hat))
       go_roundg k1
       case measure => have := HK1.out; omega
       case rel => exact ⟨(y102), (wrap64 (x6_1 + 1)), rS, H', ⟨by have := HK1.out; omega⟩, ⟨pR Q01⟩, ⟨pH HB⟩⟩
      ·rw [if_neg c6] at H
       exact absurd H (by simp)
     ·rw [if_neg c5] at H
      have c5b0 : ((rd l0 x6_1) == a1) = false := beq_eq_false_iff_ne.mpr c5
      have c5b1 : ((rd l0 x6_1) != a1) = true := bne_iff_ne.mpr c5
      have H' := Aside0.mk H
      clear H
      have p101 : 0 ≤ (x6_1 : Int) := oT
      have q101 : x6_1 < (l0.length : Int) := oT
      obtain ⟨ad101, e101, hx101_0⟩ := Kd.at_int HR0.out x6_1 p101 q101
      cases e101
      replace hx101_0 := (HB.out.cell (World.block_lt_of_cell? w _ hx101_0)).trans hx101_0
      replace p101 := eq_true p101
      replace q101 := eq_true q101
      go_wp2
      go_roundg k1
      case measure => have := HK1.out; omega
      case rel => exact ⟨(x5_1), (wrap64 (x6_1 + 1)), rS, H', ⟨by have := HK1.out; omega⟩, ⟨pR Q00⟩, ⟨pH HB⟩⟩
    ·rw [if_neg c4] at H
     exact absurd H (by simp)
   ·rw [if_neg c3] at H
    have c3b0 : decide (x6_1 < (l0.length : Int)) = false := decide_eq_false c3
    clear c3
    obtain rfl := Option.some.inj H
    go_wp2
    go_ret
    exact ⟨_, by first | rfl | (simp [errW_none, errW_some] <;> rfl) | (simp [*, errW_none, errW_some] <;> rfl), by (with_reducible repeat (first | apply rA | apply rN | apply rD)); exact Q00.out, by repeat (first | (with_reducible first | exact HB.out | apply wA | apply wN | apply wD) | exact HB.out)⟩
end Go.Proofs.Ytillofiphkmjjaa.X

/- Plain laws: what the program's pullback answers. -/
namespace Go.Proofs.Ytillofiphkmjjaa.Pl
open Go.RowKit Go.Proofs.YtillofiphkmjjaaW.PrintWords Go.Proofs.Ytillofiphkmjjaa.X
set_option linter.unusedVariables false
theorem gsides_l0 (l : List S79) (hl : l.length ≤ 1000000) : ∀ (r pre : List S79) (a b : List Int), l = pre ++ r → a.length = pre.length → b.length = pre.length → Ev (fun k => pullback_sides.l0 k a b l (l.length : Int) (pre.length : Int)) (a ++ r.map S79.f0, b ++ r.map S79.f1) := by
 intro r
 induction r with
 | nil =>
  rintro pre a b rfl ha hb
  refine Ev.step (fun k => by simp only [pullback_sides.l0]; rw [if_neg (by simp)]) ?_
  simpa using Ev.now (a, b)
 | cons p r ih =>
  rintro pre a b rfl ha hb
  have hl' : pre.length ≤ 1000000 := by simp at hl; omega
  have e : wrap64 ((pre.length : Int) + 1) = ((pre ++ [p]).length : Int) := wrap_mid pre p r (by omega)
  have ih' := ih (pre ++ [p]) (a ++ [p.f0]) (b ++ [p.f1]) (snoc_mid pre p r) (by simp [ha]) (by simp [hb])
  refine Ev.step (fun k => by simp only [pullback_sides.l0, Option.bind_some]; rw [if_pos (lt_mid pre p r), if_pos (by omega), if_pos (lt_mid pre p r), rd79_mid, if_pos (by simp; omega), if_pos (by simp; omega), e]) ?_
  simpa using ih'
theorem gsides_ev (l : List S79) (hl : l.length ≤ 1000000) : Ev (fun k => pullback_sides.f k l) (l.map S79.f0, l.map S79.f1) := by
 unfold pullback_sides.f
 simpa using gsides_l0 l hl l [] [] [] rfl rfl rfl
section
variable (x0 : List Int) (x1 : List S94) (x2 : List Int) (x3 : List S94) (x4 : List Int) (x5 : List S94) (x6 x7 x8 x9 : List Int)
theorem given_eq : pullback_given.f x0 x1 x2 x3 x4 x5 x6 x7 x8 x9 = some (giv x0 x1 x2 x3 x4 x5 x6 x7 x8 x9) := by
 unfold pullback_given.f morphism_Valid.f giv
 simp only [Option.bind_some]
 split <;> rfl
theorem gof_ev : Ev (fun k => pullback_of.f k x0 x1 x2 x3 x4 x5 x6 x7 x8 x9) (ofR x0 x1 x2 x3 x4 x5 x6 x7 x8 x9) := Ev.now _
def OfR : List Int × List S94 × List Int × List Int × List Int × List Int × Int :=
 if (ofR x0 x1 x2 x3 x4 x5 x6 x7 x8 x9).2.2.2.2 = 0 then ((ofR x0 x1 x2 x3 x4 x5 x6 x7 x8 x9).2.2.1, (ofR x0 x1 x2 x3 x4 x5 x6 x7 x8 x9).2.2.2.1, (ofR x0 x1 x2 x3 x4 x5 x6 x7 x8 x9).1.map S79.f0, (ofR x0 x1 x2 x3 x4 x5 x6 x7 x8 x9).2.1.map S79.f0, (ofR x0 x1 x2 x3 x4 x5 x6 x7 x8 x9).1.map S79.f1, (ofR x0 x1 x2 x3 x4 x5 x6 x7 x8 x9).2.1.map S79.f1, 0)
 else ([], [], [], [], [], [], (ofR x0 x1 x2 x3 x4 x5 x6 x7 x8 x9).2.2.2.2)
theorem ofR_len : (ofR x0 x1 x2 x3 x4 x5 x6 x7 x8 x9).1.length ≤ 40 ∧ (ofR x0 x1 x2 x3 x4 x5 x6 x7 x8 x9).2.1.length ≤ 80 ∧ (ofR x0 x1 x2 x3 x4 x5 x6 x7 x8 x9).2.2.1.length ≤ 40 ∧ (ofR x0 x1 x2 x3 x4 x5 x6 x7 x8 x9).2.2.2.1.length ≤ 80 := by
 unfold ofR
 split
 ·split
  ·exact ⟨by simp, by simp, by simp, by simp⟩
  ·refine ⟨?_, ?_, ?_, ?_⟩ <;> (try simp only [List.length_map]) <;> omega
 ·exact ⟨by simp, by simp, by simp, by simp⟩
theorem gOf_ev : Ev (fun k => pullback_Of.f k x0 x1 x2 x3 x4 x5 x6 x7 x8 x9) (OfR x0 x1 x2 x3 x4 x5 x6 x7 x8 x9) := by
 unfold pullback_Of.f OfR
 refine Ev.bind (gof_ev x0 x1 x2 x3 x4 x5 x6 x7 x8 x9) ?_
 obtain ⟨l1, l2, -⟩ := ofR_len x0 x1 x2 x3 x4 x5 x6 x7 x8 x9
 by_cases h : (ofR x0 x1 x2 x3 x4 x5 x6 x7 x8 x9).2.2.2.2 = 0
 ·simp only [if_pos h]
  exact Ev.bind (gsides_ev _ (by omega)) (Ev.bind (gsides_ev _ (by omega)) (Ev.now _))
 ·simp only [if_neg h]
  exact Ev.now _
end
theorem mvalid_len {a0 : List Int} {a1 : List S94} {b0 : List Int} {b1 : List S94} {n m : List Int} (h : mvalid a0 a1 b0 b1 n m = 0) : validE a0 a1 = 0 ∧ validE b0 b1 = 0 ∧ n.length = a0.length ∧ m.length = a1.length ∧ n.length ≤ 40 ∧ m.length ≤ 80 := by
 unfold mvalid at h
 split at h
 ·rename_i h1
  split at h
  ·rename_i h2
   split at h
   ·exact absurd h (by decide)
   ·rename_i h3
    obtain ⟨g1, g2, -⟩ := okE_of h1
    refine ⟨h1, h2, ?_, ?_, ?_, ?_⟩ <;> omega
  ·rename_i h2
   exact absurd h h2
 ·rename_i h1
  exact absurd h h1
end Go.Proofs.Ytillofiphkmjjaa.Pl

namespace Go.Proofs.Ytillofiphkmjjaa.X
open Go.RowKit Go.Proofs.YtillofiphkmjjaaW.PrintWords Go.Proofs.YtillofiphkmjjaaW.PrintLast Go.Proofs.YtillofiphkmjjaaW.PrintMore
open Go.Proofs.YtillofiphkmjjaaW.PrintWords renaming blk_drewN → bN, blk_drew → bD, blk_alloc → bA, below_alloc → wA, pw_below_drewN → wN, below_drew1 → wD, blk_below → bB, below_step → wS, blk_at → bT, blk_grown → bG
open Go.Proofs.YtillofiphkmjjaaW.PrintWords.Kd renaming R_alloc → rA, R_drewN → rN, R_drew → rD, R_below → rB, R_grown → rG, C_below → cB, C_alloc → cA, C_drewN → cN, C_drew → cD
attribute [local go_sem] max2_int min2_int max_two min_two max_three min_three max_four min_four
set_option linter.unusedVariables false
set_option linter.unusedSimpArgs false
/-! ### slices_Clone_int_int: function 88 -/
def slices_Clone_int_int.f (l0 : List Int) : Option (List Int) := (some (([] : List Int) : List Int)).bind fun y101 => (if y101.length + l0.length < 17592186044416 then (some (y101 ++ l0)) else (none))
theorem Kd_C_none88 {α : Type} {d : Kd α} {w : World} {n : Nat} {xs : List α} (h : Kd.C d w none n xs) : xs = [] := by
 have h1 := h.1
 have h2 := h.2.2
 cases n with
 | zero => exact List.eq_nil_of_length_eq_zero h1
 | succ n =>
  obtain ⟨ad, e, _⟩ := h2 (Nat.succ_pos n)
  cases e
set_option maxHeartbeats 8000000 in
set_option maxRecDepth 100000 in
theorem slices_Clone_int_int.calls_some (ad0 : Addr) (c0 : Nat) (l0 : List Int) (r : List Int) (w : World) (hr0 : Kd.C (Kd.int .i64) w (some ad0) l0.length l0) (hc0 : l0.length ≤ c0) (h : slices_Clone_int_int.f l0 = some r) :
  Calls Try.prog 88 #[.slice (some ad0) l0.length c0] w fun e w' => ∃ v0_ : Value, e = .returned (v0_) ∧ Kd.R (Kd.int .i64) 3 w' w.heap.size (fun _ => True) v0_ r ∧ Below w.heap.size w w' := by
 have hnil_ : ∀ w : World, (binOp .eql 22 (.slice (some ad0) l0.length c0) (.slice none 0 0)).run Try.prog w = .ok (.bool false) w := fun w => Lib.run_eql_slice_nil w 22 3 (some ad0) _ _ _ _ Try.underlying22
 have HR0 := Aside0.mk hr0
 have HC0 := Aside0.mk hc0
 clear hr0 hc0
 have HB := Aside0.mk (Below.refl w.heap.size w)
 have H : ((some (([] : List Int) : List Int)).bind fun y101 => (if y101.length + l0.length < 17592186044416 then (some (y101 ++ l0)) else (none))) = some r := h
 clear h
 obtain ⟨y101, hy101⟩ : ∃ y_ : List Int, y_ = (([] : List Int)) := ⟨_, rfl⟩
 replace H : (if y101.length + l0.length < 17592186044416 then (some (y101 ++ l0)) else (none)) = some r := by first | (rw [hy101]; with_reducible exact H) | (have H2_ := (Option.bind_some _ _).symm.trans H; rw [hy101]; with_reducible exact H2_) | (have H2_ := (Option.bind_some _ _).symm.trans H; with_reducible exact H2_) | with_reducible exact H | (rw [hy101]; exact H) | exact H
 have Ny101 := Aside0.mk hy101
 clear hy101
 by_cases c2 : y101.length + l0.length < 17592186044416
 ·rw [if_pos c2] at H
  have LMc2 := Aside0.mk c2
  clear c2
  obtain ⟨y104, hy104⟩ : ∃ y_ : List Int, y_ = (y101 ++ l0) := ⟨_, rfl⟩
  replace H : (some y104) = some r := by first | (rw [hy104]; with_reducible exact H) | (have H2_ := (Option.bind_some _ _).symm.trans H; rw [hy104]; with_reducible exact H2_) | (have H2_ := (Option.bind_some _ _).symm.trans H; with_reducible exact H2_) | with_reducible exact H | (rw [hy104]; exact H) | exact H
  have Ny104 := Aside0.mk hy104
  clear hy104
  obtain rfl := Option.some.inj H
  go_enter Try.func88, Try.ntmps88
  go_wp2_with (first | ((with_reducible refine gate_dst (N := 5) rfl ?_); refine Kd.R_lit (Kd.int .i64) _ 3 ?hg (N := 5) ?hd (xs := ([] : List Int)) (inner := []) (ok := fun _ => True) (okp := fun _ => True) ?hr ?hp (fun _ hk => hk) trivial (Below.refl _ _) (Nat.le_refl _) (by simp) ?_; (case hd => rfl); (case hg => rfl); (case hr => first | (go_simp; done) | (go_simp; rfl)); (case hp => exact (Reps.none _ _)); intro v102 w3 ho4 hb hg_ hnew_; clear hg_ hnew_; (first | rw [← Ny101.out] at ho4 | (simp only [Int.reduceToNat] at ho4; rw [← Ny101.out] at ho4)); have Q00 := Aside0.mk (Kd.R_lower ho4 (below_size hB)); replace HB := uH HB hb; clear hb ho4) | ((with_reducible refine gate_builtin (b := .append) (xs := #[.tmp 5, .tmp 6]) rfl ?_); at_builtin; refine Kd.R_append_rows (Kd.int .i64) (w0 := w) w.heap.size rfl (.tmp 5) (.tmp 6) 22 3 (.int .i64 0) 8 rfl Try.underlying22 info3 rfl (by decide) (by omega) v102 y101 l0 _ _ _ (fun _ => True) (fun _ => False) rfl rfl ?aO ?aR (fun _ _ h => h) (fun _ h => h.elim) ?aF ?aB ?aS ?aL ?_; (case aR => exact cX (cB HR0.out HB.out)); (case aB => exact hB); (case aF => exact (fun _ _ => trivial)); (case aO => exact (pR Q00)); (case aS => exact (below_size hB)); (case aL => have := LMc2.out; omega); intro v105 w5 ho hb hg hat; rw [← Ny104.out] at ho; replace HB := Aside0.mk (hb); have Q01 := Aside0.mk (ho); clear Q00; clear ho hb hg hat))
  go_ret
  exact ⟨_, by first | rfl | (simp [errW_none, errW_some] <;> rfl) | (simp [*, errW_none, errW_some] <;> rfl), by (with_reducible repeat (first | apply rA | apply rN | apply rD)); exact Q01.out, by repeat (first | (with_reducible first | exact HB.out | apply wA | apply wN | apply wD) | exact HB.out)⟩
 ·rw [if_neg c2] at H
  exact absurd H (by simp)
set_option maxHeartbeats 8000000 in
set_option maxRecDepth 100000 in
theorem slices_Clone_int_int.calls (A0 : Option Addr) (c0 : Nat) (l0 : List Int) (r : List Int) (w : World) (hr0 : Kd.C (Kd.int .i64) w A0 l0.length l0) (hc0 : l0.length ≤ c0) (h : slices_Clone_int_int.f l0 = some r) :
  Calls Try.prog 88 #[.slice A0 l0.length c0] w fun e w' => ∃ v0_ : Value, e = .returned (v0_) ∧ Kd.R (Kd.int .i64) 3 w' w.heap.size (fun _ => True) v0_ r ∧ Below w.heap.size w w' := by
 cases A0 with
 | some ad0 => exact slices_Clone_int_int.calls_some ad0 c0 l0 r w hr0 hc0 h
 | none =>
  obtain rfl : l0 = [] := Kd_C_none88 hr0
  obtain rfl : r = [] := by
   have h' := h
   simp [slices_Clone_int_int.f] at h'
   first | exact h'.symm | exact h'
  clear h hr0
  have hnil_ : ∀ w : World, (binOp .eql 22 (.slice none 0 c0) (.slice none 0 0)).run Try.prog w = .ok (.bool true) w := fun w => Lib.run_eql_slice_nil w 22 3 none _ _ _ _ Try.underlying22
  go_enter Try.func88, Try.ntmps88
  go_wp2
  go_ret
  exact ⟨_, rfl, Kd.R_nil _ _ _ _ _, Below.refl _ _⟩
end Go.Proofs.Ytillofiphkmjjaa.X

/- The library's contracts of slices.Sort and slices.Compact at []int, laid at this dump by the kit's tool (its plain text). -/
namespace Go.Proofs.Ytillofiphkmjjaa.X
open Go.Shelf
def sh_lays189_ren : Go.Shelf.Ren := ⟨fun | 189 => 89 | 125 => 94 | 257 => 93 | 128 => 104 | 129 => 105 | 294 => 95 | 295 => 96 | 296 => 97 | 297 => 98 | 298 => 99 | 299 => 100 | 216 => 101 | 300 => 102 | 301 => 103 | 328 => 106 | 329 => 107 | 330 => 108 | 331 => 109 | 332 => 110 | 215 => 111 | 343 => 112 | n => n, fun | 28 => 22 | 3 => 3 | 46 => 126 | 0 => 0 | 51 => 136 | 53 => 138 | 4 => 4 | 183 => 129 | 182 => 128 | 131 => 133 | 5 => 5 | 9 => 9 | 218 => 139 | 222 => 143 | 228 => 145 | 229 => 146 | n => n, fun | n => n⟩
theorem sh_lays189 : Go.Proofs.Lays.n189 Try.prog sh_lays189_ren := {
  mixed := by kernel_rfl
  f125 := Try.func94.trans (congrArg some (by kernel_rfl))
  f128 := Try.func104.trans (congrArg some (by kernel_rfl))
  f129 := Try.func105.trans (congrArg some (by kernel_rfl))
  f189 := Try.func89.trans (congrArg some (by kernel_rfl))
  f215 := Try.func111.trans (congrArg some (by kernel_rfl))
  f216 := Try.func101.trans (congrArg some (by kernel_rfl))
  f257 := Try.func93.trans (congrArg some (by kernel_rfl))
  f294 := Try.func95.trans (congrArg some (by kernel_rfl))
  f295 := Try.func96.trans (congrArg some (by kernel_rfl))
  f296 := Try.func97.trans (congrArg some (by kernel_rfl))
  f297 := Try.func98.trans (congrArg some (by kernel_rfl))
  f298 := Try.func99.trans (congrArg some (by kernel_rfl))
  f299 := Try.func100.trans (congrArg some (by kernel_rfl))
  f300 := Try.func102.trans (congrArg some (by kernel_rfl))
  f301 := Try.func103.trans (congrArg some (by kernel_rfl))
  f328 := Try.func106.trans (congrArg some (by kernel_rfl))
  f329 := Try.func107.trans (congrArg some (by kernel_rfl))
  f330 := Try.func108.trans (congrArg some (by kernel_rfl))
  f331 := Try.func109.trans (congrArg some (by kernel_rfl))
  f332 := Try.func110.trans (congrArg some (by kernel_rfl))
  f343 := Try.func112.trans (congrArg some (by kernel_rfl))
  t0 := Try.underlying0
  a0 := Try.isAgg0
  z0 := Try.sizeOf0
  v0 := Try.zeroValue0
  t3 := Try.underlying3
  a3 := Try.isAgg3
  z3 := Try.sizeOf3
  v3 := Try.zeroValue3
  t4 := Try.underlying4
  a4 := Try.isAgg4
  z4 := Try.sizeOf4
  v4 := Try.zeroValue4
  t5 := Try.underlying5
  a5 := Try.isAgg5
  z5 := Try.sizeOf5
  v5 := Try.zeroValue5
  t9 := Try.underlying9
  a9 := Try.isAgg9
  z9 := Try.sizeOf9
  v9 := Try.zeroValue9
  t28 := Try.underlying22
  a28 := Try.isAgg22
  z28 := Try.sizeOf22
  v28 := Try.zeroValue22
  t46 := Try.underlying126
  a46 := Try.isAgg126
  z46 := Try.sizeOf126
  v46 := Try.zeroValue126
  t51 := Try.underlying136
  a51 := Try.isAgg136
  z51 := Try.sizeOf136
  v51 := Try.zeroValue136
  t53 := Try.underlying138
  a53 := Try.isAgg138
  z53 := Try.sizeOf138
  v53 := Try.zeroValue138
  t131 := Try.underlying133
  a131 := Try.isAgg133
  z131 := Try.sizeOf133
  v131 := Try.zeroValue133
  t182 := Try.underlying128
  a182 := Try.isAgg128
  z182 := Try.sizeOf128
  v182 := Try.zeroValue128
  t183 := Try.underlying129
  a183 := Try.isAgg129
  z183 := Try.sizeOf129
  v183 := Try.zeroValue129
  t218 := Try.underlying139
  a218 := Try.isAgg139
  z218 := Try.sizeOf139
  v218 := Try.zeroValue139
  t222 := Try.underlying143
  a222 := Try.isAgg143
  z222 := Try.sizeOf143
  v222 := Try.zeroValue143
  t228 := Try.underlying145
  a228 := Try.isAgg145
  z228 := Try.sizeOf145
  v228 := Try.zeroValue145
  t229 := Try.underlying146
  a229 := Try.isAgg146
  z229 := Try.sizeOf146
  v229 := Try.zeroValue146 }
open Go.Sort Go.RowKit in
theorem sh_slices_Sort_int (blk off cap : Nat) (zs : List Int) (w : World) (hH : Holds (Value.int .i64) w blk off zs.toArray) (hblk : blk < w.heap.size) (hsz : zs.length < 4611686018427387904) :
    Calls Try.prog 89 #[.slice (some ⟨blk, off, none⟩) zs.length cap] w fun e w' =>
      e = .returned (.tuple #[]) ∧ ∃ n os, w' = grow (putRow (Value.int .i64) (Sort.ahead w n) blk off (zs.mergeSort fun x y => decide (x ≤ y)).toArray) os := Any.slices_Sort_int sh_lays189 blk off cap zs w hH hblk hsz
def sh_laysNm220_ren : Go.Shelf.Ren := ⟨fun | 20 => 90 | n => n, fun | 22 => 22 | 3 => 3 | 4 => 4 | 0 => 0 | n => n, fun | n => n⟩
theorem sh_laysNm220 : Go.Proofs.Lays2.n20 Try.prog sh_laysNm220_ren := {
  mixed := by kernel_rfl
  f20 := Try.func90.trans (congrArg some (by kernel_rfl))
  t0 := Try.underlying0
  a0 := Try.isAgg0
  z0 := Try.sizeOf0
  v0 := Try.zeroValue0
  t3 := Try.underlying3
  a3 := Try.isAgg3
  z3 := Try.sizeOf3
  v3 := Try.zeroValue3
  t4 := Try.underlying4
  a4 := Try.isAgg4
  z4 := Try.sizeOf4
  v4 := Try.zeroValue4
  t22 := Try.underlying22
  a22 := Try.isAgg22
  z22 := Try.sizeOf22
  v22 := Try.zeroValue22
  i3 := by kernel_rfl }
open Go.RowKit Go.Lib Go.Sort in
/-- slices.Compact at []int: "Compact replaces consecutive runs of equal elements with a single copy. This is like the uniq command found on Unix. Compact modifies the contents of the slice s and returns the modified slice, which may have a smaller length. Compact zeroes the elements between the new length and the original length. The result preserves the nilness of s.": IT RETURNS THE SLICE CUT TO 'Lib.compact zs'; ITS CELLS HOLD 'Lib.compact zs', THEN ZERO VALUES up to the old length; all else is as it was, but for the count of draws. IN THE WORDS OF slices.Sort's CONTRACT ('Holds', 'putRow'): so the everyday 'slices.Sort(xs); xs = slices.Compact(xs)' goes from the one contract to the other. It asks 'zs.length ≤ cap' (every slice's: the reslicing 's[:k]' looks at it). Length 0, nil: '.._empty'. (LAID: no walk: one application.) -/
theorem sh_slices_Compact_int (blk off cap : Nat) (zs : List Int) (w : World) (hH : Holds (Value.int .i64) w blk off zs.toArray) (hsz : zs.length ≤ 9223372036854775807) (hcap : zs.length ≤ cap) :
    Calls Try.prog 90 #[.slice (some ⟨blk, off, none⟩) zs.length cap] w fun e w' => e = .returned (.slice (some ⟨blk, off, none⟩) (Lib.compact zs).length cap) ∧ ∃ q, w' = putRow (Value.int .i64) (Sort.ahead w q) blk off (Lib.compact zs ++ List.replicate (zs.length - (Lib.compact zs).length) 0).toArray := Any.slices_Compact_int sh_laysNm220 blk off cap zs w hH hsz hcap
open Go.RowKit Go.Lib Go.Sort in
/-- The same at a slice of length 0, a nil one too: it comes back as it is. (LAID: no walk: one application.) -/
theorem sh_slices_Compact_int_empty (a : Option Addr) (cap : Nat) (w : World) :
    Calls Try.prog 90 #[.slice a 0 cap] w fun e w' => e = .returned (.slice a 0 cap) ∧ w' = w := Any.slices_Compact_int_empty sh_laysNm220 a cap w
open Go.RowKit Go.Sort in
/-- .. and plain. (LAID: no walk: one application.) -/
theorem sh_slices_Sort_int_none (p : Option Addr) (cap : Nat) (w : World) :
    Calls Try.prog 89 #[.slice p 0 cap] w fun e w' => e = .returned (.tuple #[]) ∧ w' = w := Any.slices_Sort_int_none sh_lays189 p cap w
end Go.Proofs.Ytillofiphkmjjaa.X

/- morphism.images (75), walked by hand: how many different numbers a list has. -/
namespace Go.Proofs.Ytillofiphkmjjaa.X
open Go.RowKit Go.Proofs.YtillofiphkmjjaaW.PrintWords Go.Proofs.YtillofiphkmjjaaW.PrintLast Go.Proofs.YtillofiphkmjjaaW.PrintMore
open Go.Sort
set_option linter.unusedVariables false
set_option linter.unusedSimpArgs false
def sorted (l : List Int) : List Int := l.mergeSort fun x y => decide (x ≤ y)
def nd (l : List Int) : Int := ((Lib.compact (sorted l)).length : Int)
theorem nd_nil : nd [] = 0 := by unfold nd sorted; rw [List.mergeSort_nil]; rfl
theorem own_of_R {W : World} {base : Nat} {ok : Nat → Prop} {v : Value} {l : List Int} (h : Kd.R (Kd.int .i64) 3 W base ok v l) : W.ownsRow base 3 1 v l.length (l.map (Value.int .i64)) := by
 obtain ⟨-, inner, ho, h1, h2⟩ := h
 have e : inner = l.map (Value.int .i64) := by
  have hl : inner.length = l.length * 1 := h1
  apply List.ext_getElem?
  intro j
  by_cases hj : j < l.length
  ·have h3 : (inner.drop (j * 1)).take 1 = [.int .i64 l[j]] := h2 j l[j] (List.getElem?_eq_getElem hj)
   have h4 : inner[j]? = some (.int .i64 l[j]) := by
    have := congrArg (fun x => x[0]?) h3
    rw [Nat.mul_one] at this
    simpa [List.getElem?_take, List.getElem?_drop] using this
   rw [h4, List.getElem?_map, List.getElem?_eq_getElem hj]
   rfl
  ·rw [List.getElem?_eq_none (by omega), List.getElem?_eq_none (by rw [List.length_map]; omega)]
 rw [← e]
 exact ho
theorem grown_sorted {w : World} {g n : Nat} {os : Array Obj} (d : Array Int) : w.grownBy (grow (putRow (Value.int .i64) (Sort.ahead w n) g 0 d) os) (some g) := by
 refine ⟨rfl, rfl, rfl, by simp, fun k hk hne => ?_⟩
 rw [heap_grow_old _ _ (by simpa using hk)]
 have : g ≠ k := fun e => hne (by rw [e])
 simp [putRow, mapBlock, Sort.ahead, Array.getElem?_modify, this]
set_option maxHeartbeats 2000000 in
set_option maxRecDepth 100000 in
theorem images_calls (A : Option Addr) (c : Nat) (l : List Int) (w : World) (hr : Kd.C (Kd.int .i64) w A l.length l) (hc : l.length ≤ c) (hl : l.length ≤ 1000000) :
  Calls Try.prog 75 #[.slice A l.length c] w fun e w' => e = .returned (.int .i64 (nd l)) ∧ Below w.heap.size w w' := by
 have hcl := slices_Clone_int_int.calls A c l l w hr hc (by unfold slices_Clone_int_int.f; simp; omega)
 clear hr hc
 go_enter Try.func75, Try.ntmps75
 go_wp2_with fail
 refine hcl.mono ?_
 rintro e w1 ⟨v1, rfl, hR, hb⟩
 clear hcl
 have hown := own_of_R hR
 clear hR
 by_cases hnn : v1 = .slice none 0 0
 ·subst hnn
  have hl0 : l = [] := by
   rcases hown.2 with ⟨-, h⟩ | ⟨g, cap, cur, h, -⟩
   ·exact List.eq_nil_of_length_eq_zero h
   ·cases h
  subst hl0
  clear hown
  go_wp2_with fail
  refine (sh_slices_Sort_int_none none 0 w1).mono ?_
  rintro e w2 ⟨rfl, rfl⟩
  go_wp2_with fail
  refine (sh_slices_Compact_int_empty none 0 w2).mono ?_
  rintro e w3 ⟨rfl, rfl⟩
  go_wp2_with fail
  go_ret
  exact ⟨by rw [nd_nil]; rfl, hb⟩
 ·obtain ⟨g, cap, rfl, hbg, hgl, hncap, hcm, hlen, hH⟩ := Lib.holds_of_ownsRow hown hnn
  clear hown hnn
  have HB := Aside0.mk hb
  have X := Aside0.mk (And.intro hbg (And.intro hgl (And.intro hncap (And.intro hcm hH))))
  have HL := Aside0.mk hl
  clear hb hbg hgl hncap hcm hH hlen hl
  go_wp2_with fail
  refine (sh_slices_Sort_int g 0 cap l w1 X.out.2.2.2.2 X.out.2.1 (by have := HL.out; omega)).mono ?_
  rintro e w2 ⟨rfl, nn, os, h2⟩
  have hl2 : (l.mergeSort fun x y => decide (x ≤ y)).length = l.length := List.length_mergeSort l
  have hH2 : Holds (Value.int .i64) w2 g 0 (l.mergeSort fun x y => decide (x ≤ y)).toArray := by
   rw [h2]
   exact holds_grow _ _ os g 0 _ (by simpa [putRow, mapBlock, Sort.ahead] using X.out.2.1) (holds_putRow _ _ g 0 _ _ (holds_ahead _ w1 nn g 0 _ X.out.2.2.2.2) (by simp))
  have hb2 : Below w.heap.size w w2 := by
   rw [h2]
   exact HB.out.grown (grown_sorted _) HB.out.size (fun j hj => by cases hj; exact X.out.1)
  have H2 := Aside0.mk hH2
  have B2 := Aside0.mk hb2
  have L2 := Aside0.mk hl2
  clear h2 hH2 hb2 hl2
  go_wp2_with fail
  have hcomp := sh_slices_Compact_int g 0 cap (l.mergeSort fun x y => decide (x ≤ y)) w2 H2.out (by have := L2.out; have := HL.out; omega) (by have := L2.out; have := X.out.2.2.1; omega)
  rw [L2.out] at hcomp
  refine hcomp.mono ?_
  rintro e w3 ⟨rfl, q, h3⟩
  have hb3 : Below w.heap.size w w3 := by
   rw [h3]
   exact Lib.below_putRow B2.out X.out.1
  have B3 := Aside0.mk hb3
  clear h3 hb3 hcomp
  have hsn : ((Lib.compact (l.mergeSort fun x y => decide (x ≤ y))).length : Int) = nd l := rfl
  generalize Lib.compact (l.mergeSort fun x y => decide (x ≤ y)) = cl at hsn ⊢
  have HS := Aside0.mk hsn
  clear hsn
  go_wp2_with fail
  go_ret
  exact ⟨by rw [← HS.out]; rfl, B3.out⟩
end Go.Proofs.Ytillofiphkmjjaa.X

namespace Go.Proofs.Ytillofiphkmjjaa.X
open Go.RowKit Go.Proofs.YtillofiphkmjjaaW.PrintWords Go.Proofs.YtillofiphkmjjaaW.PrintLast Go.Proofs.YtillofiphkmjjaaW.PrintMore
open Go.Proofs.YtillofiphkmjjaaW.PrintWords renaming blk_drewN → bN, blk_drew → bD, blk_alloc → bA, below_alloc → wA, pw_below_drewN → wN, below_drew1 → wD, blk_below → bB, below_step → wS, blk_at → bT, blk_grown → bG
open Go.Proofs.YtillofiphkmjjaaW.PrintWords.Kd renaming R_alloc → rA, R_drewN → rN, R_drew → rD, R_below → rB, R_grown → rG, C_below → cB, C_alloc → cA, C_drewN → cN, C_drew → cD
attribute [local go_sem] max2_int min2_int max_two min_two max_three min_three max_four min_four
set_option linter.unusedVariables false
set_option linter.unusedSimpArgs false
/-! ### scarfjointref02_SameInts: function 46 -/
def scarfjointref02_SameInts.l0 : Nat → List Int → List Int → Int → Option (Bool)
 | 0, _, _, _ => none
 | k + 1, x0, x1, x5 => if x5 < (x0.length : Int) then (if 0 ≤ x5 then (if x5 < (x1.length : Int) then (if (rd x0 x5) = (rd x1 x5) then (scarfjointref02_SameInts.l0 k x0 x1 (wrap64 (x5 + 1))) else (some false)) else (none)) else (none)) else (some true)
def scarfjointref02_SameInts.f (k : Nat) (l0 : List Int) (l1 : List Int) : Option (Bool) := if (l0.length : Int) = (l1.length : Int) then (scarfjointref02_SameInts.l0 k l0 l1 0) else (some false)
theorem scarfjointref02_SameInts.mono_l : ∀ k, (∀ y0 y1 y2, LeO (scarfjointref02_SameInts.l0 k y0 y1 y2) (scarfjointref02_SameInts.l0 (k + 1) y0 y1 y2))
 | 0 => fun _ _ _ r h => by simp [scarfjointref02_SameInts.l0] at h
 | k + 1 => by
  have ih0 := scarfjointref02_SameInts.mono_l k
  ·intro y0 y1 y2
   unfold scarfjointref02_SameInts.l0
   repeat' first
   | (with_reducible exact ih0 _ _ _)
   | (with_reducible exact LeO.refl _)
   | (with_reducible exact LeO.none _)
   | (with_reducible refine LeO.ite ?_ ?_)
   | (with_reducible refine LeO.bind ?_ (fun _ => ?_))
   | exact ih0 _ _ _
   | exact LeO.none _
   | refine LeO.ite ?_ ?_
   | refine LeO.bind ?_ (fun _ => ?_)
theorem scarfjointref02_SameInts.mono : ∀ a0 a1 k, LeO (scarfjointref02_SameInts.f k a0 a1) (scarfjointref02_SameInts.f (k + 1) a0 a1) := by
 intro a0 a1 k
 have ih0 := scarfjointref02_SameInts.mono_l k
 unfold scarfjointref02_SameInts.f
 repeat' first
   | (with_reducible exact ih0 _ _ _)
   | (with_reducible exact LeO.refl _)
   | (with_reducible exact LeO.none _)
   | (with_reducible refine LeO.ite ?_ ?_)
   | (with_reducible refine LeO.bind ?_ (fun _ => ?_))
   | exact ih0 _ _ _
   | exact LeO.none _
   | refine LeO.ite ?_ ?_
   | refine LeO.bind ?_ (fun _ => ?_)
set_option maxHeartbeats 8000000 in
set_option maxRecDepth 100000 in
theorem scarfjointref02_SameInts.calls (k : Nat) (A0 : Option Addr) (c0 : Nat) (l0 : List Int) (A1 : Option Addr) (c1 : Nat) (l1 : List Int) (r : Bool) (w : World) (hr0 : Kd.C (Kd.int .i64) w A0 l0.length l0) (hc0 : l0.length ≤ c0) (hr1 : Kd.C (Kd.int .i64) w A1 l1.length l1) (hc1 : l1.length ≤ c1) (h : scarfjointref02_SameInts.f k l0 l1 = some r) :
  Calls Try.prog 46 #[.slice A0 l0.length c0, .slice A1 l1.length c1] w fun e w' => e = .returned (.bool r) ∧ Drawn0 w w' := by
 have HR0 := Aside0.mk hr0
 have HC0 := Aside0.mk hc0
 clear hr0 hc0
 have HR1 := Aside0.mk hr1
 have HC1 := Aside0.mk hc1
 clear hr1 hc1
 have H : (if (l0.length : Int) = (l1.length : Int) then (scarfjointref02_SameInts.l0 k l0 l1 0) else (some false)) = some r := h
 clear h
 by_cases c3 : (l0.length : Int) = (l1.length : Int)
 ·rw [if_pos c3] at H
  have c3b0 : ((l0.length : Int) == (l1.length : Int)) = true := beq_iff_eq.mpr c3
  have c3b1 : ((l0.length : Int) != (l1.length : Int)) = false := bne_eq_false_iff_eq.mpr c3
  have c3b2 : (l0.length == l1.length) = true := by first | simpa using c3 | (simp at c3 ⊢; omega)
  clear c3
  have H' := Aside0.mk H
  clear H
  go_enter Try.func46, Try.ntmps46
  go_wp2
  repeat (go_quiet (fail); try go_wp2)
  go_loopg [5] k (fun kq v5 w' => ∃ (x5_1 : Int), v5 = .int .i64 x5_1 ∧ Aside0 (scarfjointref02_SameInts.l0 kq l0 l1 x5_1 = some r) ∧ Aside0 (kq ≤ k) ∧ Drawn0 w w')
  case atStart => exact ⟨(0), rS, H', ⟨Nat.le_refl _⟩, by repeat (first | exact Drawn0.refl _ | apply Drawn0.step)⟩
  case round =>
   clear H'
   try clear c1; try clear p2; try clear c3; try clear c3b0; try clear c3b1; try clear c3b2
   obtain ⟨x5_1, rfl, HA, HK1, ⟨m1, rfl⟩⟩ := hrel
   cases gk with
   | zero => exact absurd HA.out (by simp [scarfjointref02_SameInts.l0])
   | succ k1 =>
    have H := HA.out
    clear HA
    simp only [scarfjointref02_SameInts.l0] at H
    by_cases c4 : x5_1 < (l0.length : Int)
    ·rw [if_pos c4] at H
     have c4b0 : decide (x5_1 < (l0.length : Int)) = true := decide_eq_true c4
     clear c4
     by_cases c5 : 0 ≤ x5_1
     ·rw [if_pos c5] at H
      have c5b0 : decide (0 ≤ x5_1) = true := decide_eq_true c5
      clear c5
      by_cases c6 : x5_1 < (l1.length : Int)
      ·rw [if_pos c6] at H
       have c6b0 : decide (x5_1 < (l1.length : Int)) = true := decide_eq_true c6
       clear c6
       by_cases c7 : (rd l0 x5_1) = (rd l1 x5_1)
       ·rw [if_pos c7] at H
        have c7b0 : ((rd l0 x5_1) == (rd l1 x5_1)) = true := beq_iff_eq.mpr c7
        have c7b1 : ((rd l0 x5_1) != (rd l1 x5_1)) = false := bne_eq_false_iff_eq.mpr c7
        clear c7
        have H' := Aside0.mk H
        clear H
        have p101 : 0 ≤ (x5_1 : Int) := oT
        have q101 : x5_1 < (l0.length : Int) := oT
        obtain ⟨ad101, e101, hx101_0⟩ := Kd.at_int HR0.out x5_1 p101 q101
        cases e101
        replace p101 := eq_true p101
        replace q101 := eq_true q101
        have p102 : 0 ≤ (x5_1 : Int) := oT
        have q102 : x5_1 < (l1.length : Int) := oT
        obtain ⟨ad102, e102, hx102_0⟩ := Kd.at_int HR1.out x5_1 p102 q102
        cases e102
        replace p102 := eq_true p102
        replace q102 := eq_true q102
        go_wp2
        repeat (go_quiet (fail); try go_wp2)
        go_roundg k1
        case measure => have := HK1.out; omega
        case rel => exact ⟨(wrap64 (x5_1 + 1)), rS, H', ⟨by have := HK1.out; omega⟩, by repeat (first | exact Drawn0.refl _ | apply Drawn0.step)⟩
       ·rw [if_neg c7] at H
        have c7b0 : ((rd l0 x5_1) == (rd l1 x5_1)) = false := beq_eq_false_iff_ne.mpr c7
        have c7b1 : ((rd l0 x5_1) != (rd l1 x5_1)) = true := bne_iff_ne.mpr c7
        obtain rfl := Option.some.inj H
        have p101 : 0 ≤ (x5_1 : Int) := oT
        have q101 : x5_1 < (l0.length : Int) := oT
        obtain ⟨ad101, e101, hx101_0⟩ := Kd.at_int HR0.out x5_1 p101 q101
        cases e101
        replace p101 := eq_true p101
        replace q101 := eq_true q101
        have p102 : 0 ≤ (x5_1 : Int) := oT
        have q102 : x5_1 < (l1.length : Int) := oT
        obtain ⟨ad102, e102, hx102_0⟩ := Kd.at_int HR1.out x5_1 p102 q102
        cases e102
        replace p102 := eq_true p102
        replace q102 := eq_true q102
        go_wp2
        repeat (go_quiet (fail); try go_wp2)
        go_ret
        exact ⟨by first | rfl | (simp; done) | (simp [*]; done), by repeat (first | exact Drawn0.refl _ | apply Drawn0.step)⟩
      ·rw [if_neg c6] at H
       exact absurd H (by simp)
     ·rw [if_neg c5] at H
      exact absurd H (by simp)
    ·rw [if_neg c4] at H
     have c4b0 : decide (x5_1 < (l0.length : Int)) = false := decide_eq_false c4
     clear c4
     obtain rfl := Option.some.inj H
     go_wp2
     repeat (go_quiet (fail); try go_wp2)
     go_ret
     exact ⟨by first | rfl | (simp; done) | (simp [*]; done), by repeat (first | exact Drawn0.refl _ | apply Drawn0.step)⟩
 ·rw [if_neg c3] at H
  have c3b0 : ((l0.length : Int) == (l1.length : Int)) = false := beq_eq_false_iff_ne.mpr c3
  have c3b1 : ((l0.length : Int) != (l1.length : Int)) = true := bne_iff_ne.mpr c3
  have c3b2 : (l0.length == l1.length) = false := by first | simpa using c3 | (simp at c3 ⊢; omega)
  obtain rfl := Option.some.inj H
  go_enter Try.func46, Try.ntmps46
  go_wp2
  repeat (go_quiet (fail); try go_wp2)
  go_ret
  exact ⟨by first | rfl | (simp; done) | (simp [*]; done), by repeat (first | exact Drawn0.refl _ | apply Drawn0.step)⟩
/-! ### scarfjointref06_Same: function 15 -/
def scarfjointref06_Same.f (k : Nat) (l0_0 : List Int) (l0_1 : List Int) (l1_0 : List Int) (l1_1 : List Int) : Option (Bool) := (scarfjointref02_SameInts.f k l0_0 l1_0).bind fun t103 => (if t103 = true then ((scarfjointref02_SameInts.f k l0_1 l1_1).bind fun t104 => (some t104)) else (some false))
theorem scarfjointref06_Same.mono : ∀ a0 a1 a2 a3 k, LeO (scarfjointref06_Same.f k a0 a1 a2 a3) (scarfjointref06_Same.f (k + 1) a0 a1 a2 a3) := by
 intro a0 a1 a2 a3 k
 unfold scarfjointref06_Same.f
 repeat' first
   | (with_reducible exact scarfjointref02_SameInts.mono _ _ _)
   | (with_reducible exact LeO.refl _)
   | (with_reducible exact LeO.none _)
   | (with_reducible refine LeO.ite ?_ ?_)
   | (with_reducible refine LeO.bind ?_ (fun _ => ?_))
   | exact scarfjointref02_SameInts.mono _ _ _
   | exact LeO.none _
   | refine LeO.ite ?_ ?_
   | refine LeO.bind ?_ (fun _ => ?_)
set_option maxHeartbeats 8000000 in
set_option maxRecDepth 100000 in
theorem scarfjointref06_Same.calls (k : Nat) (A0_0 : Option Addr) (c0_0 : Nat) (l0_0 : List Int) (A0_1 : Option Addr) (c0_1 : Nat) (l0_1 : List Int) (A1_0 : Option Addr) (c1_0 : Nat) (l1_0 : List Int) (A1_1 : Option Addr) (c1_1 : Nat) (l1_1 : List Int) (r : Bool) (w : World) (hr0_0 : Kd.C (Kd.int .i64) w A0_0 l0_0.length l0_0) (hc0_0 : l0_0.length ≤ c0_0) (hr0_1 : Kd.C (Kd.int .i64) w A0_1 l0_1.length l0_1) (hc0_1 : l0_1.length ≤ c0_1) (hr1_0 : Kd.C (Kd.int .i64) w A1_0 l1_0.length l1_0) (hc1_0 : l1_0.length ≤ c1_0) (hr1_1 : Kd.C (Kd.int .i64) w A1_1 l1_1.length l1_1) (hc1_1 : l1_1.length ≤ c1_1) (h : scarfjointref06_Same.f k l0_0 l0_1 l1_0 l1_1 = some r) :
  Calls Try.prog 15 #[.agg #[.slice A0_0 l0_0.length c0_0, .slice A0_1 l0_1.length c0_1], .agg #[.slice A1_0 l1_0.length c1_0, .slice A1_1 l1_1.length c1_1]] w fun e w' => e = .returned (.bool r) ∧ Below w.heap.size w w' := by
 have hu27 := Try.underlying27
 have HR0_0 := Aside0.mk hr0_0
 have HC0_0 := Aside0.mk hc0_0
 clear hr0_0 hc0_0
 have HR0_1 := Aside0.mk hr0_1
 have HC0_1 := Aside0.mk hc0_1
 clear hr0_1 hc0_1
 have HR1_0 := Aside0.mk hr1_0
 have HC1_0 := Aside0.mk hc1_0
 clear hr1_0 hc1_0
 have HR1_1 := Aside0.mk hr1_1
 have HC1_1 := Aside0.mk hc1_1
 clear hr1_1 hc1_1
 have HB := Aside0.mk (Below.refl w.heap.size w)
 have H : ((scarfjointref02_SameInts.f k l0_0 l1_0).bind fun t103 => (if t103 = true then ((scarfjointref02_SameInts.f k l0_1 l1_1).bind fun t104 => (some t104)) else (some false))) = some r := h
 clear h
 replace H := Option.bind_eq_some_iff.mp H
 obtain ⟨t103, A30, H⟩ := H
 replace H : (if t103 = true then ((scarfjointref02_SameInts.f k l0_1 l1_1).bind fun t104 => (some t104)) else (some false)) = some r := H
 have A3 := Aside0.mk A30
 clear A30
 by_cases c4 : t103 = true
 ·subst c4
  have H1 : ((scarfjointref02_SameInts.f k l0_1 l1_1).bind fun t104 => (some t104)) = some r := by rw [if_pos rfl] at H; exact H
  clear H
  have H := H1
  clear H1
  replace H := Option.bind_eq_some_iff.mp H
  obtain ⟨t104, A50, H⟩ := H
  replace H : (some t104) = some r := H
  have A5 := Aside0.mk A50
  clear A50
  obtain rfl := Option.some.inj H
  go_enter Try.func15, Try.ntmps15
  go_wp2_with (first | ((with_reducible refine gate_dst (N := 2) rfl ?_); refine box_event ?hg (N := 2) ?hd (cs := #[.slice A0_0 l0_0.length c0_0, .slice A0_1 l0_1.length c0_1]) (t := 27) ?hr ?_; (case hd => rfl); (case hg => rfl); (case hr => first | (go_simp; done) | (go_simp; rfl)); intro Q01 hg w6 hbox hb; have Q00 := Aside0.mk (hbox); have Q08 := Aside0.mk ((by rw [hg]; exact (below_size hB) : w.heap.size ≤ Q01)); have Q04 := Aside0.mk ((by rw [hg]; exact (below_size hB) : w.heap.size ≤ Q01)); replace HB := uH HB hb; clear hb hbox hg) | ((with_reducible refine gate_dst (N := 3) rfl ?_); refine box_event ?hg (N := 3) ?hd (cs := #[.slice A1_0 l1_0.length c1_0, .slice A1_1 l1_1.length c1_1]) (t := 27) ?hr ?_; (case hd => rfl); (case hg => rfl); (case hr => first | (go_simp; done) | (go_simp; rfl)); intro Q03 hg w7 hbox hb; have Q02 := Aside0.mk (hbox); have Q09 := uS HB hg; have Q05 := uS HB hg; replace HB := uH HB hb; have Q06 := uL Q00 hg; have Q07 := uG Q00 hg; replace Q00 := uB Q00 hb; clear hb hbox hg; have Q0a := Q06.out; have Q0b := Q07.out; have Q0c : w7.cell? ⟨Q01, 0, none⟩ = some (.slice A0_0 l0_0.length c0_0) := bC Q00 0; have Q0d : w7.cell? ⟨Q01, 1, none⟩ = some (.slice A0_1 l0_1.length c0_1) := bC Q00 1; have Q0e := blk_frozen Q00.out 0; have Q0f := blk_frozen Q00.out 1; have Q0g : w7.cell? ⟨Q03, 0, none⟩ = some (.slice A1_0 l1_0.length c1_0) := bC Q02 0; have Q0h : w7.cell? ⟨Q03, 1, none⟩ = some (.slice A1_1 l1_1.length c1_1) := bC Q02 1; have Q0i := blk_frozen Q02.out 0; have Q0j := blk_frozen Q02.out 1) | ((with_reducible refine gate_callee (f := 46) rfl ?_); refine goesL_ (some 9) rfl rfl Try.func46 (by kernel_rfl) rfl #[.slice A0_0 l0_0.length c0_0, .slice A1_0 l1_0.length c1_0] rfl aM ?_; (with_reducible refine (scarfjointref02_SameInts.calls k _ _ l0_0 _ _ l1_0 true _ ?side1 ?side2 ?side3 ?side4 A3.out).mono ?_); (case side1 => exact cX (cB HR0_0.out HB.out)); (case side2 => exact HC0_0.out); (case side3 => exact cX (cB HR1_0.out HB.out)); (case side4 => exact HC1_0.out); rintro e w' ⟨rfl, ⟨nd, rfl⟩⟩; refine ⟨_, rfl, ?_⟩) | (go_at_call 46; (with_reducible refine (scarfjointref02_SameInts.calls k _ _ l0_1 _ _ l1_1 t104 _ ?side1 ?side2 ?side3 ?side4 A5.out).mono ?_); (case side1 => repeat (first | exact (cB HR0_1.out (pH HB)) | (with_reducible refine cA ?_ _) | (with_reducible refine cN ?_ _) | (with_reducible refine cD ?_))); (case side2 => exact HC0_1.out); (case side3 => repeat (first | exact (cB HR1_1.out (pH HB)) | (with_reducible refine cA ?_ _) | (with_reducible refine cN ?_ _) | (with_reducible refine cD ?_))); (case side4 => exact HC1_1.out); rintro e w' ⟨rfl, ⟨nd, rfl⟩⟩))
  go_ret
  exact ⟨by first | rfl | (simp [errW_none, errW_some] <;> rfl) | (simp [*, errW_none, errW_some] <;> rfl), by repeat (first | (with_reducible first | exact HB.out | apply wA | apply wN | apply wD | refine below_set ?_ Q04.out | refine below_set ?_ Q05.out) | exact HB.out)⟩
 ·replace c4 := Bool.eq_false_iff.mpr c4
  subst c4
  have H1 : (some false) = some r := by rw [if_neg (show ¬ (false = true) by decide)] at H; exact H
  clear H
  have H := H1
  clear H1
  obtain rfl := Option.some.inj H
  go_enter Try.func15, Try.ntmps15
  go_wp2_with (first | ((with_reducible refine gate_dst (N := 2) rfl ?_); refine box_event ?hg (N := 2) ?hd (cs := #[.slice A0_0 l0_0.length c0_0, .slice A0_1 l0_1.length c0_1]) (t := 27) ?hr ?_; (case hd => rfl); (case hg => rfl); (case hr => first | (go_simp; done) | (go_simp; rfl)); intro Q01 hg w11 hbox hb; have Q00 := Aside0.mk (hbox); have Q08 := Aside0.mk ((by rw [hg]; exact (below_size hB) : w.heap.size ≤ Q01)); have Q04 := Aside0.mk ((by rw [hg]; exact (below_size hB) : w.heap.size ≤ Q01)); replace HB := uH HB hb; clear hb hbox hg) | ((with_reducible refine gate_dst (N := 3) rfl ?_); refine box_event ?hg (N := 3) ?hd (cs := #[.slice A1_0 l1_0.length c1_0, .slice A1_1 l1_1.length c1_1]) (t := 27) ?hr ?_; (case hd => rfl); (case hg => rfl); (case hr => first | (go_simp; done) | (go_simp; rfl)); intro Q03 hg w12 hbox hb; have Q02 := Aside0.mk (hbox); have Q09 := uS HB hg; have Q05 := uS HB hg; replace HB := uH HB hb; have Q06 := uL Q00 hg; have Q07 := uG Q00 hg; replace Q00 := uB Q00 hb; clear hb hbox hg; have Q0k := Q06.out; have Q0l := Q07.out; have Q0m : w12.cell? ⟨Q01, 0, none⟩ = some (.slice A0_0 l0_0.length c0_0) := bC Q00 0; have Q0n : w12.cell? ⟨Q01, 1, none⟩ = some (.slice A0_1 l0_1.length c0_1) := bC Q00 1; have Q0o := blk_frozen Q00.out 0; have Q0p := blk_frozen Q00.out 1; have Q0q : w12.cell? ⟨Q03, 0, none⟩ = some (.slice A1_0 l1_0.length c1_0) := bC Q02 0; have Q0r : w12.cell? ⟨Q03, 1, none⟩ = some (.slice A1_1 l1_1.length c1_1) := bC Q02 1; have Q0s := blk_frozen Q02.out 0; have Q0t := blk_frozen Q02.out 1) | ((with_reducible refine gate_callee (f := 46) rfl ?_); refine goesL_ (some 9) rfl rfl Try.func46 (by kernel_rfl) rfl #[.slice A0_0 l0_0.length c0_0, .slice A1_0 l1_0.length c1_0] rfl aM ?_; (with_reducible refine (scarfjointref02_SameInts.calls k _ _ l0_0 _ _ l1_0 false _ ?side1 ?side2 ?side3 ?side4 A3.out).mono ?_); (case side1 => exact cX (cB HR0_0.out HB.out)); (case side2 => exact HC0_0.out); (case side3 => exact cX (cB HR1_0.out HB.out)); (case side4 => exact HC1_0.out); rintro e w' ⟨rfl, ⟨nd, rfl⟩⟩; refine ⟨_, rfl, ?_⟩))
  go_ret
  exact ⟨by first | rfl | (simp [errW_none, errW_some] <;> rfl) | (simp [*, errW_none, errW_some] <;> rfl), by repeat (first | (with_reducible first | exact HB.out | apply wA | apply wN | apply wD | refine below_set ?_ Q04.out | refine below_set ?_ Q05.out) | exact HB.out)⟩
end Go.Proofs.Ytillofiphkmjjaa.X

/- Plain laws: the standard pullback is a pullback. -/
namespace Go.Proofs.Ytillofiphkmjjaa.Pl
open Go.RowKit Go.Proofs.YtillofiphkmjjaaW.PrintWords Go.Proofs.Ytillofiphkmjjaa.X
set_option linter.unusedVariables false
theorem sorted_perm (l : List Int) : (sorted l).Perm l := List.mergeSort_perm l _
theorem nd_nodup {l : List Int} (h : l.Nodup) : nd l = (l.length : Int) := by
 have hn : (sorted l).Nodup := (sorted_perm l).nodup_iff.mpr h
 have hl : (sorted l).length = l.length := (sorted_perm l).length_eq
 unfold nd
 rw [Lib.compact_all, hl]
 intro j hj
 cases j with
 | zero => exact Lib.keeps_lt_one _ 0 (by omega)
 | succ j =>
  refine Lib.keeps_pos (fun e => ?_)
  have e' : (sorted l)[j + 1] = (sorted l)[j]'(by omega) := by
   have h1 : (sorted l).toArray[j + 1]! = (sorted l)[j + 1] := by simp [hj]
   have h2 : (sorted l).toArray[j + 1 - 1]! = (sorted l)[j]'(by omega) := by simp [show j < (sorted l).length by omega]
   rw [← h1, ← h2]
   exact e
  exact List.pairwise_iff_getElem.mp hn j (j + 1) (by omega) hj (by omega) e'.symm
def meets (P : List S79) : List Int → List Int → Option (List Int)
 | a :: h, b :: k => if plc 0 P a b < 0 then none else (meets P h k).map (plc 0 P a b :: ·)
 | _, _ => some []
theorem meet_l0 (P : List S79) (hP : P.length ≤ 1000000) (h m : List Int) (hl : h.length ≤ 1000000) : ∀ (r pre s pre' acc : List Int), h = pre ++ r → m = pre' ++ s → pre.length = pre'.length → r.length = s.length → acc.length = pre.length →
  Ev (fun k => pullback_meet.l0 k P h m acc (h.length : Int) (pre.length : Int)) (match meets P r s with | some l => (acc ++ l, true) | none => ([], false)) := by
 intro r
 induction r with
 | nil =>
  rintro pre s pre' acc rfl rfl h1 h2 h3
  refine Ev.step (fun k => by simp only [pullback_meet.l0]; rw [if_neg (by simp)]) ?_
  simpa [meets] using Ev.now (acc, true)
 | cons x r ih =>
  rintro pre s pre' acc rfl rfl h1 h2 h3
  cases s with
  | nil => simp at h2
  | cons y s =>
   simp at hl
   have e : wrap64 ((pre.length : Int) + 1) = ((pre ++ [x]).length : Int) := wrap_mid pre x r (by simp; omega)
   refine Ev.step (fun k => by simp only [pullback_meet.l0]; rw [if_pos (lt_mid pre x r), if_pos (by omega), if_pos (lt_mid pre x r), if_pos (lt_mid' pre' y s h1), rd_mid, rd_mid' _ _ _ h1]) ?_
   refine Ev.bind (index_ev P _ _ (by omega)) ?_
   rw [meets]
   by_cases hc : plc 0 P x y < 0
   ·simp only [if_pos hc]
    exact Ev.now _
   ·simp only [if_neg hc, if_pos (show acc.length < 17592186044416 by omega), e]
    have ih' := ih (pre ++ [x]) s (pre' ++ [y]) (acc ++ [plc 0 P x y]) (snoc_mid pre x r) (snoc_mid pre' y s) (by simp [h1]) (by simpa using h2) (by simp [h3])
    cases hm : meets P r s with
    | none => rw [hm] at ih'; exact ih'
    | some l => rw [hm] at ih'; simpa using ih'
theorem meet_ev (P : List S79) (hP : P.length ≤ 1000000) (h m : List Int) (hl : h.length ≤ 1000000) (e : h.length = m.length) : Ev (fun k => pullback_meet.f k P h m) (match meets P h m with | some l => (l, true) | none => ([], false)) := by
 unfold pullback_meet.f
 simpa using meet_l0 P hP h m hl h [] m [] [] rfl rfl rfl e rfl
section
variable (x0 : List Int) (x1 : List S94) (x2 : List Int) (x3 : List S94) (x4 : List Int) (x5 : List S94) (x6 x7 x8 x9 : List Int) (y0 : List Int) (y1 : List S94) (h0 h1 k0 k1 : List Int)
def fine (P Q : List S79) (h0 h1 k0 k1 : List Int) : List Int × List Int × Int :=
 match meets P h0 k0, meets Q h1 k1 with
 | some a, some b => (a, b, 0)
 | _, _ => ([], [], 11)
def medR : List Int × List Int × Int :=
 if (ofR x0 x1 x2 x3 x4 x5 x6 x7 x8 x9).2.2.2.2 = 0 then (if mvalid y0 y1 x0 x1 h0 h1 = 0 then (if mvalid y0 y1 x2 x3 k0 k1 = 0 then fine (ofR x0 x1 x2 x3 x4 x5 x6 x7 x8 x9).1 (ofR x0 x1 x2 x3 x4 x5 x6 x7 x8 x9).2.1 h0 h1 k0 k1 else ([], [], mvalid y0 y1 x2 x3 k0 k1)) else ([], [], mvalid y0 y1 x0 x1 h0 h1))
 else ([], [], (ofR x0 x1 x2 x3 x4 x5 x6 x7 x8 x9).2.2.2.2)
theorem gmed_ev : Ev (fun k => medF k x0 x1 x2 x3 x4 x5 x6 x7 x8 x9 y0 y1 h0 h1 k0 k1) (medR x0 x1 x2 x3 x4 x5 x6 x7 x8 x9 y0 y1 h0 h1 k0 k1) := by
 unfold medF medR
 refine Ev.bind (gof_ev x0 x1 x2 x3 x4 x5 x6 x7 x8 x9) ?_
 obtain ⟨l1, l2, -⟩ := ofR_len x0 x1 x2 x3 x4 x5 x6 x7 x8 x9
 by_cases h : (ofR x0 x1 x2 x3 x4 x5 x6 x7 x8 x9).2.2.2.2 = 0
 ·simp only [if_pos h]
  by_cases hv : mvalid y0 y1 x0 x1 h0 h1 = 0
  ·simp only [if_pos hv]
   by_cases hu : mvalid y0 y1 x2 x3 k0 k1 = 0
   ·simp only [if_pos hu]
    obtain ⟨-, -, a1, a2, a3, a4⟩ := mvalid_len hv
    obtain ⟨-, -, b1, b2, -, -⟩ := mvalid_len hu
    refine Ev.bind (meet_ev _ (by omega) h0 k0 (by omega) (by omega)) (Ev.bind (meet_ev _ (by omega) h1 k1 (by omega) (by omega)) ?_)
    unfold fine
    cases meets (ofR x0 x1 x2 x3 x4 x5 x6 x7 x8 x9).1 h0 k0 with
    | none => exact Ev.now _
    | some a =>
     cases meets (ofR x0 x1 x2 x3 x4 x5 x6 x7 x8 x9).2.1 h1 k1 with
     | none => exact Ev.now _
     | some b => exact Ev.now _
   ·simp only [if_neg hu]
    exact Ev.now _
  ·simp only [if_neg hv]
   exact Ev.now _
 ·simp only [if_neg h]
  exact Ev.now _
end
/-! the mediating morphism of the standard pullback itself -/
def iota : Nat → Nat → List Int
 | _, 0 => []
 | i, n + 1 => (i : Int) :: iota (i + 1) n
theorem iota_len : ∀ (n i : Nat), (iota i n).length = n := by
 intro n
 induction n with
 | zero => intro i; rfl
 | succ n ih => intro i; simp [iota, ih]
theorem iota_rd : ∀ (n i j : Nat), j < n → rd (iota i n) (j : Int) = ((i + j : Nat) : Int) := by
 intro n
 induction n with
 | zero => intro i j h; omega
 | succ n ih =>
  intro i j h
  cases j with
  | zero =>
   show rd ((i : Int) :: iota (i + 1) n) ((0 : Nat) : Int) = _
   rw [rd_cons_zero]
   simp
  | succ j =>
   rw [iota, rd_cons_succ, ih (i + 1) j (by omega)]
   omega
theorem iota_mem : ∀ (n i : Nat) (x : Int), x ∈ iota i n → (i : Int) ≤ x := by
 intro n
 induction n with
 | zero => intro i x h; simp [iota] at h
 | succ n ih =>
  intro i x h
  rw [iota] at h
  rcases List.mem_cons.mp h with rfl | h
  ·omega
  ·have := ih (i + 1) x h
   omega
theorem iota_nodup : ∀ (n i : Nat), (iota i n).Nodup := by
 intro n
 induction n with
 | zero => intro i; simp [iota]
 | succ n ih =>
  intro i
  rw [iota, List.nodup_cons]
  refine ⟨fun h => ?_, ih _⟩
  have := iota_mem n (i + 1) _ h
  omega
theorem meets_self {P : List S79} (hd : P.Nodup) : ∀ (r pre : List S79), P = pre ++ r → meets P (r.map S79.f0) (r.map S79.f1) = some (iota pre.length r.length) := by
 intro r
 induction r with
 | nil => intro pre h; rfl
 | cons p r ih =>
  intro pre h
  have hj : pre.length < P.length := by rw [h]; simp
  have hp : rd_T79 P (pre.length : Int) = p := by rw [h]; exact rd79_mid pre p r
  have e := plc_self hd pre.length hj
  rw [hp] at e
  have ih' := ih (pre ++ [p]) (by rw [h]; exact snoc_mid pre p r)
  rw [List.map_cons, List.map_cons, meets, e, if_neg (by omega), ih', List.length_cons, iota]
  simp
theorem rd_map79 (f : S79 → Int) (P : List S79) (i : Int) (h0 : 0 ≤ i) (h1 : i < (P.length : Int)) : rd (P.map f) i = f (rd_T79 P i) := by
 obtain ⟨j, rfl⟩ : ∃ j : Nat, i = (j : Int) := ⟨i.toNat, by omega⟩
 rw [rd_get _ _ (by rw [List.length_map]; omega), rd79_get _ _ (by omega), List.getElem_map]
theorem rd_map94 (f : S79 → S94) (P : List S79) (i : Int) (h0 : 0 ≤ i) (h1 : i < (P.length : Int)) : rd_T94 (P.map f) i = f (rd_T79 P i) := by
 obtain ⟨j, rfl⟩ : ∃ j : Nat, i = (j : Int) := ⟨i.toNat, by omega⟩
 rw [rd94_get _ _ (by rw [List.length_map]; omega), rd79_get _ _ (by omega), List.getElem_map]
theorem rd94_mem (P : List S94) (i : Int) (h0 : 0 ≤ i) (h1 : i < (P.length : Int)) : rd_T94 P i ∈ P := by
 obtain ⟨j, rfl⟩ : ∃ j : Nat, i = (j : Int) := ⟨i.toNat, by omega⟩
 rw [rd94_get _ _ (by omega)]
 exact List.getElem_mem _
theorem rd_mem (P : List Int) (i : Int) (h0 : 0 ≤ i) (h1 : i < (P.length : Int)) : rd P i ∈ P := by
 obtain ⟨j, rfl⟩ : ∃ j : Nat, i = (j : Int) := ⟨i.toNat, by omega⟩
 rw [rd_get _ _ (by omega)]
 exact List.getElem_mem _
theorem edge_facts {a0 : List Int} {a1 : List S94} (h : validE a0 a1 = 0) (i : Int) (h0 : 0 ≤ i) (h1 : i < (a1.length : Int)) : kindB (rd_T94 a1 i).f0 = true ∧ 0 ≤ (rd_T94 a1 i).f1 ∧ (rd_T94 a1 i).f1 < (a0.length : Int) ∧ 0 ≤ (rd_T94 a1 i).f2 ∧ (rd_T94 a1 i).f2 < (a0.length : Int) := by
 obtain ⟨-, -, -, he⟩ := validE_iff.mp h
 have := he _ (rd94_mem a1 i h0 h1)
 unfold edgeB at this
 simp only [Bool.and_eq_true, decide_eq_true_eq] at this
 exact ⟨this.1, this.2.1.1, this.2.1.2, this.2.2.1, this.2.2.2⟩
theorem okN_int {a0 b0 n : List Int} (h : okN a0 b0 n) (i : Int) (h0 : 0 ≤ i) (h1 : i < (n.length : Int)) : 0 ≤ rd n i ∧ rd n i < (b0.length : Int) ∧ rd b0 (rd n i) = rd a0 i := by
 obtain ⟨j, rfl⟩ : ∃ j : Nat, i = (j : Int) := ⟨i.toNat, by omega⟩
 exact h j (by omega)
theorem okM_int {a1 b1 : List S94} {n m : List Int} (h : okM a1 b1 n m) (i : Int) (h0 : 0 ≤ i) (h1 : i < (m.length : Int)) : 0 ≤ rd m i ∧ rd m i < (b1.length : Int) ∧ (rd_T94 a1 i).f0 = (rd_T94 b1 (rd m i)).f0 ∧ rd n (rd_T94 a1 i).f1 = (rd_T94 b1 (rd m i)).f1 ∧ rd n (rd_T94 a1 i).f2 = (rd_T94 b1 (rd m i)).f2 := by
 obtain ⟨j, rfl⟩ : ∃ j : Nat, i = (j : Int) := ⟨i.toNat, by omega⟩
 exact h j (by omega)
section
variable {x0 : List Int} {x1 : List S94} {x2 : List Int} {x3 : List S94} {x4 : List Int} {x5 : List S94} {x6 x7 x8 x9 : List Int}
theorem ends_mem (m1 : mvalid x0 x1 x4 x5 x6 x7 = 0) (m2 : mvalid x2 x3 x4 x5 x8 x9 = 0) {q : S79} (hq : q ∈ rows x9 0 x7) :
  (⟨(rd_T94 x1 q.f0).f1, (rd_T94 x3 q.f1).f1⟩ : S79) ∈ rows x8 0 x6 ∧ (⟨(rd_T94 x1 q.f0).f2, (rd_T94 x3 q.f1).f2⟩ : S79) ∈ rows x8 0 x6 ∧ (rd_T94 x1 q.f0).f0 = (rd_T94 x3 q.f1).f0 ∧ 0 ≤ q.f0 ∧ q.f0 < (x1.length : Int) ∧ 0 ≤ q.f1 ∧ q.f1 < (x3.length : Int) := by
 obtain ⟨v1, v4, a1, a2, a3, a4⟩ := mvalid_iff.mp m1
 obtain ⟨v2, -, b1, b2, b3, b4⟩ := mvalid_iff.mp m2
 obtain ⟨c1, c2, c3, c4, c5⟩ := rows_mem.mp hq
 obtain ⟨-, -, d1, d2, d3⟩ := okM_int a4 q.f0 c1 c2
 obtain ⟨-, -, e1, e2, e3⟩ := okM_int b4 q.f1 c3 c4
 rw [← c5] at e1 e2 e3
 obtain ⟨-, f1, f2, f3, f4⟩ := edge_facts v1 q.f0 c1 (by omega)
 obtain ⟨-, g1, g2, g3, g4⟩ := edge_facts v2 q.f1 c3 (by omega)
 refine ⟨rows_mem.mpr ⟨f1, ?_, g1, ?_, ?_⟩, rows_mem.mpr ⟨f3, ?_, g3, ?_, ?_⟩, by rw [d1, e1], c1, by omega, c3, by omega⟩
 ·show (rd_T94 x1 q.f0).f1 < _; omega
 ·show (rd_T94 x3 q.f1).f1 < _; omega
 ·show rd x6 (rd_T94 x1 q.f0).f1 = rd x8 (rd_T94 x3 q.f1).f1; rw [d2, e2]
 ·show (rd_T94 x1 q.f0).f2 < _; omega
 ·show (rd_T94 x3 q.f1).f2 < _; omega
 ·show rd x6 (rd_T94 x1 q.f0).f2 = rd x8 (rd_T94 x3 q.f1).f2; rw [d3, e3]
theorem pb_validE (m1 : mvalid x0 x1 x4 x5 x6 x7 = 0) (m2 : mvalid x2 x3 x4 x5 x8 x9 = 0) (hP : (rows x8 0 x6).length ≤ 40) (hQ : (rows x9 0 x7).length ≤ 80) :
  validE ((rows x8 0 x6).map (fun p => rd x0 p.f0)) ((rows x9 0 x7).map (edg x1 x3 (rows x8 0 x6))) = 0 := by
 obtain ⟨v1, v4, a1, a2, a3, a4⟩ := mvalid_iff.mp m1
 obtain ⟨-, -, kx, -⟩ := validE_iff.mp v1
 refine validE_iff.mpr ⟨by rw [List.length_map]; exact hP, by rw [List.length_map]; exact hQ, fun t ht => ?_, fun e he => ?_⟩
 ·obtain ⟨p, hp, rfl⟩ := List.mem_map.mp ht
  obtain ⟨c1, c2, -⟩ := rows_mem.mp hp
  exact kx _ (rd_mem x0 p.f0 c1 (by omega))
 ·obtain ⟨q, hq, rfl⟩ := List.mem_map.mp he
  obtain ⟨e1, e2, -, e3, e4, -⟩ := ends_mem m1 m2 hq
  obtain ⟨f0, -⟩ := edge_facts v1 q.f0 e3 e4
  obtain ⟨g1, g2, -⟩ := plc_mem e1
  obtain ⟨g3, g4, -⟩ := plc_mem e2
  unfold edgeB edg
  simp only [List.length_map, Bool.and_eq_true, decide_eq_true_eq]
  exact ⟨f0, ⟨g1, g2⟩, g3, g4⟩
theorem pb_left (m1 : mvalid x0 x1 x4 x5 x6 x7 = 0) (m2 : mvalid x2 x3 x4 x5 x8 x9 = 0) (hP : (rows x8 0 x6).length ≤ 40) (hQ : (rows x9 0 x7).length ≤ 80) :
  mvalid ((rows x8 0 x6).map (fun p => rd x0 p.f0)) ((rows x9 0 x7).map (edg x1 x3 (rows x8 0 x6))) x0 x1 ((rows x8 0 x6).map S79.f0) ((rows x9 0 x7).map S79.f0) = 0 := by
 obtain ⟨v1, v4, a1, a2, a3, a4⟩ := mvalid_iff.mp m1
 refine mvalid_iff.mpr ⟨pb_validE m1 m2 hP hQ, v1, by simp, by simp, fun j hj => ?_, fun j hj => ?_⟩
 ·rw [List.length_map] at hj
  rw [rd_map79 _ _ _ (by omega) (by omega), rd_map79 _ _ _ (by omega) (by omega)]
  obtain ⟨c1, c2, -⟩ := rows_mem.mp (rd79_mem (rows x8 0 x6) j (by omega) (by omega))
  exact ⟨c1, by omega, rfl⟩
 ·rw [List.length_map] at hj
  obtain ⟨e1, e2, -, e3, e4, -⟩ := ends_mem m1 m2 (rd79_mem (rows x9 0 x7) j (by omega) (by omega))
  obtain ⟨g1, g2, g5, -⟩ := plc_mem e1
  obtain ⟨g3, g4, g6, -⟩ := plc_mem e2
  rw [rd_map79 _ (rows x9 0 x7) _ (by omega) (by omega), rd_map94 _ _ _ (by omega) (by omega)]
  unfold edg
  refine ⟨e3, e4, rfl, ?_, ?_⟩
  ·rw [rd_map79 _ _ _ g1 g2, g5]
  ·rw [rd_map79 _ _ _ g3 g4, g6]
theorem pb_right (m1 : mvalid x0 x1 x4 x5 x6 x7 = 0) (m2 : mvalid x2 x3 x4 x5 x8 x9 = 0) (hP : (rows x8 0 x6).length ≤ 40) (hQ : (rows x9 0 x7).length ≤ 80) :
  mvalid ((rows x8 0 x6).map (fun p => rd x0 p.f0)) ((rows x9 0 x7).map (edg x1 x3 (rows x8 0 x6))) x2 x3 ((rows x8 0 x6).map S79.f1) ((rows x9 0 x7).map S79.f1) = 0 := by
 obtain ⟨v1, v4, a1, a2, a3, a4⟩ := mvalid_iff.mp m1
 obtain ⟨v2, -, b1, b2, b3, b4⟩ := mvalid_iff.mp m2
 refine mvalid_iff.mpr ⟨pb_validE m1 m2 hP hQ, v2, by simp, by simp, fun j hj => ?_, fun j hj => ?_⟩
 ·rw [List.length_map] at hj
  rw [rd_map79 _ _ _ (by omega) (by omega), rd_map79 _ _ _ (by omega) (by omega)]
  obtain ⟨c1, c2, c3, c4, c5⟩ := rows_mem.mp (rd79_mem (rows x8 0 x6) j (by omega) (by omega))
  refine ⟨c3, by omega, ?_⟩
  obtain ⟨-, -, d1⟩ := okN_int a3 _ c1 c2
  obtain ⟨-, -, d2⟩ := okN_int b3 _ c3 c4
  rw [← d2, ← c5, d1]
 ·rw [List.length_map] at hj
  obtain ⟨e1, e2, e0, -, -, e3, e4⟩ := ends_mem m1 m2 (rd79_mem (rows x9 0 x7) j (by omega) (by omega))
  obtain ⟨g1, g2, -, g5⟩ := plc_mem e1
  obtain ⟨g3, g4, -, g6⟩ := plc_mem e2
  rw [rd_map79 _ (rows x9 0 x7) _ (by omega) (by omega), rd_map94 _ _ _ (by omega) (by omega)]
  unfold edg
  refine ⟨e3, e4, e0, ?_, ?_⟩
  ·rw [rd_map79 _ _ _ g1 g2, g5]
  ·rw [rd_map79 _ _ _ g3 g4, g6]
theorem id_valid {a0 : List Int} {a1 : List S94} (h : validE a0 a1 = 0) : mvalid a0 a1 a0 a1 (iota 0 a0.length) (iota 0 a1.length) = 0 := by
 refine mvalid_iff.mpr ⟨h, h, iota_len _ _, iota_len _ _, fun j hj => ?_, fun j hj => ?_⟩
 ·rw [iota_len] at hj
  rw [iota_rd _ _ _ hj, Nat.zero_add]
  exact ⟨by omega, by omega, rfl⟩
 ·rw [iota_len] at hj
  rw [iota_rd _ _ _ hj, Nat.zero_add]
  obtain ⟨-, f1, f2, f3, f4⟩ := edge_facts h (j : Int) (by omega) (by omega)
  refine ⟨by omega, by omega, rfl, ?_, ?_⟩
  ·obtain ⟨i, hi⟩ : ∃ i : Nat, (rd_T94 a1 (j : Int)).f1 = (i : Int) := ⟨((rd_T94 a1 (j : Int)).f1).toNat, by omega⟩
   rw [hi, iota_rd _ _ _ (by omega), Nat.zero_add]
  ·obtain ⟨i, hi⟩ : ∃ i : Nat, (rd_T94 a1 (j : Int)).f2 = (i : Int) := ⟨((rd_T94 a1 (j : Int)).f2).toNat, by omega⟩
   rw [hi, iota_rd _ _ _ (by omega), Nat.zero_add]
end
theorem sameInts02_l0 (l : List Int) (hl : l.length ≤ 9223372036854775807) : ∀ (r pre : List Int), l = pre ++ r → Ev (fun k => scarfjointref02_SameInts.l0 k l l (pre.length : Int)) true := by
 intro r
 induction r with
 | nil =>
  rintro pre rfl
  exact Ev.step (fun k => by simp only [scarfjointref02_SameInts.l0]; rw [if_neg (by simp)]) (Ev.now _)
 | cons x r ih =>
  rintro pre rfl
  refine Ev.step (fun k => by simp only [scarfjointref02_SameInts.l0]; rw [if_pos (lt_mid pre x r), if_pos (by omega), if_pos (lt_mid pre x r), if_pos trivial, wrap_mid pre x r hl]) (ih (pre ++ [x]) (snoc_mid pre x r))
theorem sameInts02_self (l : List Int) (hl : l.length ≤ 1000000) : Ev (fun k => scarfjointref02_SameInts.f k l l) true := by
 unfold scarfjointref02_SameInts.f
 simp only [if_true]
 exact sameInts02_l0 l (by omega) l [] rfl
theorem same06_self (a b : List Int) (ha : a.length ≤ 1000000) (hb : b.length ≤ 1000000) : Ev (fun k => scarfjointref06_Same.f k a b a b) true := by
 unfold scarfjointref06_Same.f
 refine Ev.bind (sameInts02_self a ha) ?_
 simp only [if_true]
 exact Ev.bind (sameInts02_self b hb) (Ev.now _)
theorem rd_snoc_l (l : List Int) (x : Int) (i : Int) (h0 : 0 ≤ i) (h : i < (l.length : Int)) : rd (l ++ [x]) i = rd l i := by
 unfold rd
 rw [List.getD_eq_getElem?_getD, List.getD_eq_getElem?_getD, List.getElem?_append_left (by omega)]
theorem rd_snoc_r (l : List Int) (x : Int) : rd (l ++ [x]) (l.length : Int) = x := rd_mid l x []
theorem rd94_snoc_l (l : List S94) (x : S94) (i : Int) (h0 : 0 ≤ i) (h : i < (l.length : Int)) : rd_T94 (l ++ [x]) i = rd_T94 l i := by
 unfold rd_T94
 rw [List.getD_eq_getElem?_getD, List.getD_eq_getElem?_getD, List.getElem?_append_left (by omega)]
theorem rd94_snoc_r (l : List S94) (x : S94) : rd_T94 (l ++ [x]) (l.length : Int) = x := rd38_mid l x []
theorem okN_snoc {a b n : List Int} {t k : Int} (h : okN a b n) (hl : a.length = n.length) (h0 : 0 ≤ k) (h1 : k < (b.length : Int)) (ht : rd b k = t) : okN (a ++ [t]) b (n ++ [k]) := by
 intro j hj
 rw [List.length_append, List.length_singleton] at hj
 by_cases e : j < n.length
 ·rw [rd_snoc_l n k _ (by omega) (by omega), rd_snoc_l a t _ (by omega) (by omega)]
  exact h j e
 ·obtain rfl : j = n.length := by omega
  rw [rd_snoc_r, ← hl, rd_snoc_r]
  exact ⟨h0, h1, ht⟩
theorem okM_snoc {a b : List S94} {n m : List Int} {e : S94} {k : Int} (h : okM a b n m) (hl : a.length = m.length) (h0 : 0 ≤ k) (h1 : k < (b.length : Int)) (e0 : e.f0 = (rd_T94 b k).f0) (e1 : rd n e.f1 = (rd_T94 b k).f1) (e2 : rd n e.f2 = (rd_T94 b k).f2) : okM (a ++ [e]) b n (m ++ [k]) := by
 intro j hj
 rw [List.length_append, List.length_singleton] at hj
 by_cases q : j < m.length
 ·rw [rd_snoc_l m k _ (by omega) (by omega), rd94_snoc_l a e _ (by omega) (by omega)]
  exact h j q
 ·obtain rfl : j = m.length := by omega
  rw [rd_snoc_r, ← hl, rd94_snoc_r]
  exact ⟨h0, h1, e0, e1, e2⟩
theorem rd95_mem (P : List S95) (i : Int) (h0 : 0 ≤ i) (h1 : i < (P.length : Int)) : rd_T95 P i ∈ P := by
 unfold rd_T95
 rw [List.getD_eq_getElem?_getD, List.getElem?_eq_getElem (by omega)]
 exact List.getElem_mem _
/-- The places of a number. -/
def ovl (n : Int) : Int → List Int → List Int
 | _, [] => []
 | i, x :: r => if x = n then i :: ovl n (i + 1) r else ovl n (i + 1) r
theorem over_l0 (l : List Int) (n : Int) (hl : l.length ≤ 1000000) : ∀ (r pre acc : List Int), l = pre ++ r → acc.length ≤ pre.length →
  Ev (fun k => scarfjointref11_over.l0 k l n acc (pre.length : Int)) (acc ++ ovl n pre.length r) := by
 intro r
 induction r with
 | nil =>
  rintro pre acc rfl h3
  refine Ev.step (fun k => by simp only [scarfjointref11_over.l0]; rw [if_neg (by simp)]) ?_
  simpa [ovl] using Ev.now acc
 | cons x r ih =>
  rintro pre acc rfl h3
  simp at hl
  have e : wrap64 ((pre.length : Int) + 1) = ((pre ++ [x]).length : Int) := wrap_mid pre x r (by simp; omega)
  by_cases hxy : x = n
  ·have ih' := ih (pre ++ [x]) (acc ++ [(pre.length : Int)]) (snoc_mid pre x r) (by simp; omega)
   refine Ev.step (fun k => by simp only [scarfjointref11_over.l0]; rw [if_pos (lt_mid pre x r), if_pos (by omega), rd_mid, if_pos hxy, if_pos (by omega), e]) ?_
   have e2 : ovl n (pre.length : Int) (x :: r) = (pre.length : Int) :: ovl n ((pre.length : Int) + 1) r := by rw [ovl, if_pos hxy]
   rw [e2]
   simpa using ih'
  ·have ih' := ih (pre ++ [x]) acc (snoc_mid pre x r) (by simp; omega)
   refine Ev.step (fun k => by simp only [scarfjointref11_over.l0]; rw [if_pos (lt_mid pre x r), if_pos (by omega), rd_mid, if_neg hxy, e]) ?_
   have e2 : ovl n (pre.length : Int) (x :: r) = ovl n ((pre.length : Int) + 1) r := by rw [ovl, if_neg hxy]
   rw [e2]
   simpa using ih'
theorem over_ev (l : List Int) (n : Int) (hl : l.length ≤ 1000000) : Ev (fun k => scarfjointref11_over.f k l n) (ovl n 0 l) := by
 unfold scarfjointref11_over.f
 simpa using over_l0 l n hl l [] [] rfl (Nat.le_refl _)
theorem ovl_mem (n : Int) : ∀ (l : List Int) (i : Nat) (x : Int), x ∈ ovl n i l → (i : Int) ≤ x ∧ x < (i : Int) + l.length ∧ rd l (x - i) = n := by
 intro l
 induction l with
 | nil => intro i x h; simp [ovl] at h
 | cons y r ih =>
  intro i x h
  have ih' := ih (i + 1) x
  rw [Int.natCast_add, Int.natCast_one] at ih'
  have key : x ∈ ovl n ((i : Int) + 1) r → (i : Int) ≤ x ∧ x < (i : Int) + (y :: r).length ∧ rd (y :: r) (x - i) = n := by
   intro h
   obtain ⟨h1, h2, h3⟩ := ih' h
   refine ⟨by omega, by simp; omega, ?_⟩
   rw [← h3]
   unfold rd
   have : (x - (i : Int)).toNat = (x - ((i : Int) + 1)).toNat + 1 := by omega
   rw [this, List.getD_cons_succ]
  unfold ovl at h
  split at h
  ·rename_i hy
   rcases List.mem_cons.mp h with rfl | h
   ·refine ⟨Int.le_refl _, by simp; omega, ?_⟩
    rw [Int.sub_self]
    exact hy
   ·exact key h
  ·exact key h
theorem ovl_rd (n : Int) (l : List Int) (i : Int) (h0 : 0 ≤ i) (h1 : i < ((ovl n 0 l).length : Int)) : 0 ≤ rd (ovl n 0 l) i ∧ rd (ovl n 0 l) i < (l.length : Int) ∧ rd l (rd (ovl n 0 l) i) = n := by
 have h := ovl_mem n l 0 _ (rd_mem (ovl n 0 l) i h0 h1)
 simpa using h
theorem ovl_len (n : Int) : ∀ (l : List Int) (i : Int), (ovl n i l).length ≤ l.length := by
 intro l
 induction l with
 | nil => intro i; simp [ovl]
 | cons x r ih =>
  intro i
  have := ih (i + 1)
  unfold ovl
  split <;> simp <;> omega
end Go.Proofs.Ytillofiphkmjjaa.Pl
