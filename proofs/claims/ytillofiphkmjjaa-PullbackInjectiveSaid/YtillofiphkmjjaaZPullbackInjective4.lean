/- A part of the proof that the law PullbackInjective returns true at every input: contracts of the functions that it calls, and lemmas. -/
import Derived.Test.YtillofiphkmjjaaZPullbackInjective3
/- scarfjointref11.Over (22), walked by hand: what it returns is a graph and a valid morphism to the given one. -/
namespace Go.Proofs.Ytillofiphkmjjaa.X
open Go.RowKit Go.Proofs.YtillofiphkmjjaaW.PrintWords Go.Proofs.YtillofiphkmjjaaW.PrintLast Go.Proofs.YtillofiphkmjjaaW.PrintMore Go.Proofs.Ytillofiphkmjjaa.Pl
set_option linter.unusedVariables false
set_option linter.unusedSimpArgs false
set_option maxHeartbeats 4000000 in
set_option maxRecDepth 100000 in
theorem Over_calls (A0 : Option Addr) (c0 : Nat) (dn : List Int) (A1 : Option Addr) (c1 : Nat) (de : List S94) (A2 : Option Addr) (c2 : Nat) (xn : List Int) (A3 : Option Addr) (c3 : Nat) (xe : List S95) (w : World)
  (R0 : Row (Kd.int .i64) w A0 c0 dn) (R1 : Row k94 w A1 c1 de) (R2 : Row (Kd.int .u8) w A2 c2 xn) (R3 : Row k95 w A3 c3 xe) (hd : validE dn de = 0) (hx : ∀ x ∈ xn, 0 ≤ x ∧ x ≤ 255) (hy : ∀ e ∈ xe, (0 ≤ e.f0 ∧ e.f0 ≤ 255) ∧ (0 ≤ e.f1 ∧ e.f1 ≤ 255) ∧ 0 ≤ e.f2 ∧ e.f2 ≤ 255) :
  Calls Try.prog 22 #[.agg #[.slice A0 dn.length c0, .slice A1 de.length c1], .agg #[.slice A2 xn.length c2, .slice A3 xe.length c3]] w fun e w' => ∃ (gn : List Int) (ge : List S94) (mn me : List Int) (v0 v1 v2 v3 : Value), e = .returned (.tuple #[.agg #[v0, v1], .agg #[v2, v3]]) ∧ Vr (Kd.int .i64) w' v0 gn ∧ Vr k94 w' v1 ge ∧ Vr (Kd.int .i64) w' v2 mn ∧ Vr (Kd.int .i64) w' v3 me ∧ Below w.heap.size w w' ∧ mvalid gn ge dn de mn me = 0 ∧ gn.length ≤ 8 ∧ gn.length ≤ xn.length ∧ ge.length ≤ 10 ∧ ge.length ≤ xe.length := by
 have hu25 := Try.underlying25
 have hu27 := Try.underlying27
 have hu44 := Try.underlying44
 have hd_ := Aside0.mk hd
 have hx_ := Aside0.mk hx
 have hy_ := Aside0.mk hy
 clear hd hx hy
 go_enter Try.func22, Try.ntmps22
 go_upto_region 3 with fail
 obtain ⟨w1, e1, BD, BX, B4, B5, hb⟩ := nw4 w 25 #[.slice A0 dn.length c0, .slice A1 de.length c1] 44 #[.slice A2 xn.length c2, .slice A3 xe.length c3] 25 #[.slice none 0 0, .slice none 0 0] 27 #[.slice none 0 0, .slice none 0 0]
 rw [← e1]
 have s1 : w1.heap.size = w.heap.size + 1 + 1 + 1 + 1 := by rw [e1, size_alloc1, size_alloc1, size_alloc1, size_alloc1]
 have S0 : Since w w1 := ⟨hb⟩
 clear e1
 obtain ⟨w2, e2, BG, BM, hb2⟩ := nw2 w1 25 #[.slice none 0 0, .slice none 0 0] 27 #[.slice none 0 0, .slice none 0 0]
 rw [← e2, ← s1]
 clear e2
 have n4 : w.heap.size ≤ w.heap.size + 1 + 1 := by omega
 have n5 : w.heap.size ≤ w.heap.size + 1 + 1 + 1 := by omega
 have n45 : w.heap.size + 1 + 1 ≠ w.heap.size + 1 + 1 + 1 := by omega
 replace R0 := R0.below hb
 replace R1 := R1.below hb
 replace R2 := R2.below hb
 replace R3 := R3.below hb
 clear hb
 generalize w.heap.size + 1 + 1 + 1 = g5 at *
 generalize w.heap.size + 1 + 1 = g4 at *
 generalize w.heap.size + 1 = gx at *
 have ov : Ov w1 w1.heap.size (w1.heap.size + 1) (.slice none 0 0) (.slice none 0 0) (.slice none 0 0) (.slice none 0 0) (.slice none 0 0) (.slice none 0 0) (.slice none 0 0) (.slice none 0 0) [] [] [] [] w2 :=
  ⟨⟨hb2⟩, ⟨BG.get⟩, ⟨BM.get⟩, Nat.le_refl _, Nat.le_succ _, Kd.R_nil _ _ _ _ _, Kd.R_nil _ _ _ _ _, Kd.R_nil _ _ _ _ _, Kd.R_nil _ _ _ _ _, ap_nil _ _ _, ap_nil _ _ _, ap_nil _ _ _⟩
 clear BG BM hb2
 generalize w1.heap.size + 1 = m at *
 obtain ⟨g, hg0, ov⟩ : ∃ g, g = w1.heap.size ∧ Ov w1 g m (.slice none 0 0) (.slice none 0 0) (.slice none 0 0) (.slice none 0 0) (.slice none 0 0) (.slice none 0 0) (.slice none 0 0) (.slice none 0 0) [] [] [] [] w2 := ⟨_, rfl, ov⟩
 rw [← hg0]
 clear hg0
 generalize hgd : w.heap.size = gd at BD ⊢
 clear hgd
 go_wp2_with fail
 go_loopg [8] xn.length (fun kq v8 w' => ∃ (i : Nat) (lN lM : List Int) (vN vM : Value), v8 = .int .i64 i ∧ Aside0 (i + kq = xn.length ∧ i ≤ 8 ∧ lN.length = i ∧ lM.length = i ∧ okN lN dn lM ∧ ∀ t ∈ lN, kindB t = true) ∧ Ov w1 g m vN (.slice none 0 0) vM (.slice none 0 0) vN (.slice none 0 0) vM (.slice none 0 0) lN [] lM [] w')
 case atStart => exact ⟨0, [], [], _, _, rfl, ⟨by omega, by omega, rfl, rfl, fun j hj => absurd hj (by simp), by simp⟩, ov⟩
 case round =>
  clear ov
  obtain ⟨i, lN, lM, vN, vM, rfl, A, ov⟩ := hrel
  go_upto_region 4 with fail
  go_cut [28] (fun v28 wc => v28 = .bool (decide ((i : Int) < (xn.length : Int)) && (decide ((i : Int) < 8) && decide (0 < dn.length))) ∧ Ov w1 g m vN (.slice none 0 0) vM (.slice none 0 0) vN (.slice none 0 0) vM (.slice none 0 0) lN [] lM [] wc)
  case first =>
   obtain ⟨_, _⟩ := (BX.below ov.sb.get).q2
   obtain ⟨_, _⟩ := (BD.below ov.sb.get).q2
   by_cases k1 : (i : Int) < (xn.length : Int)
   ·by_cases k2 : (i : Int) < 8
    ·go_wp2_with fail
     go_meet
     case rel => exact ⟨by first | (simp [k1, k2]; done) | (simp; intros; omega), ov⟩
    ·go_wp2_with fail
     go_meet
     case rel => exact ⟨by first | (simp [k1, k2]; done) | (simp; intros; omega), ov⟩
   ·go_wp2_with fail
    go_meet
    case rel => exact ⟨by first | (simp [k1, k2]; done) | (simp; intros; omega), ov⟩
  case rest =>
   clear ov
   obtain ⟨rfl, ov⟩ := hcut
   by_cases k : (i : Int) < (xn.length : Int) ∧ (i : Int) < 8 ∧ 0 < dn.length
   ·skip
    have hk : (decide ((i : Int) < (xn.length : Int)) && (decide ((i : Int) < 8) && decide (0 < dn.length))) = true := by simp [k.1, k.2.1, k.2.2]
    rw [hk]
    go_upto_region 6 with fail
    obtain ⟨_, _⟩ := (BX.below ov.sb.get).q2
    obtain ⟨_, _⟩ := (BD.below ov.sb.get).q2
    obtain ⟨ad, ead, hc⟩ := Kd.at_int R2.at_ (i : Int) (by omega) k.1
    cases ead
    rw [Int.toNat_natCast] at hc
    replace hc := ov.sb.c hc
    have q1 := eq_true k.1
    have q0 : (0 ≤ (i : Int)) = True := eq_true (by omega)
    have q2 : ((dn.length : Int) = 0) = False := eq_false (by omega)
    go_quiet (fail)
    go_wp2_with fail
    have hxi := hx_.out _ (rd_mem xn (i : Int) (by omega) k.1)
    have hw : wrap64 (rd xn (i : Int)) = rd xn (i : Int) := by unfold wrap64; omega
    rw [hw]
    obtain ⟨kk, hkk, k0, k1⟩ : ∃ kk : Int, kk = (rd xn (i : Int)).tmod (dn.length : Int) ∧ 0 ≤ kk ∧ kk < (dn.length : Int) := ⟨_, rfl, Int.tmod_nonneg _ hxi.1, Int.tmod_lt_of_pos _ (by omega)⟩
    rw [← hkk]
    clear hkk hw hxi
    obtain ⟨an, ean, hcn⟩ := Kd.at_int R0.at_ kk k0 k1
    cases ean
    replace ov := ov.below (pw_below_drewN (Below.refl _ _) nq)
    clear hc q0 q1 q2
    generalize wc.drewN nq = wq at ov ⊢
    have p0 := eq_true k0
    have p1 := eq_true k1
    have ov1 := ov.below (below_drew1 (Below.refl _ _))
    have hHeld : wq.drew.cell? ⟨g, 0, none⟩ = some (vN) ∧ wq.drew.cell? ⟨m, 0, none⟩ = some (vM) ∧ wq.drew.cell? ⟨gd, 0, none⟩ = some (.slice (some an) dn.length c0) ∧ wq.drew.cell? (an.add kk.toNat) = some (.int .i64 (rd dn kk)) := ⟨ov1.bg.c0, ov1.bm.c0, (BD.below ov1.sb.get).at 0 rfl, ov1.sb.c hcn⟩
    refine plan_pre (fun w' => w'.cell? ⟨g, 0, none⟩ = some (vN) ∧ w'.cell? ⟨m, 0, none⟩ = some (vM) ∧ w'.cell? ⟨gd, 0, none⟩ = some (.slice (some an) dn.length c0) ∧ w'.cell? (an.add kk.toNat) = some (.int .i64 (rd dn kk))) [15, 17] [(0, 1, some 41), (1, 2, some 42), (2, 1, some 43), (3, 2, some 44), (4, 1, some 45), (5, 1, some 46), (6, 2, some 47), (9, 1, some 50), (10, 2, some 51), (11, 1, some 52)] 8 ((true, [([], []), ([0], [0]), ([], []), ([2], [2]), ([], []), ([3, 4], [3, 4]), ([5], [5]), ([6], [6]), ([1, 7], [1, 7]), ([], []), ([9], [9]), ([], []), ([11], [11]), ([10, 12, 8], [10, 12]), ([0, 1, 2, 3, 4, 5, 6, 7, 8], []), ([14, 8, 13, 0, 1, 2, 3, 4, 5, 6, 7, 8], [8, 14]), ([0, 1, 2, 3, 4, 5, 6, 7, 8, 9, 10, 11, 12, 13, 14, 15], []), ([16, 13, 15, 0, 1, 2, 3, 4, 5, 6, 7, 8, 9, 10, 11, 12, 13, 14, 15], [13, 16])])) [0, 1, 0, 4, 0, 28, 60, 124, 255, 0, 512, 0, 2048, 8191, 511, 32767, 65535, 131071] (by kernel_rfl) (by kernel_rfl) rfl rfl (by kernel_rfl) (fun _ _ d _ _ h => by cases d <;> exact h) ?_
    repeat (first
     | (refine pl1 (v := ?_) (a' := ?_) rfl rfl (Or.inl ⟨by rfl, ?_⟩) ?_ ?_; rotate_left; (intro w'; go_simp; with_reducible rfl); rotate_left; (simp only [Act.put, List.setIfInBounds_toArray, List.set_cons_zero, List.set_cons_succ, i64_w, i32_w]; rfl))
     | (refine pl2 (v := ?_) (a' := ?_) rfl rfl hHeld (Or.inl ⟨by rfl, ?_⟩) ?_ ?_; rotate_left; (rintro w' ⟨s0, s1, s2, s3⟩; go_simp; with_reducible rfl); rotate_left; (simp only [Act.put, List.setIfInBounds_toArray, List.set_cons_zero, List.set_cons_succ, i64_w, i32_w]; rfl)))
    refine pl_end ?_
    have HT : rtab .any _ = _ := (by kernel_rfl : rtab .any (opsOf Try.f22 7) = (true, [([], []), ([0], [0]), ([], []), ([2], [2]), ([], []), ([3, 4], [3, 4]), ([5], [5]), ([6], [6]), ([1, 7], [1, 7]), ([], []), ([9], [9]), ([], []), ([11], [11]), ([10, 12, 8], [10, 12]), ([0, 1, 2, 3, 4, 5, 6, 7, 8], []), ([14, 8, 13, 0, 1, 2, 3, 4, 5, 6, 7, 8], [8, 14]), ([0, 1, 2, 3, 4, 5, 6, 7, 8, 9, 10, 11, 12, 13, 14, 15], []), ([16, 13, 15, 0, 1, 2, 3, 4, 5, 6, 7, 8, 9, 10, 11, 12, 13, 14, 15], [13, 16])]))
    show wpAnyLast _ _ _ _ _ _ 8 #[true, true, true, true, true, true, true, false, false, true, true, true, false, false, false, false, false, false] _ _
    refine join_ (σ := Value × Value × Value × Value) 3 #[true, true, true, true, true, true, true, true, true, true, true, true, true, true, true, false, false, false] (fun s => [(48, s.1), (49, s.2.1), (53, s.2.2.1), (54, s.2.2.2), (55, .pointer (some ⟨g, 0, none⟩))]) (fun s w' => Ov w1 g m vN (.slice none 0 0) vM (.slice none 0 0) s.2.1 (.slice none 0 0) s.2.2.2 (.slice none 0 0) (lN ++ [rd dn kk]) [] (lM ++ [kk]) [] w') ?_ ?_
    rotate_left
    ·intro hCont
     have l1 : lN.length ≤ 8 := by have := A.out; omega
     have l2 : lM.length ≤ 8 := by have := A.out; omega
     clear ov hHeld
     replace ov := ov1
     generalize wq.drew = wd at *
     refine two_ (i := 7) (j := 12) (Ni := some 48) (Nj := some 53) #[true, true, true, true, true, true, true, true, false, true, true, true, false, false, false, false, false, false] #[true, true, true, true, true, true, true, false, false, true, true, true, true, false, false, false, false, false] rfl rfl rfl rfl (two_of HT (by kernel_rfl)) (by decide) (by decide) (fun K hK => ?_) (fun K hK => ?_)
     ·skip
      refine value_ (w1 := wd.alloc (.cells #[.int .i64 (rd dn kk)] 3)) (v := .slice (some ⟨wd.heap.size, 0, none⟩) 1 1) (by rfl) rfl ?_ ?_
      ·first | (go_simp; done) | (go_simp; rfl)
      have nZ1 := Kd.R_ne_new ov.oN 0
      rw [Nat.add_zero] at nZ1
      obtain ⟨Z1, hbz⟩ := blk_new1 wd 3 #[.int .i64 (rd dn kk)]
      replace ov := ov.below hbz
      refine hK.out _ _ ⟨ov.bg.c0, ov.bm.c0, (BD.below ov.sb.get).at 0 rfl, ov.sb.c hcn⟩ (fun _ => ?_)
      clear hbz
      generalize wd.alloc (.cells #[.int .i64 (rd dn kk)] 3) = we at *
      generalize wd.heap.size = gZ1 at *
      clear hK K
      refine norm_ (a' := ?_) ?_ ?_
      rotate_left
      ·show Act.put _ (some 48) _ = _
       simp only [Act.put, List.setIfInBounds_toArray, List.set_cons_zero, List.set_cons_succ, i64_w, i32_w]
       rfl
      refine two_ (i := 8) (j := 12) (Ni := some 49) (Nj := some 53) #[true, true, true, true, true, true, true, true, true, true, true, true, false, false, false, false, false, false] #[true, true, true, true, true, true, true, true, false, true, true, true, true, false, false, false, false, false] rfl rfl rfl rfl (two_of HT (by kernel_rfl)) (by decide) (by decide) (fun K hK => ?_) (fun K hK => ?_)
      ·skip
       refine Kd.R_append_rows_step (Kd.int .i64) (w0 := w1) w1.heap.size (by rfl) (.tmp 42) (.tmp 48) 22 3 (.int .i64 0) 8 rfl Try.underlying22 info3 rfl (by decide) (by omega) vN lN [(rd dn kk)] _ _ _ (fun _ => True) (fun _ => False) rfl rfl ov.oN (Z1.row (l := [(rd dn kk)]) (by simp)).at_ (fun _ _ h => h) (fun _ h => h.elim) (fun _ _ => trivial) ov.sb.get ov.sb.get.size (by omega) ?_
       intro v1 wf ho hbl hgr hat
       replace ov := ov.appN ho hbl hgr hat
       clear ho hbl hgr hat
       refine hK.out _ _ ⟨ov.bg.c0, ov.bm.c0, (BD.below ov.sb.get).at 0 rfl, ov.sb.c hcn⟩ (fun _ => ?_)
       clear hK K
       refine norm_ (a' := ?_) ?_ ?_
       rotate_left
       ·show Act.put _ (some 49) _ = _
        simp only [Act.put, List.setIfInBounds_toArray, List.set_cons_zero, List.set_cons_succ, i64_w, i32_w]
        rfl
       refine pure_ (i := 14) (N := some 55) (v := ?_) (a' := ?_) #[true, true, true, true, true, true, true, true, true, true, true, true, false, false, true, false, false, false] rfl rfl (any_of HT (by kernel_rfl)) (fun _ _ _ h => h) (Or.inl ⟨by rfl, ?_⟩) ?_ ?_
       rotate_left
       ·intro w'; go_simp; with_reducible rfl
       rotate_left
       ·(simp only [Act.put, List.setIfInBounds_toArray, List.set_cons_zero, List.set_cons_succ, i64_w, i32_w]; rfl)
       refine one_ (i := 12) (N := some 53) #[true, true, true, true, true, true, true, true, true, true, true, true, true, false, true, false, false, false] rfl rfl (one_of HT (by kernel_rfl)) (by decide) (fun K hK => ?_)
       refine value_ (w1 := wf.alloc (.cells #[.int .i64 kk] 3)) (v := .slice (some ⟨wf.heap.size, 0, none⟩) 1 1) (by rfl) rfl ?_ ?_
       ·first | (go_simp; done) | (go_simp; rfl)
       have nZ2 := Kd.R_ne_new ov.oN 0
       rw [Nat.add_zero] at nZ2
       obtain ⟨Z2, hbz⟩ := blk_new1 wf 3 #[.int .i64 kk]
       replace ov := ov.below hbz
       refine hK.out _ _ ⟨ov.bg.c0, ov.bm.c0, (BD.below ov.sb.get).at 0 rfl, ov.sb.c hcn⟩ (fun _ => ?_)
       clear hbz
       generalize wf.alloc (.cells #[.int .i64 kk] 3) = wh at *
       generalize wf.heap.size = gZ2 at *
       clear hK K
       refine norm_ (a' := ?_) ?_ ?_
       rotate_left
       ·show Act.put _ (some 53) _ = _
        simp only [Act.put, List.setIfInBounds_toArray, List.set_cons_zero, List.set_cons_succ, i64_w, i32_w]
        rfl
       refine one_ (i := 13) (N := some 54) #[true, true, true, true, true, true, true, true, true, true, true, true, true, true, true, false, false, false] rfl rfl (one_of HT (by kernel_rfl)) (by decide) (fun K hK => ?_)
       refine Kd.R_append_rows_step (Kd.int .i64) (w0 := w1) w1.heap.size (by rfl) (.tmp 51) (.tmp 53) 22 3 (.int .i64 0) 8 rfl Try.underlying22 info3 rfl (by decide) (by omega) vM lM [kk] _ _ _ (fun _ => True) (fun _ => False) rfl rfl ov.oM (Z2.row (l := [kk]) (by simp)).at_ (fun _ _ h => h) (fun _ h => h.elim) (fun _ _ => trivial) ov.sb.get ov.sb.get.size (by omega) ?_
       intro v2 wk ho hbl hgr hat
       replace ov := ov.appM ho hbl hgr hat
       clear ho hbl hgr hat
       refine hK.out _ _ ⟨ov.bg.c0, ov.bm.c0, (BD.below ov.sb.get).at 0 rfl, ov.sb.c hcn⟩ (fun _ => ?_)
       clear hK K
       refine norm_ (a' := ?_) ?_ ?_
       rotate_left
       ·show Act.put _ (some 54) _ = _
        simp only [Act.put, List.setIfInBounds_toArray, List.set_cons_zero, List.set_cons_succ, i64_w, i32_w]
        rfl
       exact hCont ⟨_, _, _, _⟩ _ ov
      ·skip
       refine value_ (w1 := we.alloc (.cells #[.int .i64 kk] 3)) (v := .slice (some ⟨we.heap.size, 0, none⟩) 1 1) (by rfl) rfl ?_ ?_
       ·first | (go_simp; done) | (go_simp; rfl)
       have nZ2 := Kd.R_ne_new ov.oN 0
       rw [Nat.add_zero] at nZ2
       obtain ⟨Z2, hbz⟩ := blk_new1 we 3 #[.int .i64 kk]
       replace ov := ov.below hbz
       replace Z1 := Z1.below hbz
       refine hK.out _ _ ⟨ov.bg.c0, ov.bm.c0, (BD.below ov.sb.get).at 0 rfl, ov.sb.c hcn⟩ (fun _ => ?_)
       clear hbz
       generalize we.alloc (.cells #[.int .i64 kk] 3) = wf at *
       generalize we.heap.size = gZ2 at *
       clear hK K
       refine norm_ (a' := ?_) ?_ ?_
       rotate_left
       ·show Act.put _ (some 53) _ = _
        simp only [Act.put, List.setIfInBounds_toArray, List.set_cons_zero, List.set_cons_succ, i64_w, i32_w]
        rfl
       refine one_ (i := 8) (N := some 49) #[true, true, true, true, true, true, true, true, true, true, true, true, true, false, false, false, false, false] rfl rfl (one_of HT (by kernel_rfl)) (by decide) (fun K hK => ?_)
       refine Kd.R_append_rows_step (Kd.int .i64) (w0 := w1) w1.heap.size (by rfl) (.tmp 42) (.tmp 48) 22 3 (.int .i64 0) 8 rfl Try.underlying22 info3 rfl (by decide) (by omega) vN lN [(rd dn kk)] _ _ _ (fun _ => True) (fun _ => False) rfl rfl ov.oN (Z1.row (l := [(rd dn kk)]) (by simp)).at_ (fun _ _ h => h) (fun _ h => h.elim) (fun _ _ => trivial) ov.sb.get ov.sb.get.size (by omega) ?_
       intro v1 wh ho hbl hgr hat
       replace Z2 : Blk _ _ _ _ := ⟨blk_grown Z2.get hgr nZ2⟩
       replace ov := ov.appN ho hbl hgr hat
       clear ho hbl hgr hat
       refine hK.out _ _ ⟨ov.bg.c0, ov.bm.c0, (BD.below ov.sb.get).at 0 rfl, ov.sb.c hcn⟩ (fun _ => ?_)
       clear hK K
       refine norm_ (a' := ?_) ?_ ?_
       rotate_left
       ·show Act.put _ (some 49) _ = _
        simp only [Act.put, List.setIfInBounds_toArray, List.set_cons_zero, List.set_cons_succ, i64_w, i32_w]
        rfl
       refine pure_ (i := 14) (N := some 55) (v := ?_) (a' := ?_) #[true, true, true, true, true, true, true, true, true, true, true, true, true, false, true, false, false, false] rfl rfl (any_of HT (by kernel_rfl)) (fun _ _ _ h => h) (Or.inl ⟨by rfl, ?_⟩) ?_ ?_
       rotate_left
       ·intro w'; go_simp; with_reducible rfl
       rotate_left
       ·(simp only [Act.put, List.setIfInBounds_toArray, List.set_cons_zero, List.set_cons_succ, i64_w, i32_w]; rfl)
       refine one_ (i := 13) (N := some 54) #[true, true, true, true, true, true, true, true, true, true, true, true, true, true, true, false, false, false] rfl rfl (one_of HT (by kernel_rfl)) (by decide) (fun K hK => ?_)
       refine Kd.R_append_rows_step (Kd.int .i64) (w0 := w1) w1.heap.size (by rfl) (.tmp 51) (.tmp 53) 22 3 (.int .i64 0) 8 rfl Try.underlying22 info3 rfl (by decide) (by omega) vM lM [kk] _ _ _ (fun _ => True) (fun _ => False) rfl rfl ov.oM (Z2.row (l := [kk]) (by simp)).at_ (fun _ _ h => h) (fun _ h => h.elim) (fun _ _ => trivial) ov.sb.get ov.sb.get.size (by omega) ?_
       intro v2 wk ho hbl hgr hat
       replace ov := ov.appM ho hbl hgr hat
       clear ho hbl hgr hat
       refine hK.out _ _ ⟨ov.bg.c0, ov.bm.c0, (BD.below ov.sb.get).at 0 rfl, ov.sb.c hcn⟩ (fun _ => ?_)
       clear hK K
       refine norm_ (a' := ?_) ?_ ?_
       rotate_left
       ·show Act.put _ (some 54) _ = _
        simp only [Act.put, List.setIfInBounds_toArray, List.set_cons_zero, List.set_cons_succ, i64_w, i32_w]
        rfl
       exact hCont ⟨_, _, _, _⟩ _ ov
     ·skip
      refine value_ (w1 := wd.alloc (.cells #[.int .i64 kk] 3)) (v := .slice (some ⟨wd.heap.size, 0, none⟩) 1 1) (by rfl) rfl ?_ ?_
      ·first | (go_simp; done) | (go_simp; rfl)
      have nZ2 := Kd.R_ne_new ov.oN 0
      rw [Nat.add_zero] at nZ2
      obtain ⟨Z2, hbz⟩ := blk_new1 wd 3 #[.int .i64 kk]
      replace ov := ov.below hbz
      refine hK.out _ _ ⟨ov.bg.c0, ov.bm.c0, (BD.below ov.sb.get).at 0 rfl, ov.sb.c hcn⟩ (fun _ => ?_)
      clear hbz
      generalize wd.alloc (.cells #[.int .i64 kk] 3) = we at *
      generalize wd.heap.size = gZ2 at *
      clear hK K
      refine norm_ (a' := ?_) ?_ ?_
      rotate_left
      ·show Act.put _ (some 53) _ = _
       simp only [Act.put, List.setIfInBounds_toArray, List.set_cons_zero, List.set_cons_succ, i64_w, i32_w]
       rfl
      refine one_ (i := 7) (N := some 48) #[true, true, true, true, true, true, true, true, false, true, true, true, true, false, false, false, false, false] rfl rfl (one_of HT (by kernel_rfl)) (by decide) (fun K hK => ?_)
      refine value_ (w1 := we.alloc (.cells #[.int .i64 (rd dn kk)] 3)) (v := .slice (some ⟨we.heap.size, 0, none⟩) 1 1) (by rfl) rfl ?_ ?_
      ·first | (go_simp; done) | (go_simp; rfl)
      have nZ1 := Kd.R_ne_new ov.oN 0
      rw [Nat.add_zero] at nZ1
      obtain ⟨Z1, hbz⟩ := blk_new1 we 3 #[.int .i64 (rd dn kk)]
      replace ov := ov.below hbz
      replace Z2 := Z2.below hbz
      refine hK.out _ _ ⟨ov.bg.c0, ov.bm.c0, (BD.below ov.sb.get).at 0 rfl, ov.sb.c hcn⟩ (fun _ => ?_)
      clear hbz
      generalize we.alloc (.cells #[.int .i64 (rd dn kk)] 3) = wf at *
      generalize we.heap.size = gZ1 at *
      clear hK K
      refine norm_ (a' := ?_) ?_ ?_
      rotate_left
      ·show Act.put _ (some 48) _ = _
       simp only [Act.put, List.setIfInBounds_toArray, List.set_cons_zero, List.set_cons_succ, i64_w, i32_w]
       rfl
      refine one_ (i := 8) (N := some 49) #[true, true, true, true, true, true, true, true, true, true, true, true, true, false, false, false, false, false] rfl rfl (one_of HT (by kernel_rfl)) (by decide) (fun K hK => ?_)
      refine Kd.R_append_rows_step (Kd.int .i64) (w0 := w1) w1.heap.size (by rfl) (.tmp 42) (.tmp 48) 22 3 (.int .i64 0) 8 rfl Try.underlying22 info3 rfl (by decide) (by omega) vN lN [(rd dn kk)] _ _ _ (fun _ => True) (fun _ => False) rfl rfl ov.oN (Z1.row (l := [(rd dn kk)]) (by simp)).at_ (fun _ _ h => h) (fun _ h => h.elim) (fun _ _ => trivial) ov.sb.get ov.sb.get.size (by omega) ?_
      intro v1 wh ho hbl hgr hat
      replace Z2 : Blk _ _ _ _ := ⟨blk_grown Z2.get hgr nZ2⟩
      replace ov := ov.appN ho hbl hgr hat
      clear ho hbl hgr hat
      refine hK.out _ _ ⟨ov.bg.c0, ov.bm.c0, (BD.below ov.sb.get).at 0 rfl, ov.sb.c hcn⟩ (fun _ => ?_)
      clear hK K
      refine norm_ (a' := ?_) ?_ ?_
      rotate_left
      ·show Act.put _ (some 49) _ = _
       simp only [Act.put, List.setIfInBounds_toArray, List.set_cons_zero, List.set_cons_succ, i64_w, i32_w]
       rfl
      refine pure_ (i := 14) (N := some 55) (v := ?_) (a' := ?_) #[true, true, true, true, true, true, true, true, true, true, true, true, true, false, true, false, false, false] rfl rfl (any_of HT (by kernel_rfl)) (fun _ _ _ h => h) (Or.inl ⟨by rfl, ?_⟩) ?_ ?_
      rotate_left
      ·intro w'; go_simp; with_reducible rfl
      rotate_left
      ·(simp only [Act.put, List.setIfInBounds_toArray, List.set_cons_zero, List.set_cons_succ, i64_w, i32_w]; rfl)
      refine one_ (i := 13) (N := some 54) #[true, true, true, true, true, true, true, true, true, true, true, true, true, true, true, false, false, false] rfl rfl (one_of HT (by kernel_rfl)) (by decide) (fun K hK => ?_)
      refine Kd.R_append_rows_step (Kd.int .i64) (w0 := w1) w1.heap.size (by rfl) (.tmp 51) (.tmp 53) 22 3 (.int .i64 0) 8 rfl Try.underlying22 info3 rfl (by decide) (by omega) vM lM [kk] _ _ _ (fun _ => True) (fun _ => False) rfl rfl ov.oM (Z2.row (l := [kk]) (by simp)).at_ (fun _ _ h => h) (fun _ h => h.elim) (fun _ _ => trivial) ov.sb.get ov.sb.get.size (by omega) ?_
      intro v2 wk ho hbl hgr hat
      replace ov := ov.appM ho hbl hgr hat
      clear ho hbl hgr hat
      refine hK.out _ _ ⟨ov.bg.c0, ov.bm.c0, (BD.below ov.sb.get).at 0 rfl, ov.sb.c hcn⟩ (fun _ => ?_)
      clear hK K
      refine norm_ (a' := ?_) ?_ ?_
      rotate_left
      ·show Act.put _ (some 54) _ = _
       simp only [Act.put, List.setIfInBounds_toArray, List.set_cons_zero, List.set_cons_succ, i64_w, i32_w]
       rfl
      exact hCont ⟨_, _, _, _⟩ _ ov
    rintro ⟨v48, v49, v53, v54⟩ w2 ov2
    clear ov ov1 hHeld HT
    replace ov : Ov w1 g m vN (.slice none 0 0) vM (.slice none 0 0) v49 (.slice none 0 0) v54 (.slice none 0 0) (lN ++ [rd dn kk]) [] (lM ++ [kk]) [] w2 := ov2
    clear ov2
    refine norm_ (a' := ?_) ?_ ?_
    rotate_left
    ·simp only [putAll, Act.put, List.setIfInBounds_toArray, List.set_cons_zero, List.set_cons_succ]
     rfl
    obtain ⟨AN, cN, rfl⟩ := Kd.R_slice ov.oN
    obtain ⟨AM, cM, rfl⟩ := Kd.R_slice ov.oM
    refine plan_post [(15, 3, none), (16, 1, some 56), (17, 3, none)] ((true, [([], []), ([0], [0]), ([], []), ([2], [2]), ([], []), ([3, 4], [3, 4]), ([5], [5]), ([6], [6]), ([1, 7], [1, 7]), ([], []), ([9], [9]), ([], []), ([11], [11]), ([10, 12, 8], [10, 12]), ([0, 1, 2, 3, 4, 5, 6, 7, 8], []), ([14, 8, 13, 0, 1, 2, 3, 4, 5, 6, 7, 8], [8, 14]), ([0, 1, 2, 3, 4, 5, 6, 7, 8, 9, 10, 11, 12, 13, 14, 15], []), ([16, 13, 15, 0, 1, 2, 3, 4, 5, 6, 7, 8, 9, 10, 11, 12, 13, 14, 15], [13, 16])])) [0, 1, 0, 4, 0, 28, 60, 124, 255, 0, 512, 0, 2048, 8191, 511, 32767, 65535, 131071] (by kernel_rfl) (by kernel_rfl) rfl (by kernel_rfl) (by kernel_rfl) (fun _ _ d _ _ h => by cases d <;> exact h) ?_
    refine pl3 rfl rfl (fun K hK => ?_)
    have hs := ov.bg.c0
    have hf := blk_frozen ov.bg.get 0
    refine skip_ (w1 := w2.setCell ⟨g, 0, none⟩ (.slice AN (lN ++ [rd dn kk]).length cN)) (by rfl) rfl ?_ ?_
    ·first | (go_simp; done) | (go_simp; rfl)
    refine hK.out _ _ ?_
    clear hK K hs hf
    replace ov := ov.put0 (.slice AN (lN ++ [rd dn kk]).length cN)
    generalize w2.setCell _ _ = w2' at *
    repeat (first
     | (refine pl1 (v := ?_) (a' := ?_) rfl rfl (Or.inl ⟨by rfl, ?_⟩) ?_ ?_; rotate_left; (intro w'; go_simp; with_reducible rfl); rotate_left; (simp only [Act.put, List.setIfInBounds_toArray, List.set_cons_zero, List.set_cons_succ, i64_w, i32_w]; rfl))
     | (refine pl2 (v := ?_) (a' := ?_) rfl rfl trivial (Or.inl ⟨by rfl, ?_⟩) ?_ ?_; rotate_left; (rintro w' ⟨s0, s1, s2, s3⟩; go_simp; with_reducible rfl); rotate_left; (simp only [Act.put, List.setIfInBounds_toArray, List.set_cons_zero, List.set_cons_succ, i64_w, i32_w]; rfl)))
    refine pl3 rfl rfl (fun K hK => ?_)
    have hs := ov.bm.c0
    have hf := blk_frozen ov.bm.get 0
    refine skip_ (w1 := w2'.setCell ⟨m, 0, none⟩ (.slice AM (lM ++ [kk]).length cM)) (by rfl) rfl ?_ ?_
    ·first | (go_simp; done) | (go_simp; rfl)
    refine hK.out _ _ ?_
    clear hK K hs hf
    replace ov := ov.put2 (.slice AM (lM ++ [kk]).length cM)
    generalize w2'.setCell _ _ = w2'' at *
    refine pl_end ?_
    go_wp2_with fail
    have A_ := A.out
    have l3 := okN_snoc A_.2.2.2.2.1 (by omega) k0 k1 rfl
    have l4 := rd_mem dn kk k0 k1
    have l5 := (validE_iff.mp hd_.out).2.2.1
    go_roundg (gk - 1)
    case measure => have := k.1; omega
    case rel => exact ⟨i + 1, _, _, _, _, by rw [Int.natCast_add]; rfl, ⟨by omega, by omega, by simp; omega, by simp; omega, l3, fun t ht => by
     rcases List.mem_append.mp ht with ht | ht
     ·exact A_.2.2.2.2.2 t ht
     ·rw [List.mem_singleton.mp ht]; exact l5 _ l4⟩, ov⟩
   ·skip
    have hk : (decide ((i : Int) < (xn.length : Int)) && (decide ((i : Int) < 8) && decide (0 < dn.length))) = false := by
     cases hk : (decide ((i : Int) < (xn.length : Int)) && (decide ((i : Int) < 8) && decide (0 < dn.length))) with
     | false => rfl
     | true =>
      simp only [Bool.and_eq_true, decide_eq_true_eq] at hk
      exact absurd hk k
    rw [hk]
    clear hk k
    obtain ⟨AN, cN, rfl⟩ := Kd.R_slice ov.oN
    obtain ⟨AM, cM, rfl⟩ := Kd.R_slice ov.oM
    go_wp2_with fail
    go_loopg [10] xe.length (fun kq v10 w' => ∃ (j : Nat) (lE : List S94) (lF : List Int) (vE vF : Value), v10 = .int .i64 j ∧ Aside0 (j + kq = xe.length ∧ j ≤ 10 ∧ lE.length ≤ j ∧ lE.length = lF.length ∧ okM lE de lM lF ∧ ∀ e ∈ lE, edgeB lN.length e = true) ∧ Ov w1 g m (.slice AN lN.length cN) vE (.slice AM lM.length cM) vF (.slice AN lN.length cN) vE (.slice AM lM.length cM) vF lN lE lM lF w')
    case atStart => exact ⟨0, [], [], _, _, rfl, ⟨by omega, by omega, by simp, rfl, fun j hj => absurd hj (by simp), by simp⟩, ov⟩
    case round =>
     clear ov
     obtain ⟨j, lE, lF, vE, vF, rfl, A2, ov⟩ := hrel
     go_upto_region 9 with fail
     go_cut [71] (fun v71 wc => v71 = .bool (decide ((j : Int) < (xe.length : Int)) && (decide ((j : Int) < 10) && decide (0 < de.length))) ∧ Ov w1 g m (.slice AN lN.length cN) vE (.slice AM lM.length cM) vF (.slice AN lN.length cN) vE (.slice AM lM.length cM) vF lN lE lM lF wc)
     case first =>
      obtain ⟨_, _⟩ := (BX.below ov.sb.get).q2
      obtain ⟨_, _⟩ := (BD.below ov.sb.get).q2
      by_cases k1 : (j : Int) < (xe.length : Int)
      ·by_cases k2 : (j : Int) < 10
       ·go_wp2_with fail
        go_meet
        case rel => exact ⟨by first | (simp [k1, k2]; done) | (simp; intros; omega), ov⟩
       ·go_wp2_with fail
        go_meet
        case rel => exact ⟨by first | (simp [k1, k2]; done) | (simp; intros; omega), ov⟩
      ·go_wp2_with fail
       go_meet
       case rel => exact ⟨by first | (simp [k1]; done) | (simp; intros; omega), ov⟩
     case rest =>
      clear ov
      obtain ⟨rfl, ov⟩ := hcut
      by_cases k : (j : Int) < (xe.length : Int) ∧ (j : Int) < 10 ∧ 0 < de.length
      ·skip
       have hk : (decide ((j : Int) < (xe.length : Int)) && (decide ((j : Int) < 10) && decide (0 < de.length))) = true := by simp [k.1, k.2.1, k.2.2]
       rw [hk]
       clear hk
       go_upto_region 11 with fail
       obtain ⟨_, _⟩ := (BX.below ov.sb.get).q2
       obtain ⟨_, _⟩ := (BD.below ov.sb.get).q2
       obtain ⟨ax, eax, hx0, hx1, hx2⟩ := at_T95 R3.at_ (j : Int) (by omega) k.1
       cases eax
       rw [Int.toNat_natCast] at hx0 hx1 hx2
       have hc := ov.sb.c hx0
       have q1 := eq_true k.1
       have q0 : (0 ≤ (j : Int)) = True := eq_true (by omega)
       have q2 : ((de.length : Int) = 0) = False := eq_false (by omega)
       go_quiet (fail)
       go_wp2_with fail
       have hxi := hy_.out (rd_T95 xe (j : Int)) (rd95_mem xe (j : Int) (by omega) k.1)
       have hw : wrap64 (rd_T95 xe (j : Int)).f0 = (rd_T95 xe (j : Int)).f0 := by unfold wrap64; omega
       rw [hw]
       obtain ⟨ke, hke, k0, k1⟩ : ∃ ke : Int, ke = (rd_T95 xe (j : Int)).f0.tmod (de.length : Int) ∧ 0 ≤ ke ∧ ke < (de.length : Int) := ⟨_, rfl, Int.tmod_nonneg _ hxi.1.1, Int.tmod_lt_of_pos _ (by omega)⟩
       rw [← hke]
       clear hke hw
       obtain ⟨ae, eae, he0, he1, he2⟩ := at_T94 R1.at_ ke k0 k1
       cases eae
       replace ov := ov.below (pw_below_drewN (Below.refl _ _) nq)
       clear hc q2
       generalize wc.drewN nq = wq at ov ⊢
       have p0 := eq_true k0
       have p1 := eq_true k1
       replace ov := ov.below (below_drew1 (Below.refl _ _))
       have hHeld : wq.drew.cell? ⟨m, 0, none⟩ = some (.slice AM lM.length cM) ∧ wq.drew.cell? ⟨gd, 1, none⟩ = some (.slice (some ae) de.length c1) ∧ wq.drew.cell? ⟨(ae.add (ke.toNat * 3)).block, (ae.add (ke.toNat * 3)).off + 1, none⟩ = some (.int .i64 (rd_T94 de ke).f1) ∧ wq.drew.cell? ⟨(ae.add (ke.toNat * 3)).block, (ae.add (ke.toNat * 3)).off + 2, none⟩ = some (.int .i64 (rd_T94 de ke).f2) := ⟨ov.bm.c0, (BD.below ov.sb.get).at 1 rfl, ov.sb.c he1, ov.sb.c he2⟩
       have lM8 : lM.length ≤ 8 := by have := A.out; omega
       obtain ⟨K1, hK1⟩ := over_ev lM (rd_T94 de ke).f1 (by omega)
       obtain ⟨K2, hK2⟩ := over_ev lM (rd_T94 de ke).f2 (by omega)
       refine plan_ (fun w' => w'.cell? ⟨m, 0, none⟩ = some (.slice AM lM.length cM) ∧ w'.cell? ⟨gd, 1, none⟩ = some (.slice (some ae) de.length c1) ∧ w'.cell? ⟨(ae.add (ke.toNat * 3)).block, (ae.add (ke.toNat * 3)).off + 1, none⟩ = some (.int .i64 (rd_T94 de ke).f1) ∧ w'.cell? ⟨(ae.add (ke.toNat * 3)).block, (ae.add (ke.toNat * 3)).off + 2, none⟩ = some (.int .i64 (rd_T94 de ke).f2)) [] [(0, 1, some 85), (1, 2, some 86), (2, 1, some 87), (3, 2, some 88), (4, 1, some 89), (5, 1, some 90), (6, 1, some 91), (7, 2, some 92), (9, 1, some 94), (10, 2, some 95), (11, 1, some 96), (12, 2, some 97), (13, 1, some 98), (14, 1, some 99), (15, 1, some 100), (16, 2, some 101), (8, 0, some 93), (17, 0, some 102), (18, 1, some 12), (19, 1, some 13)] ((true, [([], []), ([0], [0]), ([], []), ([2], [2]), ([], []), ([3, 4], [3, 4]), ([5], [5]), ([6], [6]), ([1, 7], [1, 7]), ([], []), ([9], [9]), ([], []), ([11], [11]), ([], []), ([12, 13], [12, 13]), ([14], [14]), ([15], [15]), ([10, 16, 8], [10, 16]), ([8, 17, 0, 1, 2, 3, 4, 5, 6, 7, 8], [8]), ([17, 18, 0, 1, 2, 3, 4, 5, 6, 7, 8, 9, 10, 11, 12, 13, 14, 15, 16, 17, 18], [17])])) [0, 1, 0, 4, 0, 28, 60, 124, 255, 0, 512, 0, 2048, 0, 14336, 30720, 63488, 131071, 262143, 524287] (by kernel_rfl) (by kernel_rfl) rfl rfl (by kernel_rfl) (by kernel_rfl) (fun _ _ d _ _ h => by cases d <;> exact h) ?_
       generalize wq.drew = wd at *
       repeat (first
        | (refine pl1 (v := ?_) (a' := ?_) rfl rfl (Or.inl ⟨by rfl, ?_⟩) ?_ ?_; rotate_left; (intro w'; go_simp; with_reducible rfl); rotate_left; (simp only [Act.put, List.setIfInBounds_toArray, List.set_cons_zero, List.set_cons_succ, i64_w, i32_w]; rfl))
        | (refine pl2 (v := ?_) (a' := ?_) rfl rfl hHeld (Or.inl ⟨by rfl, ?_⟩) ?_ ?_; rotate_left; (rintro w' ⟨s0, s1, s2, s3⟩; go_simp; with_reducible rfl); rotate_left; (simp only [Act.put, List.setIfInBounds_toArray, List.set_cons_zero, List.set_cons_succ, i64_w, i32_w]; rfl)))
       refine pl0 rfl rfl (fun K hK => ?_)
       refine goes_ Try.func54 (by kernel_rfl) rfl #[.slice AM lM.length cM, .int .i64 (rd_T94 de ke).f1] (by rfl) rfl rfl (by (try simp only [List.map_toArray, List.map_cons, List.map_nil]); first | done | rfl) ?_
       refine (scarfjointref11_over.calls K1 _ _ lM _ (ovl (rd_T94 de ke).f1 0 lM) _ (Kd.R_reads' ov.oM).2.2 (Kd.R_reads' ov.oM).2.1 (hK1 _ (Nat.le_refl _))).mono ?_
       rintro e we ⟨z1, rfl, hz1, hb⟩
       refine ⟨_, rfl, ?_⟩
       replace ov := ov.below hb
       replace hz1 := Vr.of_R hz1
       refine hK.out _ _ ⟨ov.bm.c0, (BD.below ov.sb.get).at 1 rfl, ov.sb.c he1, ov.sb.c he2⟩ (fun _ => ?_)
       clear hb hK K
       refine plN (a' := ?_) ?_ ?_
       rotate_left
       ·(simp only [Act.put, List.setIfInBounds_toArray, List.set_cons_zero, List.set_cons_succ, i64_w, i32_w]; rfl)
       refine pl0 rfl rfl (fun K hK => ?_)
       refine goes_ Try.func54 (by kernel_rfl) rfl #[.slice AM lM.length cM, .int .i64 (rd_T94 de ke).f2] (by rfl) rfl rfl (by (try simp only [List.map_toArray, List.map_cons, List.map_nil]); first | done | rfl) ?_
       refine (scarfjointref11_over.calls K2 _ _ lM _ (ovl (rd_T94 de ke).f2 0 lM) _ (Kd.R_reads' ov.oM).2.2 (Kd.R_reads' ov.oM).2.1 (hK2 _ (Nat.le_refl _))).mono ?_
       rintro e wf ⟨z2, rfl, hz2, hb⟩
       refine ⟨_, rfl, ?_⟩
       replace ov := ov.below hb
       replace hz1 := hz1.below hb
       replace hz2 := Vr.of_R hz2
       refine hK.out _ _ ⟨ov.bm.c0, (BD.below ov.sb.get).at 1 rfl, ov.sb.c he1, ov.sb.c he2⟩ (fun _ => ?_)
       clear hb hK K
       refine plN (a' := ?_) ?_ ?_
       rotate_left
       ·(simp only [Act.put, List.setIfInBounds_toArray, List.set_cons_zero, List.set_cons_succ, i64_w, i32_w]; rfl)
       repeat (first
        | (refine pl1 (v := ?_) (a' := ?_) rfl rfl (Or.inl ⟨by rfl, ?_⟩) ?_ ?_; rotate_left; (intro w'; go_simp; with_reducible rfl); rotate_left; (simp only [Act.put, List.setIfInBounds_toArray, List.set_cons_zero, List.set_cons_succ, i64_w, i32_w]; rfl))
        | (refine pl2 (v := ?_) (a' := ?_) rfl rfl trivial (Or.inl ⟨by rfl, ?_⟩) ?_ ?_; rotate_left; (rintro w' ⟨s0, s1, s2, s3⟩; go_simp; with_reducible rfl); rotate_left; (simp only [Act.put, List.setIfInBounds_toArray, List.set_cons_zero, List.set_cons_succ, i64_w, i32_w]; rfl)))
       refine pl_end ?_
       clear hK1 hK2 hHeld
       obtain ⟨Af, cf, rfl, RF⟩ := hz1.get
       obtain ⟨At, ct, rfl, RT⟩ := hz2.get
       clear hz1 hz2
       have pF := fun i h0 h1 => ovl_rd (rd_T94 de ke).f1 lM i h0 h1
       have pT := fun i h0 h1 => ovl_rd (rd_T94 de ke).f2 lM i h0 h1
       generalize ovl (rd_T94 de ke).f1 0 lM = FR at *
       generalize ovl (rd_T94 de ke).f2 0 lM = TR at *
       have pF_ := Aside0.mk pF
       have pT_ := Aside0.mk pT
       clear pF pT
       go_upto_region 13 with fail
       by_cases z1 : FR.length = 0
       ·have d1 : ((FR.length : Int) == 0) = true := beq_iff_eq.mpr (by omega)
        go_wp2_with fail
        have A_ := A2.out
        go_roundg (gk - 1)
        case measure => have := k.1; omega
        case rel => exact ⟨j + 1, _, _, _, _, by rw [Int.natCast_add]; rfl, ⟨by omega, by omega, by omega, A_.2.2.2.1, A_.2.2.2.2.1, A_.2.2.2.2.2⟩, ov⟩
       ·have d1 : ((FR.length : Int) == 0) = false := beq_eq_false_iff_ne.mpr (by omega)
        by_cases z2 : TR.length = 0
        ·have d2 : ((TR.length : Int) == 0) = true := beq_iff_eq.mpr (by omega)
         go_wp2_with fail
         have A_ := A2.out
         go_roundg (gk - 1)
         case measure => have := k.1; omega
         case rel => exact ⟨j + 1, _, _, _, _, by rw [Int.natCast_add]; rfl, ⟨by omega, by omega, by omega, A_.2.2.2.1, A_.2.2.2.2.1, A_.2.2.2.2.2⟩, ov⟩
        ·have d2 : ((TR.length : Int) == 0) = false := beq_eq_false_iff_ne.mpr (by omega)
         go_upto_region 14 with fail
         have w1_ : wrap64 (rd_T95 xe (j : Int)).f1 = (rd_T95 xe (j : Int)).f1 := by unfold wrap64; omega
         have w2_ : wrap64 (rd_T95 xe (j : Int)).f2 = (rd_T95 xe (j : Int)).f2 := by unfold wrap64; omega
         have f0 : 0 ≤ ((wrap64 (rd_T95 xe (j : Int)).f1).tmod (FR.length : Int)) := by rw [w1_]; exact Int.tmod_nonneg _ hxi.2.1.1
         have f1 : ((wrap64 (rd_T95 xe (j : Int)).f1).tmod (FR.length : Int)) < (FR.length : Int) := Int.tmod_lt_of_pos _ (by omega)
         have g0 : 0 ≤ ((wrap64 (rd_T95 xe (j : Int)).f2).tmod (TR.length : Int)) := by rw [w2_]; exact Int.tmod_nonneg _ hxi.2.2.1
         have g1 : ((wrap64 (rd_T95 xe (j : Int)).f2).tmod (TR.length : Int)) < (TR.length : Int) := Int.tmod_lt_of_pos _ (by omega)
         clear w1_ w2_
         obtain ⟨af, eaf, hf⟩ := Kd.at_int RF.at_ ((wrap64 (rd_T95 xe (j : Int)).f1).tmod (FR.length : Int)) f0 f1
         cases eaf
         obtain ⟨at_, eat, ht⟩ := Kd.at_int RT.at_ ((wrap64 (rd_T95 xe (j : Int)).f2).tmod (TR.length : Int)) g0 g1
         cases eat
         have pF := pF_.out _ f0 f1
         have pT := pT_.out _ g0 g1
         have pF2_ := Aside0.mk pF
         have pT2_ := Aside0.mk pT
         clear pF pT pF_ pT_
         have q2 : ((FR.length : Int) = 0) = False := eq_false (by omega)
         have q3 : ((TR.length : Int) = 0) = False := eq_false (by omega)
         replace f0 := eq_true f0
         replace f1 := eq_true f1
         replace g0 := eq_true g0
         replace g1 := eq_true g1
         have hbd := below_drew1 (Below.refl wf.heap.size wf)
         replace ov := ov.below hbd
         replace hf := Since.c ⟨hbd⟩ hf
         replace ht := Since.c ⟨hbd⟩ ht
         clear hbd RF RT
         have hHeld : wf.drew.cell? ⟨g, 1, none⟩ = some (vE) ∧ wf.drew.cell? ⟨gd, 1, none⟩ = some (.slice (some ae) de.length c1) ∧ wf.drew.cell? (ae.add (ke.toNat * 3)) = some (.int .i64 (rd_T94 de ke).f0) ∧ wf.drew.cell? ⟨gx, 1, none⟩ = some (.slice (some ax) xe.length c3) ∧ wf.drew.cell? ⟨(ax.add (j * 3)).block, (ax.add (j * 3)).off + 1, none⟩ = some (.int .u8 (rd_T95 xe (j : Int)).f1) ∧ wf.drew.cell? ⟨(ax.add (j * 3)).block, (ax.add (j * 3)).off + 2, none⟩ = some (.int .u8 (rd_T95 xe (j : Int)).f2) ∧ wf.drew.cell? (af.add ((wrap64 (rd_T95 xe (j : Int)).f1).tmod (FR.length : Int)).toNat) = some (.int .i64 (rd FR ((wrap64 (rd_T95 xe (j : Int)).f1).tmod (FR.length : Int)))) ∧ wf.drew.cell? (at_.add ((wrap64 (rd_T95 xe (j : Int)).f2).tmod (TR.length : Int)).toNat) = some (.int .i64 (rd TR ((wrap64 (rd_T95 xe (j : Int)).f2).tmod (TR.length : Int)))) := ⟨ov.bg.c1, (BD.below ov.sb.get).at 1 rfl, ov.sb.c he0, (BX.below ov.sb.get).at 1 rfl, ov.sb.c hx1, ov.sb.c hx2, hf, ht⟩
         refine plan_ (fun w' => w'.cell? ⟨g, 1, none⟩ = some (vE) ∧ w'.cell? ⟨gd, 1, none⟩ = some (.slice (some ae) de.length c1) ∧ w'.cell? (ae.add (ke.toNat * 3)) = some (.int .i64 (rd_T94 de ke).f0) ∧ w'.cell? ⟨gx, 1, none⟩ = some (.slice (some ax) xe.length c3) ∧ w'.cell? ⟨(ax.add (j * 3)).block, (ax.add (j * 3)).off + 1, none⟩ = some (.int .u8 (rd_T95 xe (j : Int)).f1) ∧ w'.cell? ⟨(ax.add (j * 3)).block, (ax.add (j * 3)).off + 2, none⟩ = some (.int .u8 (rd_T95 xe (j : Int)).f2) ∧ w'.cell? (af.add ((wrap64 (rd_T95 xe (j : Int)).f1).tmod (FR.length : Int)).toNat) = some (.int .i64 (rd FR ((wrap64 (rd_T95 xe (j : Int)).f1).tmod (FR.length : Int)))) ∧ w'.cell? (at_.add ((wrap64 (rd_T95 xe (j : Int)).f2).tmod (TR.length : Int)).toNat) = some (.int .i64 (rd TR ((wrap64 (rd_T95 xe (j : Int)).f2).tmod (TR.length : Int))))) [36, 38] [(0, 1, some 111), (1, 2, some 112), (2, 1, some 113), (3, 2, some 114), (4, 1, some 115), (5, 1, some 116), (6, 1, some 117), (7, 2, some 118), (8, 1, some 119), (9, 1, some 120), (10, 2, some 121), (11, 1, some 122), (12, 1, some 123), (13, 1, some 124), (14, 2, some 125), (15, 1, some 126), (16, 1, some 127), (17, 1, some 128), (18, 1, some 129), (19, 1, some 130), (20, 2, some 131), (21, 1, some 132), (22, 1, some 133), (23, 2, some 134), (24, 1, some 135), (25, 1, some 136), (26, 1, some 137), (27, 2, some 138), (28, 1, some 139), (29, 1, some 140), (30, 1, some 141), (31, 1, some 142), (32, 1, some 143), (33, 2, some 144), (34, 1, some 145), (35, 0, some 146), (36, 3, some 147), (37, 1, some 148), (38, 3, none)] ((true, [([], []), ([0], [0]), ([], []), ([2], [2]), ([], []), ([3, 4], [3, 4]), ([5], [5]), ([6], [6]), ([], []), ([], []), ([9], [9]), ([], []), ([10, 11], [10, 11]), ([12], [12]), ([13], [13]), ([14], [14]), ([], []), ([16], [16]), ([15, 17], [15, 17]), ([8, 18], [8, 18]), ([19], [19]), ([], []), ([], []), ([22], [22]), ([], []), ([23, 24], [23, 24]), ([25], [25]), ([26], [26]), ([27], [27]), ([], []), ([29], [29]), ([28, 30], [28, 30]), ([21, 31], [21, 31]), ([32], [32]), ([7, 20, 33], [7, 20, 33]), ([34], [34]), ([1, 35], [1, 35]), ([0, 1, 2, 3, 4, 5, 6, 7, 8, 9, 10, 11, 12, 13, 14, 15, 16, 17, 18, 19, 20, 21, 22, 23, 24, 25, 26, 27, 28, 29, 30, 31, 32, 33, 34, 35, 36], []), ([37, 36, 36, 0, 1, 2, 3, 4, 5, 6, 7, 8, 9, 10, 11, 12, 13, 14, 15, 16, 17, 18, 19, 20, 21, 22, 23, 24, 25, 26, 27, 28, 29, 30, 31, 32, 33, 34, 35, 36], [36, 37])])) [0, 1, 0, 4, 0, 28, 60, 124, 0, 0, 512, 0, 3584, 7680, 15872, 32256, 0, 65536, 261632, 524032, 1048320, 0, 0, 4194304, 0, 29360128, 62914560, 130023424, 264241152, 0, 536870912, 2143289344, 4292870144, 8587837440, 17179869180, 34359738364, 68719476735, 137438953471, 274877906943] (by kernel_rfl) (by kernel_rfl) rfl rfl (by kernel_rfl) (by kernel_rfl) (fun _ _ d _ _ h => by cases d <;> exact h) ?_
         generalize wf.drew = wd at *
         repeat (first
          | (refine pl1 (v := ?_) (a' := ?_) rfl rfl (Or.inl ⟨by rfl, ?_⟩) ?_ ?_; rotate_left; (intro w'; go_simp; with_reducible rfl); rotate_left; (simp only [Act.put, List.setIfInBounds_toArray, List.set_cons_zero, List.set_cons_succ, i64_w, i32_w]; rfl))
          | (refine pl2 (v := ?_) (a' := ?_) rfl rfl hHeld (Or.inl ⟨by rfl, ?_⟩) ?_ ?_; rotate_left; (rintro w' ⟨s0, s1, s2, s3, s4, s5, s6, s7⟩; go_simp; with_reducible rfl); rotate_left; (simp only [Act.put, List.setIfInBounds_toArray, List.set_cons_zero, List.set_cons_succ, i64_w, i32_w]; rfl)))
         refine pl0 rfl rfl (fun K hK => ?_)
         refine value_ (w1 := wd.alloc (.cells #[.int .i64 (rd_T94 de ke).f0, .int .i64 (rd FR ((wrap64 (rd_T95 xe (j : Int)).f1).tmod (FR.length : Int))), .int .i64 (rd TR ((wrap64 (rd_T95 xe (j : Int)).f2).tmod (TR.length : Int)))] 94)) (v := .slice (some ⟨wd.heap.size, 0, none⟩) 1 1) (by rfl) rfl ?_ ?_
         ·first | (go_simp; done) | (go_simp; rfl)
         obtain ⟨Z1, hbz⟩ := blk_new1 wd 94 #[.int .i64 (rd_T94 de ke).f0, .int .i64 (rd FR ((wrap64 (rd_T95 xe (j : Int)).f1).tmod (FR.length : Int))), .int .i64 (rd TR ((wrap64 (rd_T95 xe (j : Int)).f2).tmod (TR.length : Int)))]
         replace ov := ov.below hbz
         replace hf := Since.c ⟨hbz⟩ hf
         replace ht := Since.c ⟨hbz⟩ ht
         refine hK.out _ _ ⟨ov.bg.c1, (BD.below ov.sb.get).at 1 rfl, ov.sb.c he0, (BX.below ov.sb.get).at 1 rfl, ov.sb.c hx1, ov.sb.c hx2, hf, ht⟩ (fun _ => ?_)
         clear hbz
         generalize wd.alloc (.cells #[.int .i64 (rd_T94 de ke).f0, .int .i64 (rd FR ((wrap64 (rd_T95 xe (j : Int)).f1).tmod (FR.length : Int))), .int .i64 (rd TR ((wrap64 (rd_T95 xe (j : Int)).f2).tmod (TR.length : Int)))] 94) = wg at *
         generalize wd.heap.size = gz at *
         clear hK K
         refine plN (a' := ?_) ?_ ?_
         rotate_left
         ·(simp only [Act.put, List.setIfInBounds_toArray, List.set_cons_zero, List.set_cons_succ, i64_w, i32_w]; rfl)
         have l1 : lE.length ≤ 10 := by have := A2.out; omega
         refine pl3 rfl rfl (fun K hK => ?_)
         refine Kd.R_append_rows_step k94 (w0 := w1) w1.heap.size (by rfl) (.tmp 112) (.tmp 146) 23 94 (.agg #[(.int .i64 0), (.int .i64 0), (.int .i64 0)]) 24 rfl Try.underlying23 info94 rfl (by decide) (by omega) vE lE [(⟨(rd_T94 de ke).f0, rd FR ((wrap64 (rd_T95 xe (j : Int)).f1).tmod (FR.length : Int)), rd TR ((wrap64 (rd_T95 xe (j : Int)).f2).tmod (TR.length : Int))⟩ : S94)] _ _ _ (fun _ => True) (fun _ => False) rfl rfl ov.oE (Z1.row94 (x := (⟨(rd_T94 de ke).f0, rd FR ((wrap64 (rd_T95 xe (j : Int)).f1).tmod (FR.length : Int)), rd TR ((wrap64 (rd_T95 xe (j : Int)).f2).tmod (TR.length : Int))⟩ : S94))).at_ (fun _ _ h => h) (fun _ h => h.elim) (fun _ _ => trivial) ov.sb.get ov.sb.get.size (by omega) ?_
         intro v1 wh ho hbl hgr hat
         replace ov := ov.appE ho hbl hgr
         clear ho hbl hgr hat
         obtain ⟨AE, cE, rfl⟩ := Kd.R_slice ov.oE
         refine hK.out _ _ ?_
         clear hK K
         refine plN (a' := ?_) ?_ ?_
         rotate_left
         ·(simp only [Act.put, List.setIfInBounds_toArray, List.set_cons_zero, List.set_cons_succ, i64_w, i32_w]; rfl)
         repeat (first
          | (refine pl1 (v := ?_) (a' := ?_) rfl rfl (Or.inl ⟨by rfl, ?_⟩) ?_ ?_; rotate_left; (intro w'; go_simp; with_reducible rfl); rotate_left; (simp only [Act.put, List.setIfInBounds_toArray, List.set_cons_zero, List.set_cons_succ, i64_w, i32_w]; rfl))
          | (refine pl2 (v := ?_) (a' := ?_) rfl rfl hHeld (Or.inl ⟨by rfl, ?_⟩) ?_ ?_; rotate_left; (rintro w' ⟨s0, s1, s2, s3, s4, s5, s6, s7⟩; go_simp; with_reducible rfl); rotate_left; (simp only [Act.put, List.setIfInBounds_toArray, List.set_cons_zero, List.set_cons_succ, i64_w, i32_w]; rfl)))
         refine pl3 rfl rfl (fun K hK => ?_)
         have hs := ov.bg.c1
         have hf := blk_frozen ov.bg.get 1
         refine skip_ (w1 := wh.setCell ⟨g, 1, none⟩ (.slice AE (lE ++ [(⟨(rd_T94 de ke).f0, rd FR ((wrap64 (rd_T95 xe (j : Int)).f1).tmod (FR.length : Int)), rd TR ((wrap64 (rd_T95 xe (j : Int)).f2).tmod (TR.length : Int))⟩ : S94)]).length cE)) (by rfl) rfl ?_ ?_
         ·first | (go_simp; done) | (go_simp; rfl)
         refine hK.out _ _ ?_
         clear hK K hs hf
         replace ov := ov.put1 (.slice AE (lE ++ [(⟨(rd_T94 de ke).f0, rd FR ((wrap64 (rd_T95 xe (j : Int)).f1).tmod (FR.length : Int)), rd TR ((wrap64 (rd_T95 xe (j : Int)).f2).tmod (TR.length : Int))⟩ : S94)]).length cE)
         generalize wh.setCell _ _ = wh' at *
         refine pl_end ?_
         go_upto_region 15 with fail
         have l2 : lF.length ≤ 10 := by have := A2.out; omega
         have hm1 := ov.bm.c1
         have hmf := blk_frozen ov.bm.get 1
         go_wp2_with (first | ((with_reducible refine gate_builtin (b := .append) (xs := #[.tmp 150, .tmp 152]) rfl ?_); at_builtin; refine Kd.R_append (Kd.int .i64) (w0 := w1) w1.heap.size rfl (.tmp 150) (.tmp 152) 22 3 (.int .i64 0) 8 rfl Try.underlying22 info3 rfl (by decide) (by omega) vF lF ke [.int .i64 ke] (fun _ => True) (fun _ => False) rfl rfl ?aP (fun _ hk => hk.elim) ?aF ?aO ?aB ?aS ?aL ?_; (case aP => exact rfl); (case aB => exact ov.sb.get); (case aF => exact (fun _ _ => trivial)); (case aO => exact ov.oF); (case aS => exact ov.sb.get.size); (case aL => omega); intro v2 wk ho hbl hgr hat; replace ov := ov.appF ho hbl hgr hat; clear ho hbl hgr hat hm1 hmf; obtain ⟨AF, cF, rfl⟩ := Kd.R_slice ov.oF; rw [show (lF ++ [ke]).length = lF.length + 1 from by simp] at ov; have hm1 := ov.bm.c1; have hmf := blk_frozen ov.bm.get 1))
         try go_wp2_with fail
         replace ov := ov.put3 (.slice AF (lF.length + 1) cF)
         have A_ := A2.out
         have L_ := A.out
         have k0' : 0 ≤ ke := of_eq_true p0
         have k1' : ke < (de.length : Int) := of_eq_true p1
         have l6 := edge_facts hd_.out ke k0' k1'
         have pF := pF2_.out
         have pT := pT2_.out
         have l3 := okM_snoc (e := (⟨(rd_T94 de ke).f0, rd FR ((wrap64 (rd_T95 xe (j : Int)).f1).tmod (FR.length : Int)), rd TR ((wrap64 (rd_T95 xe (j : Int)).f2).tmod (TR.length : Int))⟩ : S94)) A_.2.2.2.2.1 A_.2.2.2.1 k0' k1' rfl pF.2.2 pT.2.2
         go_roundg (gk - 1)
         case measure => have := k.1; omega
         case rel => exact ⟨j + 1, _, _, _, _, by rw [Int.natCast_add]; rfl, ⟨by omega, by omega, by rw [List.length_append, List.length_singleton]; omega, by rw [List.length_append, List.length_append, A_.2.2.2.1]; rfl, l3, fun e he => by
          rcases List.mem_append.mp he with he | he
          ·exact A_.2.2.2.2.2 e he
          ·rw [List.mem_singleton.mp he]
           unfold edgeB
           simp only [Bool.and_eq_true, decide_eq_true_eq]
           exact ⟨l6.1, ⟨pF.1, by omega⟩, pT.1, by omega⟩⟩, ov⟩
      ·skip
       have hk : (decide ((j : Int) < (xe.length : Int)) && (decide ((j : Int) < 10) && decide (0 < de.length))) = false := by
        cases hk : (decide ((j : Int) < (xe.length : Int)) && (decide ((j : Int) < 10) && decide (0 < de.length))) with
        | false => rfl
        | true =>
         simp only [Bool.and_eq_true, decide_eq_true_eq] at hk
         exact absurd hk k
       rw [hk]
       clear hk k
       obtain ⟨AE, cE, rfl⟩ := Kd.R_slice ov.oE
       obtain ⟨AF, cF, rfl⟩ := Kd.R_slice ov.oF
       go_upto_region 16 with fail
       replace ov := ov.below (below_drew1 (Below.refl _ _))
       have hHeld : wc.drew.cell? ⟨g, 0, none⟩ = some (.slice AN lN.length cN) ∧ wc.drew.cell? ⟨g, 1, none⟩ = some (.slice AE lE.length cE) ∧ wc.drew.cell? ⟨m, 0, none⟩ = some (.slice AM lM.length cM) ∧ wc.drew.cell? ⟨m, 1, none⟩ = some (.slice AF lF.length cF) := ⟨ov.bg.c0, ov.bg.c1, ov.bm.c0, ov.bm.c1⟩
       refine plan_ (fun w' => w'.cell? ⟨g, 0, none⟩ = some (.slice AN lN.length cN) ∧ w'.cell? ⟨g, 1, none⟩ = some (.slice AE lE.length cE) ∧ w'.cell? ⟨m, 0, none⟩ = some (.slice AM lM.length cM) ∧ w'.cell? ⟨m, 1, none⟩ = some (.slice AF lF.length cF)) [3] [(0, 2, some 155), (1, 2, some 156), (2, 0, none), (3, 3, none)] ((true, [([], []), ([], []), ([0, 0], [0]), ([1, 2, 0, 1, 2], [1])])) [0, 0, 1, 7] (by kernel_rfl) (by kernel_rfl) rfl rfl (by kernel_rfl) (by kernel_rfl) (fun _ _ d _ _ h => by cases d <;> exact h) ?_
       generalize wc.drew = wd at *
       repeat (first
        | (refine pl1 (v := ?_) (a' := ?_) rfl rfl (Or.inl ⟨by rfl, ?_⟩) ?_ ?_; rotate_left; (intro w'; go_simp; with_reducible rfl); rotate_left; (simp only [Act.put, List.setIfInBounds_toArray, List.set_cons_zero, List.set_cons_succ, i64_w, i32_w]; rfl))
        | (refine pl2 (v := ?_) (a' := ?_) rfl rfl hHeld (Or.inl ⟨by rfl, ?_⟩) ?_ ?_; rotate_left; (rintro w' ⟨s0, s1, s2, s3⟩; go_simp; with_reducible rfl); rotate_left; (simp only [Act.put, List.setIfInBounds_toArray, List.set_cons_zero, List.set_cons_succ, i64_w, i32_w]; rfl)))
       have D4 : Box2 wd g4 25 (.slice none 0 0) (.slice none 0 0) := ⟨(B4.below ov.sb.get).get⟩
       have D5 : Box2 wd g5 27 (.slice none 0 0) (.slice none 0 0) := ⟨(B5.below ov.sb.get).get⟩
       have E4 := blk_lt B4.get
       have E5 := blk_lt B5.get
       have N4g : g ≠ g4 := by have := ov.hg; omega
       have N4m : m ≠ g4 := by have := ov.hm; omega
       have N5 : g4 ≠ g5 := n45
       have sb := S0.step ov.sb.get
       have RN := (Vr.of_R ov.oN)
       have RE := (Vr.of_R ov.oE)
       have RM := (Vr.of_R ov.oM)
       have RF := (Vr.of_R ov.oF)
       have bg := ov.bg
       have bm := ov.bm
       clear ov
       refine pl0 rfl rfl (fun K hK => ?_)
       have hs0 : wd.cell? ⟨g4, 0, none⟩ = some (.slice none 0 0) := D4.c0
       have hs1 : wd.cell? ⟨g4, 1, none⟩ = some (.slice none 0 0) := D4.c1
       have hf0 := blk_frozen D4.get 0
       have hf1 := blk_frozen D4.get 1
       refine skip_ (w1 := (wd.setCell ⟨g4, 0, none⟩ (.slice AN lN.length cN)).setCell ⟨g4, 1, none⟩ (.slice AE lE.length cE)) (by rfl) rfl ?_ ?_
       ·first | (go_simp; done) | (go_simp; rfl)
       replace RN := RN.far2 flat_int D4 nil_ne nil_ne (v := .slice AN lN.length cN) (sl_ne _ _ _) (.slice AE lE.length cE)
       replace RE := RE.far2 flat38 D4 nil_ne nil_ne (v := .slice AN lN.length cN) (sl_ne _ _ _) (.slice AE lE.length cE)
       replace RM := RM.far2 flat_int D4 nil_ne nil_ne (v := .slice AN lN.length cN) (sl_ne _ _ _) (.slice AE lE.length cE)
       replace RF := RF.far2 flat_int D4 nil_ne nil_ne (v := .slice AN lN.length cN) (sl_ne _ _ _) (.slice AE lE.length cE)
       replace bg := bg.far2 N4g (.slice AN lN.length cN) (.slice AE lE.length cE)
       replace bm := bm.far2 N4m (.slice AN lN.length cN) (.slice AE lE.length cE)
       replace D5 := D5.far2 (Ne.symm N5) (.slice AN lN.length cN) (.slice AE lE.length cE)
       replace D4 := D4.put2 (.slice AN lN.length cN) (.slice AE lE.length cE)
       replace sb := sb.put2 n4 (.slice AN lN.length cN) (.slice AE lE.length cE)
       refine hK.out _ _ ⟨bg.c0, bg.c1, bm.c0, bm.c1⟩ (fun _ => ?_)
       generalize (wd.setCell _ _).setCell _ _ = wx at *
       clear hs0 hs1 hf0 hf1 hK K
       refine pl3 rfl rfl (fun K hK => ?_)
       have hs0 : wx.cell? ⟨g5, 0, none⟩ = some (.slice none 0 0) := D5.c0
       have hs1 : wx.cell? ⟨g5, 1, none⟩ = some (.slice none 0 0) := D5.c1
       have hf0 := blk_frozen D5.get 0
       have hf1 := blk_frozen D5.get 1
       refine skip_ (w1 := (wx.setCell ⟨g5, 0, none⟩ (.slice AM lM.length cM)).setCell ⟨g5, 1, none⟩ (.slice AF lF.length cF)) (by rfl) rfl ?_ ?_
       ·first | (go_simp; done) | (go_simp; rfl)
       replace RN := RN.far2 flat_int D5 nil_ne nil_ne (v := .slice AM lM.length cM) (sl_ne _ _ _) (.slice AF lF.length cF)
       replace RE := RE.far2 flat38 D5 nil_ne nil_ne (v := .slice AM lM.length cM) (sl_ne _ _ _) (.slice AF lF.length cF)
       replace RM := RM.far2 flat_int D5 nil_ne nil_ne (v := .slice AM lM.length cM) (sl_ne _ _ _) (.slice AF lF.length cF)
       replace RF := RF.far2 flat_int D5 nil_ne nil_ne (v := .slice AM lM.length cM) (sl_ne _ _ _) (.slice AF lF.length cF)
       replace D4 := D4.far2 N5 (.slice AM lM.length cM) (.slice AF lF.length cF)
       replace D5 := D5.put2 (.slice AM lM.length cM) (.slice AF lF.length cF)
       replace sb := sb.put2 n5 (.slice AM lM.length cM) (.slice AF lF.length cF)
       refine hK.out _ _ ?_
       generalize (wx.setCell _ _).setCell _ _ = wy at *
       clear hs0 hs1 hf0 hf1 hK K
       refine pl_end ?_
       go_wp2_with fail
       refine bodyPost_ret (results_list (rs := [.cell 4 25, .cell 5 27]) rfl (by simp) (.cell g4 25 #[.slice AN lN.length cN, .slice AE lE.length cE] (0, 0) _ rfl D4.get Try.underlying25 rfl (by kernel_rfl) (.cell g5 27 #[.slice AM lM.length cM, .slice AF lF.length cF] (0, 0) _ rfl D5.get Try.underlying27 rfl (by kernel_rfl) .nil))) rfl ?_
       have A_ := A2.out
       have L_ := A.out
       have V_ := validE_iff.mp hd_.out
       exact ⟨lN, lE, lM, lF, _, _, _, _, rfl, RN, RE, RM, RF, sb.get, mvalid_iff.mpr ⟨validE_iff.mpr ⟨by omega, by omega, L_.2.2.2.2.2, A_.2.2.2.2.2⟩, hd_.out, by omega, by omega, L_.2.2.2.2.1, A_.2.2.2.2.1⟩, by omega, by omega, by omega, by omega⟩
end Go.Proofs.Ytillofiphkmjjaa.X

namespace Go.Proofs.Ytillofiphkmjjaa.X
open Go.RowKit Go.Proofs.YtillofiphkmjjaaW.PrintWords Go.Proofs.YtillofiphkmjjaaW.PrintLast Go.Proofs.YtillofiphkmjjaaW.PrintMore
open Go.Proofs.YtillofiphkmjjaaW.PrintWords renaming blk_drewN → bN, blk_drew → bD, blk_alloc → bA, below_alloc → wA, pw_below_drewN → wN, below_drew1 → wD, blk_below → bB, below_step → wS, blk_at → bT, blk_grown → bG
open Go.Proofs.YtillofiphkmjjaaW.PrintWords.Kd renaming R_alloc → rA, R_drewN → rN, R_drew → rD, R_below → rB, R_grown → rG, C_below → cB, C_alloc → cA, C_drewN → cN, C_drew → cD
attribute [local go_sem] max2_int min2_int max_two min_two max_three min_three max_four min_four
set_option linter.unusedVariables false
set_option linter.unusedSimpArgs false
/-! ### scarfjointref05_Made: function 50 -/
mutual
def scarfjointref05_Made.l0 : Nat → Int → List Int → List (S95) → List Int → Option (List Int × (List (S94)))
 | 0, _, _, _, _ => none
 | k + 1, x4, x102000, x102001, x104000 => if x4 < (x102000.length : Int) then (scarfjointref05_Made.j1 k x4 (decide (x4 < 8)) x102000 x102001 x104000) else (scarfjointref05_Made.j1 k x4 false x102000 x102001 x104000)
def scarfjointref05_Made.j1 : Nat → Int → Bool → List Int → List (S95) → List Int → Option (List Int × (List (S94)))
 | 0, _, _, _, _, _ => none
 | k + 1, x4, x15, x102000, x102001, x104000 => if x15 = true then (if 0 ≤ x4 then (if x4 < (x102000.length : Int) then (if x104000.length < 17592186044416 then (scarfjointref05_Made.l0 k (wrap64 (x4 + 1)) x102000 x102001 (x104000 ++ [wrap64 (Int.tmod (rd x102000 x4) 3)])) else (none)) else (none)) else (none)) else (scarfjointref05_Made.l1 k (x104000.length : Int) 0 x102000 x102001 x104000 ([] : List (S94)))
def scarfjointref05_Made.l1 : Nat → Int → Int → List Int → List (S95) → List Int → List (S94) → Option (List Int × (List (S94)))
 | 0, _, _, _, _, _, _ => none
 | k + 1, x5, x6, x102000, x102001, x104000, x104001 => if x6 < (x102001.length : Int) then (if x6 < 10 then (scarfjointref05_Made.j3 k x5 x6 (decide (x5 > 0)) x102000 x102001 x104000 x104001) else (scarfjointref05_Made.j3 k x5 x6 false x102000 x102001 x104000 x104001)) else (scarfjointref05_Made.j3 k x5 x6 false x102000 x102001 x104000 x104001)
def scarfjointref05_Made.j3 : Nat → Int → Int → Bool → List Int → List (S95) → List Int → List (S94) → Option (List Int × (List (S94)))
 | 0, _, _, _, _, _, _, _ => none
 | k + 1, x5, x6, x45, x102000, x102001, x104000, x104001 => if x45 = true then (if 0 ≤ x6 then (if x6 < (x102001.length : Int) then (if x5 = 0 then (none) else (if x104001.length < 5864062014805 then (scarfjointref05_Made.l1 k x5 (wrap64 (x6 + 1)) x102000 x102001 x104000 (x104001 ++ [(⟨wrap64 (Int.tmod ((rd_T95 x102001 x6).f0) 2), Int.tmod (wrap64 ((rd_T95 x102001 x6).f1)) x5, Int.tmod (wrap64 ((rd_T95 x102001 x6).f2)) x5⟩ : S94)])) else (none))) else (none)) else (none)) else (some (x104000, x104001))
end
def scarfjointref05_Made.f (k : Nat) (l0_0 : List Int) (l0_1 : List (S95)) : Option (List Int × (List (S94))) := scarfjointref05_Made.l0 k 0 l0_0 l0_1 ([] : List Int)
theorem scarfjointref05_Made.mono_l : ∀ k, (∀ y0 y1 y2 y3, LeO (scarfjointref05_Made.l0 k y0 y1 y2 y3) (scarfjointref05_Made.l0 (k + 1) y0 y1 y2 y3)) ∧ (∀ y0 y1 y2 y3 y4, LeO (scarfjointref05_Made.j1 k y0 y1 y2 y3 y4) (scarfjointref05_Made.j1 (k + 1) y0 y1 y2 y3 y4)) ∧ (∀ y0 y1 y2 y3 y4 y5, LeO (scarfjointref05_Made.l1 k y0 y1 y2 y3 y4 y5) (scarfjointref05_Made.l1 (k + 1) y0 y1 y2 y3 y4 y5)) ∧ (∀ y0 y1 y2 y3 y4 y5 y6, LeO (scarfjointref05_Made.j3 k y0 y1 y2 y3 y4 y5 y6) (scarfjointref05_Made.j3 (k + 1) y0 y1 y2 y3 y4 y5 y6))
 | 0 => ⟨fun _ _ _ _ r h => by simp [scarfjointref05_Made.l0] at h, fun _ _ _ _ _ r h => by simp [scarfjointref05_Made.j1] at h, fun _ _ _ _ _ _ r h => by simp [scarfjointref05_Made.l1] at h, fun _ _ _ _ _ _ _ r h => by simp [scarfjointref05_Made.j3] at h⟩
 | k + 1 => by
  obtain ⟨ih0, ih1, ih2, ih3⟩ := scarfjointref05_Made.mono_l k
  refine ⟨?_, ?_, ?_, ?_⟩
  ·intro y0 y1 y2 y3
   unfold scarfjointref05_Made.l0
   repeat' first
   | (with_reducible exact ih0 _ _ _ _)
   | (with_reducible exact ih1 _ _ _ _ _)
   | (with_reducible exact ih2 _ _ _ _ _ _)
   | (with_reducible exact ih3 _ _ _ _ _ _ _)
   | (with_reducible exact LeO.refl _)
   | (with_reducible exact LeO.none _)
   | (with_reducible refine LeO.ite ?_ ?_)
   | (with_reducible refine LeO.bind ?_ (fun _ => ?_))
   | exact ih0 _ _ _ _
   | exact ih1 _ _ _ _ _
   | exact ih2 _ _ _ _ _ _
   | exact ih3 _ _ _ _ _ _ _
   | exact LeO.none _
   | refine LeO.ite ?_ ?_
   | refine LeO.bind ?_ (fun _ => ?_)
  ·intro y0 y1 y2 y3 y4
   unfold scarfjointref05_Made.j1
   repeat' first
   | (with_reducible exact ih0 _ _ _ _)
   | (with_reducible exact ih1 _ _ _ _ _)
   | (with_reducible exact ih2 _ _ _ _ _ _)
   | (with_reducible exact ih3 _ _ _ _ _ _ _)
   | (with_reducible exact LeO.refl _)
   | (with_reducible exact LeO.none _)
   | (with_reducible refine LeO.ite ?_ ?_)
   | (with_reducible refine LeO.bind ?_ (fun _ => ?_))
   | exact ih0 _ _ _ _
   | exact ih1 _ _ _ _ _
   | exact ih2 _ _ _ _ _ _
   | exact ih3 _ _ _ _ _ _ _
   | exact LeO.none _
   | refine LeO.ite ?_ ?_
   | refine LeO.bind ?_ (fun _ => ?_)
  ·intro y0 y1 y2 y3 y4 y5
   unfold scarfjointref05_Made.l1
   repeat' first
   | (with_reducible exact ih0 _ _ _ _)
   | (with_reducible exact ih1 _ _ _ _ _)
   | (with_reducible exact ih2 _ _ _ _ _ _)
   | (with_reducible exact ih3 _ _ _ _ _ _ _)
   | (with_reducible exact LeO.refl _)
   | (with_reducible exact LeO.none _)
   | (with_reducible refine LeO.ite ?_ ?_)
   | (with_reducible refine LeO.bind ?_ (fun _ => ?_))
   | exact ih0 _ _ _ _
   | exact ih1 _ _ _ _ _
   | exact ih2 _ _ _ _ _ _
   | exact ih3 _ _ _ _ _ _ _
   | exact LeO.none _
   | refine LeO.ite ?_ ?_
   | refine LeO.bind ?_ (fun _ => ?_)
  ·intro y0 y1 y2 y3 y4 y5 y6
   unfold scarfjointref05_Made.j3
   repeat' first
   | (with_reducible exact ih0 _ _ _ _)
   | (with_reducible exact ih1 _ _ _ _ _)
   | (with_reducible exact ih2 _ _ _ _ _ _)
   | (with_reducible exact ih3 _ _ _ _ _ _ _)
   | (with_reducible exact LeO.refl _)
   | (with_reducible exact LeO.none _)
   | (with_reducible refine LeO.ite ?_ ?_)
   | (with_reducible refine LeO.bind ?_ (fun _ => ?_))
   | exact ih0 _ _ _ _
   | exact ih1 _ _ _ _ _
   | exact ih2 _ _ _ _ _ _
   | exact ih3 _ _ _ _ _ _ _
   | exact LeO.none _
   | refine LeO.ite ?_ ?_
   | refine LeO.bind ?_ (fun _ => ?_)
theorem scarfjointref05_Made.mono : ∀ a0 a1 k, LeO (scarfjointref05_Made.f k a0 a1) (scarfjointref05_Made.f (k + 1) a0 a1) := by
 intro a0 a1 k
 obtain ⟨ih0, ih1, ih2, ih3⟩ := scarfjointref05_Made.mono_l k
 unfold scarfjointref05_Made.f
 repeat' first
   | (with_reducible exact ih0 _ _ _ _)
   | (with_reducible exact ih1 _ _ _ _ _)
   | (with_reducible exact ih2 _ _ _ _ _ _)
   | (with_reducible exact ih3 _ _ _ _ _ _ _)
   | (with_reducible exact LeO.refl _)
   | (with_reducible exact LeO.none _)
   | (with_reducible refine LeO.ite ?_ ?_)
   | (with_reducible refine LeO.bind ?_ (fun _ => ?_))
   | exact ih0 _ _ _ _
   | exact ih1 _ _ _ _ _
   | exact ih2 _ _ _ _ _ _
   | exact ih3 _ _ _ _ _ _ _
   | exact LeO.none _
   | refine LeO.ite ?_ ?_
   | refine LeO.bind ?_ (fun _ => ?_)
def scarfjointref05_Made.T5 : Bool × List (List Nat × List Nat) := (true, [([], []), ([0], [0]), ([], []), ([2], [2]), ([], []), ([3, 4], [3, 4]), ([5], [5]), ([6], [6]), ([7], [7]), ([8], [8]), ([1, 9], [1, 9]), ([0, 1, 2, 3, 4, 5, 6, 7, 8, 9, 10], []), ([11, 10, 10, 0, 1, 2, 3, 4, 5, 6, 7, 8, 9, 10], [10, 11])])
def scarfjointref05_Made.B5 : List Nat := [0, 1, 0, 4, 0, 28, 60, 124, 252, 508, 1023, 2047, 4095]
theorem scarfjointref05_Made.tab5 : rtab .any (opsOf Try.f50 5) = scarfjointref05_Made.T5 := by kernel_rfl
theorem scarfjointref05_Made.bits5 : waitsOk scarfjointref05_Made.T5.2 scarfjointref05_Made.B5 = true := by kernel_rfl
def scarfjointref05_Made.T10 : Bool × List (List Nat × List Nat) := (true, [([], []), ([0], [0]), ([], []), ([2], [2]), ([], []), ([3, 4], [3, 4]), ([5], [5]), ([6], [6]), ([7], [7]), ([8], [8]), ([], []), ([10], [10]), ([], []), ([11, 12], [11, 12]), ([13], [13]), ([14], [14]), ([15], [15]), ([], []), ([16, 17], [16, 17]), ([], []), ([19], [19]), ([], []), ([20, 21], [20, 21]), ([22], [22]), ([23], [23]), ([24], [24]), ([], []), ([25, 26], [25, 26]), ([9, 18, 27], [9, 18, 27]), ([28], [28]), ([1, 29], [1, 29]), ([0, 1, 2, 3, 4, 5, 6, 7, 8, 9, 10, 11, 12, 13, 14, 15, 16, 17, 18, 19, 20, 21, 22, 23, 24, 25, 26, 27, 28, 29, 30], []), ([31, 30, 30, 0, 1, 2, 3, 4, 5, 6, 7, 8, 9, 10, 11, 12, 13, 14, 15, 16, 17, 18, 19, 20, 21, 22, 23, 24, 25, 26, 27, 28, 29, 30], [30, 31])])
def scarfjointref05_Made.B10 : List Nat := [0, 1, 0, 4, 0, 28, 60, 124, 252, 508, 0, 1024, 0, 7168, 15360, 31744, 64512, 0, 261120, 0, 524288, 0, 3670016, 7864320, 16252928, 33030144, 0, 133693440, 268435452, 536870908, 1073741823, 2147483647, 4294967295]
theorem scarfjointref05_Made.tab10 : rtab .any (opsOf Try.f50 10) = scarfjointref05_Made.T10 := by kernel_rfl
theorem scarfjointref05_Made.bits10 : waitsOk scarfjointref05_Made.T10.2 scarfjointref05_Made.B10 = true := by kernel_rfl
set_option maxHeartbeats 8000000 in
set_option maxRecDepth 100000 in
theorem scarfjointref05_Made.calls (k : Nat) (A0_0 : Option Addr) (c0_0 : Nat) (l0_0 : List Int) (A0_1 : Option Addr) (c0_1 : Nat) (l0_1 : List (S95)) (r1 : List Int) (r2 : List (S94)) (w : World) (hr0_0 : Kd.C (Kd.int .u8) w A0_0 l0_0.length l0_0) (hc0_0 : l0_0.length ≤ c0_0) (hr0_1 : Kd.C k95 w A0_1 l0_1.length l0_1) (hc0_1 : l0_1.length ≤ c0_1) (h : scarfjointref05_Made.f k l0_0 l0_1 = some (r1, r2)) :
  Calls Try.prog 50 #[.agg #[.slice A0_0 l0_0.length c0_0, .slice A0_1 l0_1.length c0_1]] w fun e w' => ∃ v0_ v1_ : Value, e = .returned (.agg #[v0_, v1_]) ∧ Kd.R (Kd.int .i64) 3 w' w.heap.size (fun _ => True) v0_ r1 ∧ Kd.R k94 94 w' w.heap.size (fun _ => True) v1_ r2 ∧ Below w.heap.size w w' := by
 have hu43 := Try.underlying43
 have hu25 := Try.underlying25
 have hu94 := Try.underlying94
 have HR0_0 := Aside0.mk hr0_0
 have HC0_0 := Aside0.mk hc0_0
 clear hr0_0 hc0_0
 have HR0_1 := Aside0.mk hr0_1
 have HC0_1 := Aside0.mk hc0_1
 clear hr0_1 hc0_1
 have HB := Aside0.mk (Below.refl w.heap.size w)
 have H : (scarfjointref05_Made.l0 k 0 l0_0 l0_1 ([] : List Int)) = some (r1, r2) := h
 clear h
 have H' := Aside0.mk H
 clear H
 go_enter Try.func50, Try.ntmps50
 go_wp2_with (first | ((with_reducible refine gate_dst (N := 1) rfl ?_); refine box_event ?hg (N := 1) ?hd (cs := #[.slice A0_0 l0_0.length c0_0, .slice A0_1 l0_1.length c0_1]) (t := 43) ?hr ?_; (case hd => rfl); (case hg => rfl); (case hr => first | (go_simp; done) | (go_simp; rfl)); intro Q04 hg w2 hbox hb; have Q00 := Aside0.mk (hbox); have Q1j := Aside0.mk ((by rw [hg]; exact (below_size hB) : w.heap.size ≤ Q04)); have Q12 := Aside0.mk ((by rw [hg]; exact (below_size hB) : w.heap.size ≤ Q04)); replace HB := uH HB hb; clear hb hbox hg) | ((with_reducible refine gate_dst (N := 2) rfl ?_); refine box_event ?hg (N := 2) ?hd (cs := #[.slice none 0 0, .slice none 0 0]) (t := 25) ?hr ?_; (case hd => rfl); (case hg => rfl); (case hr => first | (go_simp; done) | (go_simp; rfl)); intro Q07 hg w3 hbox hb; have Q02 := Aside0.mk (hbox); have Q1k := uS HB hg; have Q13 := uS HB hg; replace HB := uH HB hb; have Q0c := uL Q00 hg; have Q0d := uG Q00 hg; replace Q00 := uB Q00 hb; clear hb hbox hg) | ((with_reducible refine gate_dst (N := 3) rfl ?_); refine box_event ?hg (N := 3) ?hd (cs := #[.slice none 0 0, .slice none 0 0]) (t := 25) ?hr ?_; (case hd => rfl); (case hg => rfl); (case hr => first | (go_simp; done) | (go_simp; rfl)); intro Q05 hg w4 hbox hb; have Q01 := Aside0.mk (hbox); have Q1l := uS HB hg; have Q14 := uS HB hg; replace HB := uH HB hb; have Q0a := uL Q00 hg; have Q0b := uG Q00 hg; replace Q00 := uB Q00 hb; have Q0e := uL Q02 hg; have Q0f := uG Q02 hg; replace Q02 := uB Q02 hb; clear hb hbox hg))
 go_loopg [4] k (fun kq v4 w' => ∃ (x4_1 : Int) (x104000_1 : List Int) (u104000 : Value), v4 = .int .i64 x4_1 ∧ Aside0 (scarfjointref05_Made.l0 kq x4_1 l0_0 l0_1 x104000_1 = some (r1, r2)) ∧ Aside0 (kq ≤ k) ∧ Aside0 (Kd.R (Kd.int .i64) 3 w' w.heap.size (fun _ => True) u104000 x104000_1) ∧ Aside0 (w'.heap[Q04]? = some (.cells #[(.slice A0_0 l0_0.length c0_0), (.slice A0_1 l0_1.length c0_1)] 43 (0, 0))) ∧ Aside0 (w'.heap[Q07]? = some (.cells #[(.slice none 0 0), (.slice none 0 0)] 25 (0, 0))) ∧ Aside0 (w'.heap[Q05]? = some (.cells #[u104000, (.slice none 0 0)] 25 (0, 0))) ∧ Aside0 (Below w.heap.size w w'))
 case atStart => exact ⟨(0), (([] : List Int)), (.slice none 0 0), rS, H', ⟨Nat.le_refl _⟩, ⟨by first | exact Kd.R_nil _ _ _ _ _ | exact Kd.N_nil _ _ _ _ _ | exact Kd.V_nil _ _ _ _ _ | exact Kd.Q_nil _ _ _ _ _ | exact Kd.S_nil _ _ _ _ _⟩, ⟨pB Q00⟩, ⟨pB Q02⟩, ⟨pB Q01⟩, ⟨pH HB⟩⟩
 case round =>
  clear H'
  try clear p2
  obtain ⟨x4_1, x104000_1, u104000, rfl, HA, HK1, Q03, Q00, Q02, Q01, HB⟩ := hrel
  cases gk with
  | zero => exact absurd HA.out (by simp [scarfjointref05_Made.l0])
  | succ k1 =>
   have H := HA.out
   clear HA
   simp only [scarfjointref05_Made.l0] at H
   have HC5 := Aside0.mk H
   clear H
   go_upto_region 3 with (fail)
   go_cut [15] (fun v15 wc => ∃ (kq : Nat) (x15_4 : Bool), v15 = .bool x15_4 ∧ Aside0 (scarfjointref05_Made.j1 kq x4_1 x15_4 l0_0 l0_1 x104000_1 = some (r1, r2)) ∧ Aside0 (kq ≤ k1) ∧ Aside0 (Kd.R (Kd.int .i64) 3 wc w.heap.size (fun _ => True) u104000 x104000_1) ∧ Aside0 (wc.heap[Q04]? = some (.cells #[(.slice A0_0 l0_0.length c0_0), (.slice A0_1 l0_1.length c0_1)] 43 (0, 0))) ∧ Aside0 (wc.heap[Q07]? = some (.cells #[(.slice none 0 0), (.slice none 0 0)] 25 (0, 0))) ∧ Aside0 (wc.heap[Q05]? = some (.cells #[u104000, (.slice none 0 0)] 25 (0, 0))) ∧ Aside0 (Below w.heap.size w wc))
   case first =>
    have H := HC5.out
    clear HC5
    by_cases c6 : x4_1 < (l0_0.length : Int)
    ·rw [if_pos c6] at H
     have c6b0 : decide (x4_1 < (l0_0.length : Int)) = true := decide_eq_true c6
     clear c6
     (first | rw [c6b0] | (simp only [i64_w, i32_w]; rw [c6b0]) | skip)
     have H' := Aside0.mk H
     clear H
     have Q1m := Q0c.out
     have Q1n := Q0d.out
     have Q1o := Q0a.out
     have Q1p := Q0b.out
     have Q0g : wr.cell? ⟨Q04, 0, none⟩ = some (.slice A0_0 l0_0.length c0_0) := bC Q00 0
     have Q0h : wr.cell? ⟨Q04, 1, none⟩ = some (.slice A0_1 l0_1.length c0_1) := bC Q00 1
     have Q0i := blk_frozen Q00.out 0
     have Q0j := blk_frozen Q00.out 1
     go_wp2
     go_meet
     case rel => exact ⟨_, (decide (x4_1 < 8)), rS, H', ⟨by have := HK1.out; first | omega | exact Nat.le_refl _⟩, ⟨pR Q03⟩, ⟨pB Q00⟩, ⟨pB Q02⟩, ⟨pB Q01⟩, ⟨pH HB⟩⟩
    ·rw [if_neg c6] at H
     have c6b0 : decide (x4_1 < (l0_0.length : Int)) = false := decide_eq_false c6
     clear c6
     (first | rw [c6b0] | (simp only [i64_w, i32_w]; rw [c6b0]) | skip)
     have H' := Aside0.mk H
     clear H
     have Q1q := Q0c.out
     have Q1r := Q0d.out
     have Q1s := Q0a.out
     have Q1t := Q0b.out
     have Q0k : wr.cell? ⟨Q04, 0, none⟩ = some (.slice A0_0 l0_0.length c0_0) := bC Q00 0
     have Q0l : wr.cell? ⟨Q04, 1, none⟩ = some (.slice A0_1 l0_1.length c0_1) := bC Q00 1
     have Q0m := blk_frozen Q00.out 0
     have Q0n := blk_frozen Q00.out 1
     go_wp2
     go_meet
     case rel => exact ⟨_, (false), rS, H', ⟨by have := HK1.out; first | omega | exact Nat.le_refl _⟩, ⟨pR Q03⟩, ⟨pB Q00⟩, ⟨pB Q02⟩, ⟨pB Q01⟩, ⟨pH HB⟩⟩
   case rest =>
    clear HC5
    try clear c1; try clear p2; try clear c5; try clear c6; try clear c6b0; try clear c7; try clear c8; try clear c10; try clear c11; try clear Q0k; try clear Q0l; try clear Q0g; try clear Q0h; try clear Q0m; try clear Q0n; try clear Q0i; try clear Q0j; try clear p2
    obtain ⟨kq, x15_4, rfl, HA, HJ4, Q03, Q00, Q02, Q01, HB⟩ := hcut
    cases kq with
    | zero => exact absurd HA.out (by simp [scarfjointref05_Made.j1])
    | succ kj4 =>
     have H := HA.out
     clear HA
     simp only [scarfjointref05_Made.j1] at H
     by_cases c13 : x15_4 = true
     ·subst c13
      have H1 : (if 0 ≤ x4_1 then (if x4_1 < (l0_0.length : Int) then (if x104000_1.length < 17592186044416 then (scarfjointref05_Made.l0 kj4 (wrap64 (x4_1 + 1)) l0_0 l0_1 (x104000_1 ++ [wrap64 (Int.tmod (rd l0_0 x4_1) 3)])) else (none)) else (none)) else (none)) = some (r1, r2) := by rw [if_pos rfl] at H; exact H
      clear H
      have H := H1
      clear H1
      by_cases c14 : 0 ≤ x4_1
      ·rw [if_pos c14] at H
       have c14b0 : decide (0 ≤ x4_1) = true := decide_eq_true c14
       clear c14
       by_cases c15 : x4_1 < (l0_0.length : Int)
       ·rw [if_pos c15] at H
        have c15b0 : decide (x4_1 < (l0_0.length : Int)) = true := decide_eq_true c15
        clear c15
        by_cases c16 : x104000_1.length < 17592186044416
        ·rw [if_pos c16] at H
         have LMc16 := Aside0.mk c16
         clear c16
         obtain ⟨y105, hy105⟩ : ∃ y_ : List Int, y_ = (x104000_1 ++ [wrap64 (Int.tmod (rd l0_0 x4_1) 3)]) := ⟨_, rfl⟩
         replace H : (scarfjointref05_Made.l0 kj4 (wrap64 (x4_1 + 1)) l0_0 l0_1 y105) = some (r1, r2) := by first | (rw [hy105]; with_reducible exact H) | (have H2_ := (Option.bind_some _ _).symm.trans H; rw [hy105]; with_reducible exact H2_) | (have H2_ := (Option.bind_some _ _).symm.trans H; with_reducible exact H2_) | with_reducible exact H | (rw [hy105]; exact H) | exact H
         have Ny105 := Aside0.mk hy105
         clear hy105
         have H' := Aside0.mk H
         clear H
         try go_wp2
         replace Q03 := Aside0.mk (rD Q03.out)
         replace Q00 := Aside0.mk (bD Q00.out)
         replace Q02 := Aside0.mk (bD Q02.out)
         replace Q01 := Aside0.mk (bD Q01.out)
         replace HB := Aside0.mk (wD HB.out)
         have p104 : 0 ≤ (x4_1 : Int) := oT
         have q104 : x4_1 < (l0_0.length : Int) := oT
         obtain ⟨ad104, e104, hx104_0⟩ := Kd.at_int HR0_0.out x4_1 p104 q104
         have hw104_0 := hx104_0
         cases e104
         replace hx104_0 := (HB.out.cell (World.block_lt_of_cell? w _ hx104_0)).trans hx104_0
         replace p104 := eq_true p104
         replace q104 := eq_true q104
         refine start_ (n := 13) (S := fun w' => w'.cell? ⟨Q05, 0, none⟩ = some (u104000) ∧ w'.cell? ⟨Q05, 1, none⟩ = some (.slice none 0 0) ∧ w'.cell? ⟨Q04, 0, none⟩ = some (.slice (some ad104) l0_0.length c0_0) ∧ w'.cell? ⟨Q04, 1, none⟩ = some (.slice A0_1 l0_1.length c0_1) ∧ w'.cell? (ad104.add (x4_1).toNat) = some (.int .u8 (rd l0_0 x4_1))) (ds := [12]) #[false, false, false, false, false, false, false, false, false, false, false, false, false] (by kernel_rfl) rfl rfl ⟨bC Q01 0, bC Q01 1, bC Q00 0, bC Q00 1, ((HB.out.cell (World.block_lt_of_cell? w _ hw104_0)).trans hw104_0)⟩ (fun hHeld => ?_); refine with_tabW scarfjointref05_Made.tab5 scarfjointref05_Made.bits5 (fun HT_ HW_ => ?_)
         generalize wc.drew = w17 at Q03 Q00 Q02 Q01 HB hx104_0 hHeld ⊢
         refine pure_ (i := 0) (N := some 18) (v := ?_) (a' := ?_) #[true, false, false, false, false, false, false, false, false, false, false, false, false] rfl rfl (any_of HT_.out (by kernel_rfl)) (fun _ _ _ h => h) (Or.inl ⟨by rfl, ?_⟩) ?_ ?_
         rotate_left
         ·intro w'
          go_simp
          with_reducible rfl
         rotate_left
         ·simp only [Act.put, List.setIfInBounds_toArray, List.set_cons_zero, List.set_cons_succ, i64_w, i32_w]
          rfl
         refine pure_ (i := 2) (N := some 20) (v := ?_) (a' := ?_) #[true, false, true, false, false, false, false, false, false, false, false, false, false] rfl rfl (any_of HT_.out (by kernel_rfl)) (fun _ _ _ h => h) (Or.inl ⟨by rfl, ?_⟩) ?_ ?_
         rotate_left
         ·intro w'
          go_simp
          with_reducible rfl
         rotate_left
         ·simp only [Act.put, List.setIfInBounds_toArray, List.set_cons_zero, List.set_cons_succ, i64_w, i32_w]
          rfl
         refine pure_ (i := 4) (N := some 22) (v := ?_) (a' := ?_) #[true, false, true, false, true, false, false, false, false, false, false, false, false] rfl rfl (any_of HT_.out (by kernel_rfl)) (fun _ _ _ h => h) (Or.inl ⟨by rfl, ?_⟩) ?_ ?_
         rotate_left
         ·intro w'
          go_simp
          with_reducible rfl
         rotate_left
         ·simp only [Act.put, List.setIfInBounds_toArray, List.set_cons_zero, List.set_cons_succ, i64_w, i32_w]
          rfl
         refine take_ (i := 1) (N := some 19) (v := ?_) (a' := ?_) #[true, true, true, false, true, false, false, false, false, false, false, false, false] rfl rfl (take_ofW HT_.out HW_.out (by kernel_rfl)) (fun _ _ _ h => h) (Or.inl ⟨by rfl, ?_⟩) hHeld ?_ ?_
         rotate_left
         ·rintro w' ⟨s0, s1, s2, s3, s4⟩
          go_simp
          with_reducible rfl
         rotate_left
         ·simp only [Act.put, List.setIfInBounds_toArray, List.set_cons_zero, List.set_cons_succ, i64_w, i32_w]
          rfl
         refine take_ (i := 3) (N := some 21) (v := ?_) (a' := ?_) #[true, true, true, true, true, false, false, false, false, false, false, false, false] rfl rfl (take_ofW HT_.out HW_.out (by kernel_rfl)) (fun _ _ _ h => h) (Or.inl ⟨by rfl, ?_⟩) hHeld ?_ ?_
         rotate_left
         ·rintro w' ⟨s0, s1, s2, s3, s4⟩
          go_simp
          with_reducible rfl
         rotate_left
         ·simp only [Act.put, List.setIfInBounds_toArray, List.set_cons_zero, List.set_cons_succ, i64_w, i32_w]
          rfl
         refine pure_ (i := 5) (N := some 23) (v := ?_) (a' := ?_) #[true, true, true, true, true, true, false, false, false, false, false, false, false] rfl rfl (any_of HT_.out (by kernel_rfl)) (fun _ _ _ h => h) (Or.inl ⟨by rfl, ?_⟩) ?_ ?_
         rotate_left
         ·intro w'
          go_simp
          with_reducible rfl
         rotate_left
         ·simp only [Act.put, List.setIfInBounds_toArray, List.set_cons_zero, List.set_cons_succ, i64_w, i32_w]
          rfl
         refine take_ (i := 6) (N := some 24) (v := ?_) (a' := ?_) #[true, true, true, true, true, true, true, false, false, false, false, false, false] rfl rfl (take_ofW HT_.out HW_.out (by kernel_rfl)) (fun _ _ _ h => h) (Or.inl ⟨by rfl, ?_⟩) hHeld ?_ ?_
         rotate_left
         ·rintro w' ⟨s0, s1, s2, s3, s4⟩
          go_simp
          with_reducible rfl
         rotate_left
         ·simp only [Act.put, List.setIfInBounds_toArray, List.set_cons_zero, List.set_cons_succ, i64_w, i32_w]
          rfl
         refine pure_ (i := 7) (N := some 25) (v := ?_) (a' := ?_) #[true, true, true, true, true, true, true, true, false, false, false, false, false] rfl rfl (any_of HT_.out (by kernel_rfl)) (fun _ _ _ h => h) (Or.inl ⟨by rfl, ?_⟩) ?_ ?_
         rotate_left
         ·intro w'
          go_simp
          with_reducible rfl
         rotate_left
         ·simp only [Act.put, List.setIfInBounds_toArray, List.set_cons_zero, List.set_cons_succ, i64_w, i32_w]
          rfl
         refine pure_ (i := 8) (N := some 26) (v := ?_) (a' := ?_) #[true, true, true, true, true, true, true, true, true, false, false, false, false] rfl rfl (any_of HT_.out (by kernel_rfl)) (fun _ _ _ h => h) (Or.inl ⟨by rfl, ?_⟩) ?_ ?_
         rotate_left
         ·intro w'
          go_simp
          with_reducible rfl
         rotate_left
         ·simp only [Act.put, List.setIfInBounds_toArray, List.set_cons_zero, List.set_cons_succ, i64_w, i32_w]
          rfl
         refine one_ (i := 9) (N := some 27) #[true, true, true, true, true, true, true, true, true, true, false, false, false] rfl rfl (one_of HT_.out (by kernel_rfl)) (by decide) (fun K hK => ?_)
         refine value_ (w1 := ?_) (v := ?_) (by rfl) rfl ?_ ?_
         rotate_left 2
         ·go_simp
          constructor
          ·rfl
          ·rfl
         refine hK.out _ _ ⟨(blk_cell (bA Q01.out _) 0).trans rfl, (blk_cell (bA Q01.out _) 1).trans rfl, (blk_cell (bA Q00.out _) 0).trans rfl, (blk_cell (bA Q00.out _) 1).trans rfl, (World.cell?_alloc_lt _ _ _ (World.block_lt_of_cell? _ _ (((HB.out.cell (World.block_lt_of_cell? w _ hw104_0)).trans hw104_0)))).trans (((HB.out.cell (World.block_lt_of_cell? w _ hw104_0)).trans hw104_0))⟩ (fun hHeld => ?_)
         clear hK K
         refine norm_ (a' := ?_) ?_ ?_
         rotate_left
         ·show Act.put _ (some 27) _ = _
          simp only [Act.put, List.setIfInBounds_toArray, List.set_cons_zero, List.set_cons_succ, i64_w, i32_w]
          rfl
         refine one_ (i := 10) (N := some 28) #[true, true, true, true, true, true, true, true, true, true, true, false, false] rfl rfl (one_of HT_.out (by kernel_rfl)) (by decide) (fun K hK => ?_)
         refine Kd.R_append_step (Kd.int .i64) (w0 := w) w.heap.size (by rfl) (.tmp 19) (.tmp 27) 22 3 (.int .i64 0) 8 rfl Try.underlying22 info3 rfl (by decide) (by omega) u104000 x104000_1 (wrap64 (Int.tmod (rd l0_0 x4_1) 3)) [.int .i64 (wrap64 (Int.tmod (rd l0_0 x4_1) 3))] (fun _ => True) (fun _ => False) rfl rfl ?aP (fun _ hk => hk.elim) ?aF ?aO ?aB ?aS ?aL ?_
         (case aP => exact rfl)
         (case aB => exact (pH HB))
         (case aF => exact (fun _ _ => trivial))
         (case aO => exact (pR Q03))
         (case aS => exact (below_size (pH HB)))
         (case aL => have := LMc16.out; omega)
         intro v106 w18 ho hb hg hat
         rw [← Ny105.out] at ho
         replace Q00 := Aside0.mk (bG (g := Q04) (o := .cells #[.slice (some ad104) l0_0.length c0_0, .slice A0_1 l0_1.length c0_1] 43 (0, 0)) (pB Q00) hg (Kd.R_ne Q03.out Q00.out (by decide)))
         replace Q02 := Aside0.mk (bG (g := Q07) (o := .cells #[.slice none 0 0, .slice none 0 0] 25 (0, 0)) (pB Q02) hg (Kd.R_ne Q03.out Q02.out (by decide)))
         replace Q01 := Aside0.mk (bG (g := Q05) (o := .cells #[u104000, .slice none 0 0] 25 (0, 0)) (pB Q01) hg (Kd.R_ne Q03.out Q01.out (by decide)))
         replace HB := Aside0.mk (hb)
         have Q0s := Aside0.mk (ho)
         clear Q03
         clear ho hb hg hat
         obtain ⟨Q0t, Q0u, Q0v⟩ := Kd.R_slice Q0s.out
         (first | subst Q0v | (injection Q0v with f1_ f2_ f3_; have f4_ := f1_.symm; have f5_ := f3_.symm; clear f1_ f2_ f3_; subst f4_; subst f5_))
         refine hK.out _ _ ⟨bC Q01 0, bC Q01 1, bC Q00 0, bC Q00 1, ((HB.out.cell (World.block_lt_of_cell? w _ hw104_0)).trans hw104_0)⟩ (fun hHeld => ?_)
         clear hK K
         refine norm_ (a' := ?_) ?_ ?_
         rotate_left
         ·show Act.put _ (some 28) _ = _
          simp only [Act.put, List.setIfInBounds_toArray, List.set_cons_zero, List.set_cons_succ, i64_w, i32_w]
          rfl
         refine pure_ (i := 11) (N := some 29) (v := ?_) (a' := ?_) #[true, true, true, true, true, true, true, true, true, true, true, true, false] rfl rfl (any_of HT_.out (by kernel_rfl)) (fun _ _ _ h => h) (Or.inl ⟨by rfl, ?_⟩) ?_ ?_
         rotate_left
         ·intro w'
          go_simp
          with_reducible rfl
         rotate_left
         ·simp only [Act.put, List.setIfInBounds_toArray, List.set_cons_zero, List.set_cons_succ, i64_w, i32_w]
          rfl
         refine last_ (i := 12) (N := none) #[true, true, true, true, true, true, true, true, true, true, true, true, true] rfl rfl (one_of HT_.out (by kernel_rfl)) (by decide) (fun K hK => ?_)
         have Q1u : w18.cell? ⟨Q05, 0, none⟩ = some (u104000) := bC Q01 0
         have Q1v := blk_frozen Q01.out 0
         have Q1w := Q0a.out
         have Q1x := Q0e.out
         have Q1y := Q0b.out
         have Q1z := Q0f.out
         refine skip_ (w1 := ?_) (by rfl) rfl ?_ ?_
         rotate_left
         ·go_simp
          rfl
         refine hK.out _ _ ?_
         clear hK K
         refine done_ (done_of HT_.out (by kernel_rfl)) ?_
         try go_wp2
         go_roundg kj4
         case measure => have := HK1.out; have := HJ4.out; omega
         case rel => exact ⟨(wrap64 (x4_1 + 1)), (y105), (.slice Q0t y105.length Q0u), rS, H', ⟨by have := HK1.out; have := HJ4.out; omega⟩, ⟨by (with_reducible repeat (first | apply rA | apply rN | apply rD)); exact Kd.R_mono (Kd.R_far (p := ⟨Q05, 0, none⟩) (Kd.R_types Q0s.out Q01.out (by decide)) (fun _ hk => hk.2) (.slice Q0t y105.length Q0u)) (fun _ hk => trivial)⟩, ⟨by (with_reducible repeat (first | refine bN ?_ _ | refine bD ?_ | refine bA ?_ _)); refine blk_far ?_ Q0a.out _; (with_reducible repeat (first | refine bN ?_ _ | refine bD ?_ | refine bA ?_ _)); exact Q00.out⟩, ⟨by (with_reducible repeat (first | refine bN ?_ _ | refine bD ?_ | refine bA ?_ _)); refine blk_far ?_ Q0e.out _; (with_reducible repeat (first | refine bN ?_ _ | refine bD ?_ | refine bA ?_ _)); exact Q02.out⟩, ⟨by (with_reducible repeat (first | refine bN ?_ _ | refine bD ?_ | refine bA ?_ _)); refine blk_put (cs := #[u104000, .slice none 0 0]) ?_ 0 _ rfl; (with_reducible repeat (first | refine bN ?_ _ | refine bD ?_ | refine bA ?_ _)); exact Q01.out⟩, ⟨pH HB⟩⟩
        ·rw [if_neg c16] at H
         exact absurd H (by simp)
       ·rw [if_neg c15] at H
        exact absurd H (by simp)
      ·rw [if_neg c14] at H
       exact absurd H (by simp)
     ·replace c13 := Bool.eq_false_iff.mpr c13
      subst c13
      have H1 : (scarfjointref05_Made.l1 kj4 (x104000_1.length : Int) 0 l0_0 l0_1 x104000_1 ([] : List (S94))) = some (r1, r2) := by rw [if_neg (show ¬ (false = true) by decide)] at H; exact H
      clear H
      have H := H1
      clear H1
      have H' := Aside0.mk H
      clear H
      have Q20 := Q0b.out
      have Q21 := Q0a.out
      have Q22 := Q0f.out
      have Q23 := Q0e.out
      have Q0w : wc.cell? ⟨Q05, 0, none⟩ = some (u104000) := bC Q01 0
      have Q0x : wc.cell? ⟨Q05, 1, none⟩ = some (.slice none 0 0) := bC Q01 1
      have Q0y := blk_frozen Q01.out 0
      have Q0z := blk_frozen Q01.out 1
      obtain ⟨Q08, Q09, Q15⟩ := Kd.R_slice Q03.out
      subst Q15
      go_wp2
      go_loopg [6] kj4 (fun kq v6 w' => ∃ (x6_3 : Int) (x104001_3 : List (S94)) (u104001 : Value), v6 = .int .i64 x6_3 ∧ Aside0 (scarfjointref05_Made.l1 kq (x104000_1.length : Int) x6_3 l0_0 l0_1 x104000_1 x104001_3 = some (r1, r2)) ∧ Aside0 (kq ≤ kj4) ∧ Aside0 (Kd.R (Kd.int .i64) 3 w' w.heap.size (fun _ => True) (.slice Q08 x104000_1.length Q09) x104000_1) ∧ Aside0 (Kd.R k94 94 w' w.heap.size (fun _ => True) u104001 x104001_3) ∧ Aside0 (w'.heap[Q04]? = some (.cells #[(.slice A0_0 l0_0.length c0_0), (.slice A0_1 l0_1.length c0_1)] 43 (0, 0))) ∧ Aside0 (w'.heap[Q07]? = some (.cells #[(.slice none 0 0), (.slice none 0 0)] 25 (0, 0))) ∧ Aside0 (w'.heap[Q05]? = some (.cells #[(.slice Q08 x104000_1.length Q09), u104001] 25 (0, 0))) ∧ Aside0 (Below w.heap.size w w'))
      case atStart => exact ⟨(0), (([] : List (S94))), (.slice none 0 0), rS, H', ⟨Nat.le_refl _⟩, ⟨pR Q03⟩, ⟨by first | exact Kd.R_nil _ _ _ _ _ | exact Kd.N_nil _ _ _ _ _ | exact Kd.V_nil _ _ _ _ _ | exact Kd.Q_nil _ _ _ _ _ | exact Kd.S_nil _ _ _ _ _⟩, ⟨pB Q00⟩, ⟨pB Q02⟩, ⟨pB Q01⟩, ⟨pH HB⟩⟩
      case round =>
       clear H'
       try clear c1; try clear c2; try clear p2; try clear c5; try clear p5; try clear q5; try clear hx5; try clear c6; try clear c6b0; try clear p6; try clear c7; try clear c8; try clear c10; try clear c11; try clear c13; try clear c14; try clear c14b0; try clear c15; try clear c15b0; try clear c16; try clear c21; try clear c22; try clear Q0k; try clear Q0l; try clear Q0w; try clear Q0x; try clear Q0g; try clear Q0h; try clear Q0m; try clear Q0n; try clear Q0y; try clear Q0z; try clear Q0i; try clear Q0j; try clear hx104_0; try clear p2; try clear p104; try clear q104
       obtain ⟨x6_3, x104001_3, u104001, rfl, HA, HK3, Q03, Q06, Q00, Q02, Q01, HB⟩ := hrel
       cases gk with
       | zero => exact absurd HA.out (by simp [scarfjointref05_Made.l1])
       | succ k3 =>
        have H := HA.out
        clear HA
        simp only [scarfjointref05_Made.l1] at H
        have HC25 := Aside0.mk H
        clear H
        go_upto_region 8 with (fail)
        go_cut [45] (fun v45 wc => ∃ (kq : Nat) (x45_24 : Bool), v45 = .bool x45_24 ∧ Aside0 (scarfjointref05_Made.j3 kq (x104000_1.length : Int) x6_3 x45_24 l0_0 l0_1 x104000_1 x104001_3 = some (r1, r2)) ∧ Aside0 (kq ≤ k3) ∧ Aside0 (Kd.R (Kd.int .i64) 3 wc w.heap.size (fun _ => True) (.slice Q08 x104000_1.length Q09) x104000_1) ∧ Aside0 (Kd.R k94 94 wc w.heap.size (fun _ => True) u104001 x104001_3) ∧ Aside0 (wc.heap[Q04]? = some (.cells #[(.slice A0_0 l0_0.length c0_0), (.slice A0_1 l0_1.length c0_1)] 43 (0, 0))) ∧ Aside0 (wc.heap[Q07]? = some (.cells #[(.slice none 0 0), (.slice none 0 0)] 25 (0, 0))) ∧ Aside0 (wc.heap[Q05]? = some (.cells #[(.slice Q08 x104000_1.length Q09), u104001] 25 (0, 0))) ∧ Aside0 (Below w.heap.size w wc))
        case first =>
         have H := HC25.out
         clear HC25
         by_cases c26 : x6_3 < (l0_1.length : Int)
         ·rw [if_pos c26] at H
          have c26b0 : decide (x6_3 < (l0_1.length : Int)) = true := decide_eq_true c26
          clear c26
          (first | rw [c26b0] | (simp only [i64_w, i32_w]; rw [c26b0]) | skip)
          by_cases c27 : x6_3 < 10
          ·rw [if_pos c27] at H
           have c27b0 : decide (x6_3 < 10) = true := decide_eq_true c27
           clear c27
           have H' := Aside0.mk H
           clear H
           have Q24 := Q0c.out
           have Q25 := Q0d.out
           have Q26 := Q0a.out
           have Q27 := Q0b.out
           have Q16 : wr.cell? ⟨Q04, 0, none⟩ = some (.slice A0_0 l0_0.length c0_0) := bC Q00 0
           have Q17 : wr.cell? ⟨Q04, 1, none⟩ = some (.slice A0_1 l0_1.length c0_1) := bC Q00 1
           have Q18 := blk_frozen Q00.out 0
           have Q19 := blk_frozen Q00.out 1
           go_wp2
           go_meet
           case rel => exact ⟨_, (decide ((x104000_1.length : Int) > 0)), rS, H', ⟨by have := HK1.out; have := HJ4.out; have := HK3.out; first | omega | exact Nat.le_refl _⟩, ⟨pR Q03⟩, ⟨pR Q06⟩, ⟨pB Q00⟩, ⟨pB Q02⟩, ⟨pB Q01⟩, ⟨pH HB⟩⟩
          ·rw [if_neg c27] at H
           have c27b0 : decide (x6_3 < 10) = false := decide_eq_false c27
           clear c27
           have H' := Aside0.mk H
           clear H
           have Q28 := Q0c.out
           have Q29 := Q0d.out
           have Q2a := Q0a.out
           have Q2b := Q0b.out
           have Q1a : wr.cell? ⟨Q04, 0, none⟩ = some (.slice A0_0 l0_0.length c0_0) := bC Q00 0
           have Q1b : wr.cell? ⟨Q04, 1, none⟩ = some (.slice A0_1 l0_1.length c0_1) := bC Q00 1
           have Q1c := blk_frozen Q00.out 0
           have Q1d := blk_frozen Q00.out 1
           go_wp2
           go_meet
           case rel => exact ⟨_, (false), rS, H', ⟨by have := HK1.out; have := HJ4.out; have := HK3.out; first | omega | exact Nat.le_refl _⟩, ⟨pR Q03⟩, ⟨pR Q06⟩, ⟨pB Q00⟩, ⟨pB Q02⟩, ⟨pB Q01⟩, ⟨pH HB⟩⟩
         ·rw [if_neg c26] at H
          have c26b0 : decide (x6_3 < (l0_1.length : Int)) = false := decide_eq_false c26
          clear c26
          (first | rw [c26b0] | (simp only [i64_w, i32_w]; rw [c26b0]) | skip)
          have H' := Aside0.mk H
          clear H
          have Q2c := Q0c.out
          have Q2d := Q0d.out
          have Q2e := Q0a.out
          have Q2f := Q0b.out
          have Q1e : wr.cell? ⟨Q04, 0, none⟩ = some (.slice A0_0 l0_0.length c0_0) := bC Q00 0
          have Q1f : wr.cell? ⟨Q04, 1, none⟩ = some (.slice A0_1 l0_1.length c0_1) := bC Q00 1
          have Q1g := blk_frozen Q00.out 0
          have Q1h := blk_frozen Q00.out 1
          go_wp2
          go_meet
          case rel => exact ⟨_, (false), rS, H', ⟨by have := HK1.out; have := HJ4.out; have := HK3.out; first | omega | exact Nat.le_refl _⟩, ⟨pR Q03⟩, ⟨pR Q06⟩, ⟨pB Q00⟩, ⟨pB Q02⟩, ⟨pB Q01⟩, ⟨pH HB⟩⟩
        case rest =>
         clear HC25
         try clear c1; try clear c2; try clear p2; try clear c3; try clear c5; try clear p5; try clear q5; try clear hx5; try clear c6; try clear c6b0; try clear p6; try clear c7; try clear c8; try clear c10; try clear c11; try clear c13; try clear c14; try clear c14b0; try clear c15; try clear c15b0; try clear c16; try clear c21; try clear c22; try clear c26; try clear c26b0; try clear c27; try clear c27b0; try clear c28; try clear c29; try clear c31; try clear c32; try clear c34; try clear c35; try clear Q0k; try clear Q0l; try clear Q0w; try clear Q0x; try clear Q16; try clear Q17; try clear Q1a; try clear Q1b; try clear Q1e; try clear Q1f; try clear Q0g; try clear Q0h; try clear Q0m; try clear Q0n; try clear Q0y; try clear Q0z; try clear Q18; try clear Q19; try clear Q1c; try clear Q1d; try clear Q1g; try clear Q1h; try clear Q0i; try clear Q0j; try clear hx104_0; try clear p2; try clear p5; try clear p104; try clear p6; try clear q5; try clear q104
         obtain ⟨kq, x45_24, rfl, HA, HJ24, Q03, Q06, Q00, Q02, Q01, HB⟩ := hcut
         cases kq with
         | zero => exact absurd HA.out (by simp [scarfjointref05_Made.j3])
         | succ kj24 =>
          have H := HA.out
          clear HA
          simp only [scarfjointref05_Made.j3] at H
          by_cases c37 : x45_24 = true
          ·subst c37
           have H1 : (if 0 ≤ x6_3 then (if x6_3 < (l0_1.length : Int) then (if (x104000_1.length : Int) = 0 then (none) else (if x104001_3.length < 5864062014805 then (scarfjointref05_Made.l1 kj24 (x104000_1.length : Int) (wrap64 (x6_3 + 1)) l0_0 l0_1 x104000_1 (x104001_3 ++ [(⟨wrap64 (Int.tmod ((rd_T95 l0_1 x6_3).f0) 2), Int.tmod (wrap64 ((rd_T95 l0_1 x6_3).f1)) (x104000_1.length : Int), Int.tmod (wrap64 ((rd_T95 l0_1 x6_3).f2)) (x104000_1.length : Int)⟩ : S94)])) else (none))) else (none)) else (none)) = some (r1, r2) := by rw [if_pos rfl] at H; exact H
           clear H
           have H := H1
           clear H1
           by_cases c38 : 0 ≤ x6_3
           ·rw [if_pos c38] at H
            have c38b0 : decide (0 ≤ x6_3) = true := decide_eq_true c38
            clear c38
            by_cases c39 : x6_3 < (l0_1.length : Int)
            ·rw [if_pos c39] at H
             have c39b0 : decide (x6_3 < (l0_1.length : Int)) = true := decide_eq_true c39
             clear c39
             by_cases c40 : (x104000_1.length : Int) = 0
             ·rw [if_pos c40] at H
              exact absurd H (by simp)
             ·rw [if_neg c40] at H
              have c40b0 : ((x104000_1.length : Int) == 0) = false := beq_eq_false_iff_ne.mpr c40
              have c40b1 : ((x104000_1.length : Int) != 0) = true := bne_iff_ne.mpr c40
              have c40b2 : ¬ (x104000_1 = []) := fun h_ => c40 (by rw [h_]; rfl)
              by_cases c41 : x104001_3.length < 5864062014805
              ·rw [if_pos c41] at H
               have LMc41 := Aside0.mk c41
               clear c41
               obtain ⟨y111, hy111⟩ : ∃ y_ : List (S94), y_ = (x104001_3 ++ [(⟨wrap64 (Int.tmod ((rd_T95 l0_1 x6_3).f0) 2), Int.tmod (wrap64 ((rd_T95 l0_1 x6_3).f1)) (x104000_1.length : Int), Int.tmod (wrap64 ((rd_T95 l0_1 x6_3).f2)) (x104000_1.length : Int)⟩ : S94)]) := ⟨_, rfl⟩
               replace H : (scarfjointref05_Made.l1 kj24 (x104000_1.length : Int) (wrap64 (x6_3 + 1)) l0_0 l0_1 x104000_1 y111) = some (r1, r2) := by first | (rw [hy111]; with_reducible exact H) | (have H2_ := (Option.bind_some _ _).symm.trans H; rw [hy111]; with_reducible exact H2_) | (have H2_ := (Option.bind_some _ _).symm.trans H; with_reducible exact H2_) | with_reducible exact H | (rw [hy111]; exact H) | exact H
               have Ny111 := Aside0.mk hy111
               clear hy111
               have H' := Aside0.mk H
               clear H
               try go_wp2
               replace Q03 := Aside0.mk (rD Q03.out)
               replace Q06 := Aside0.mk (rD Q06.out)
               replace Q00 := Aside0.mk (bD Q00.out)
               replace Q02 := Aside0.mk (bD Q02.out)
               replace Q01 := Aside0.mk (bD Q01.out)
               replace HB := Aside0.mk (wD HB.out)
               have p108 : 0 ≤ (x6_3 : Int) := oT
               have q108 : x6_3 < (l0_1.length : Int) := oT
               obtain ⟨ad108, e108, hx108_0, hx108_1, hx108_2⟩ := at_T95 HR0_1.out x6_3 p108 q108
               have hw108_2 := hx108_2
               have hw108_1 := hx108_1
               have hw108_0 := hx108_0
               cases e108
               replace hx108_0 := (HB.out.cell (World.block_lt_of_cell? w _ hx108_0)).trans hx108_0
               replace hx108_1 := (HB.out.cell (World.block_lt_of_cell? w _ hx108_1)).trans hx108_1
               replace hx108_2 := (HB.out.cell (World.block_lt_of_cell? w _ hx108_2)).trans hx108_2
               replace p108 := eq_true p108
               replace q108 := eq_true q108
               have p109 : 0 ≤ (x6_3 : Int) := oT
               have q109 : x6_3 < (l0_1.length : Int) := oT
               obtain ⟨ad109, e109, hx109_0, hx109_1, hx109_2⟩ := at_T95 HR0_1.out x6_3 p109 q109
               have hw109_2 := hx109_2
               have hw109_1 := hx109_1
               have hw109_0 := hx109_0
               obtain rfl : ad108 = ad109 := (by injection e109)
               replace hx109_0 := (HB.out.cell (World.block_lt_of_cell? w _ hx109_0)).trans hx109_0
               replace hx109_1 := (HB.out.cell (World.block_lt_of_cell? w _ hx109_1)).trans hx109_1
               replace hx109_2 := (HB.out.cell (World.block_lt_of_cell? w _ hx109_2)).trans hx109_2
               replace p109 := eq_true p109
               replace q109 := eq_true q109
               have p110 : 0 ≤ (x6_3 : Int) := oT
               have q110 : x6_3 < (l0_1.length : Int) := oT
               obtain ⟨ad110, e110, hx110_0, hx110_1, hx110_2⟩ := at_T95 HR0_1.out x6_3 p110 q110
               have hw110_2 := hx110_2
               have hw110_1 := hx110_1
               have hw110_0 := hx110_0
               obtain rfl : ad108 = ad110 := (by injection e110)
               replace hx110_0 := (HB.out.cell (World.block_lt_of_cell? w _ hx110_0)).trans hx110_0
               replace hx110_1 := (HB.out.cell (World.block_lt_of_cell? w _ hx110_1)).trans hx110_1
               replace hx110_2 := (HB.out.cell (World.block_lt_of_cell? w _ hx110_2)).trans hx110_2
               replace p110 := eq_true p110
               replace q110 := eq_true q110
               refine start_ (n := 33) (S := fun w' => w'.cell? ⟨Q05, 0, none⟩ = some (.slice Q08 x104000_1.length Q09) ∧ w'.cell? ⟨Q05, 1, none⟩ = some (u104001) ∧ w'.cell? ⟨Q04, 0, none⟩ = some (.slice A0_0 l0_0.length c0_0) ∧ w'.cell? ⟨Q04, 1, none⟩ = some (.slice (some ad108) l0_1.length c0_1) ∧ w'.cell? (ad108.add ((x6_3).toNat * 3)) = some (.int .u8 ((rd_T95 l0_1 x6_3).f0)) ∧ w'.cell? ⟨(ad108.add ((x6_3).toNat * 3)).block, (ad108.add ((x6_3).toNat * 3)).off + 1, none⟩ = some (.int .u8 ((rd_T95 l0_1 x6_3).f1)) ∧ w'.cell? ⟨(ad108.add ((x6_3).toNat * 3)).block, (ad108.add ((x6_3).toNat * 3)).off + 2, none⟩ = some (.int .u8 ((rd_T95 l0_1 x6_3).f2)) ∧ w'.cell? (ad108.add ((x6_3).toNat * 3)) = some (.int .u8 ((rd_T95 l0_1 x6_3).f0)) ∧ w'.cell? ⟨(ad108.add ((x6_3).toNat * 3)).block, (ad108.add ((x6_3).toNat * 3)).off + 1, none⟩ = some (.int .u8 ((rd_T95 l0_1 x6_3).f1)) ∧ w'.cell? ⟨(ad108.add ((x6_3).toNat * 3)).block, (ad108.add ((x6_3).toNat * 3)).off + 2, none⟩ = some (.int .u8 ((rd_T95 l0_1 x6_3).f2)) ∧ w'.cell? (ad108.add ((x6_3).toNat * 3)) = some (.int .u8 ((rd_T95 l0_1 x6_3).f0)) ∧ w'.cell? ⟨(ad108.add ((x6_3).toNat * 3)).block, (ad108.add ((x6_3).toNat * 3)).off + 1, none⟩ = some (.int .u8 ((rd_T95 l0_1 x6_3).f1)) ∧ w'.cell? ⟨(ad108.add ((x6_3).toNat * 3)).block, (ad108.add ((x6_3).toNat * 3)).off + 2, none⟩ = some (.int .u8 ((rd_T95 l0_1 x6_3).f2))) (ds := [32]) #[false, false, false, false, false, false, false, false, false, false, false, false, false, false, false, false, false, false, false, false, false, false, false, false, false, false, false, false, false, false, false, false, false] (by kernel_rfl) rfl rfl ⟨bC Q01 0, bC Q01 1, bC Q00 0, bC Q00 1, ((HB.out.cell (World.block_lt_of_cell? w _ hw108_0)).trans hw108_0), ((HB.out.cell (World.block_lt_of_cell? w _ hw108_1)).trans hw108_1), ((HB.out.cell (World.block_lt_of_cell? w _ hw108_2)).trans hw108_2), ((HB.out.cell (World.block_lt_of_cell? w _ hw109_0)).trans hw109_0), ((HB.out.cell (World.block_lt_of_cell? w _ hw109_1)).trans hw109_1), ((HB.out.cell (World.block_lt_of_cell? w _ hw109_2)).trans hw109_2), ((HB.out.cell (World.block_lt_of_cell? w _ hw110_0)).trans hw110_0), ((HB.out.cell (World.block_lt_of_cell? w _ hw110_1)).trans hw110_1), ((HB.out.cell (World.block_lt_of_cell? w _ hw110_2)).trans hw110_2)⟩ (fun hHeld => ?_); refine with_tabW scarfjointref05_Made.tab10 scarfjointref05_Made.bits10 (fun HT_ HW_ => ?_)
               generalize wc.drew = w42 at Q03 Q06 Q00 Q02 Q01 HB hx108_0 hx108_1 hx108_2 hx109_0 hx109_1 hx109_2 hx110_0 hx110_1 hx110_2 hHeld ⊢
               refine pure_ (i := 0) (N := some 48) (v := ?_) (a' := ?_) #[true, false, false, false, false, false, false, false, false, false, false, false, false, false, false, false, false, false, false, false, false, false, false, false, false, false, false, false, false, false, false, false, false] rfl rfl (any_of HT_.out (by kernel_rfl)) (fun _ _ _ h => h) (Or.inl ⟨by rfl, ?_⟩) ?_ ?_
               rotate_left
               ·intro w'
                go_simp
                with_reducible rfl
               rotate_left
               ·simp only [Act.put, List.setIfInBounds_toArray, List.set_cons_zero, List.set_cons_succ, i64_w, i32_w]
                rfl
               refine pure_ (i := 2) (N := some 50) (v := ?_) (a' := ?_) #[true, false, true, false, false, false, false, false, false, false, false, false, false, false, false, false, false, false, false, false, false, false, false, false, false, false, false, false, false, false, false, false, false] rfl rfl (any_of HT_.out (by kernel_rfl)) (fun _ _ _ h => h) (Or.inl ⟨by rfl, ?_⟩) ?_ ?_
               rotate_left
               ·intro w'
                go_simp
                with_reducible rfl
               rotate_left
               ·simp only [Act.put, List.setIfInBounds_toArray, List.set_cons_zero, List.set_cons_succ, i64_w, i32_w]
                rfl
               refine pure_ (i := 4) (N := some 52) (v := ?_) (a' := ?_) #[true, false, true, false, true, false, false, false, false, false, false, false, false, false, false, false, false, false, false, false, false, false, false, false, false, false, false, false, false, false, false, false, false] rfl rfl (any_of HT_.out (by kernel_rfl)) (fun _ _ _ h => h) (Or.inl ⟨by rfl, ?_⟩) ?_ ?_
               rotate_left
               ·intro w'
                go_simp
                with_reducible rfl
               rotate_left
               ·simp only [Act.put, List.setIfInBounds_toArray, List.set_cons_zero, List.set_cons_succ, i64_w, i32_w]
                rfl
               refine pure_ (i := 10) (N := some 58) (v := ?_) (a' := ?_) #[true, false, true, false, true, false, false, false, false, false, true, false, false, false, false, false, false, false, false, false, false, false, false, false, false, false, false, false, false, false, false, false, false] rfl rfl (any_of HT_.out (by kernel_rfl)) (fun _ _ _ h => h) (Or.inl ⟨by rfl, ?_⟩) ?_ ?_
               rotate_left
               ·intro w'
                go_simp
                with_reducible rfl
               rotate_left
               ·simp only [Act.put, List.setIfInBounds_toArray, List.set_cons_zero, List.set_cons_succ, i64_w, i32_w]
                rfl
               refine pure_ (i := 12) (N := some 60) (v := ?_) (a' := ?_) #[true, false, true, false, true, false, false, false, false, false, true, false, true, false, false, false, false, false, false, false, false, false, false, false, false, false, false, false, false, false, false, false, false] rfl rfl (any_of HT_.out (by kernel_rfl)) (fun _ _ _ h => h) (Or.inl ⟨by rfl, ?_⟩) ?_ ?_
               rotate_left
               ·intro w'
                go_simp
                with_reducible rfl
               rotate_left
               ·simp only [Act.put, List.setIfInBounds_toArray, List.set_cons_zero, List.set_cons_succ, i64_w, i32_w]
                rfl
               refine pure_ (i := 17) (N := some 65) (v := ?_) (a' := ?_) #[true, false, true, false, true, false, false, false, false, false, true, false, true, false, false, false, false, true, false, false, false, false, false, false, false, false, false, false, false, false, false, false, false] rfl rfl (any_of HT_.out (by kernel_rfl)) (fun _ _ _ h => h) (Or.inl ⟨by rfl, ?_⟩) ?_ ?_
               rotate_left
               ·intro w'
                go_simp
                with_reducible rfl
               rotate_left
               ·simp only [Act.put, List.setIfInBounds_toArray, List.set_cons_zero, List.set_cons_succ, i64_w, i32_w]
                rfl
               refine pure_ (i := 19) (N := some 67) (v := ?_) (a' := ?_) #[true, false, true, false, true, false, false, false, false, false, true, false, true, false, false, false, false, true, false, true, false, false, false, false, false, false, false, false, false, false, false, false, false] rfl rfl (any_of HT_.out (by kernel_rfl)) (fun _ _ _ h => h) (Or.inl ⟨by rfl, ?_⟩) ?_ ?_
               rotate_left
               ·intro w'
                go_simp
                with_reducible rfl
               rotate_left
               ·simp only [Act.put, List.setIfInBounds_toArray, List.set_cons_zero, List.set_cons_succ, i64_w, i32_w]
                rfl
               refine pure_ (i := 21) (N := some 69) (v := ?_) (a' := ?_) #[true, false, true, false, true, false, false, false, false, false, true, false, true, false, false, false, false, true, false, true, false, true, false, false, false, false, false, false, false, false, false, false, false] rfl rfl (any_of HT_.out (by kernel_rfl)) (fun _ _ _ h => h) (Or.inl ⟨by rfl, ?_⟩) ?_ ?_
               rotate_left
               ·intro w'
                go_simp
                with_reducible rfl
               rotate_left
               ·simp only [Act.put, List.setIfInBounds_toArray, List.set_cons_zero, List.set_cons_succ, i64_w, i32_w]
                rfl
               refine pure_ (i := 26) (N := some 74) (v := ?_) (a' := ?_) #[true, false, true, false, true, false, false, false, false, false, true, false, true, false, false, false, false, true, false, true, false, true, false, false, false, false, true, false, false, false, false, false, false] rfl rfl (any_of HT_.out (by kernel_rfl)) (fun _ _ _ h => h) (Or.inl ⟨by rfl, ?_⟩) ?_ ?_
               rotate_left
               ·intro w'
                go_simp
                with_reducible rfl
               rotate_left
               ·simp only [Act.put, List.setIfInBounds_toArray, List.set_cons_zero, List.set_cons_succ, i64_w, i32_w]
                rfl
               refine take_ (i := 1) (N := some 49) (v := ?_) (a' := ?_) #[true, true, true, false, true, false, false, false, false, false, true, false, true, false, false, false, false, true, false, true, false, true, false, false, false, false, true, false, false, false, false, false, false] rfl rfl (take_ofW HT_.out HW_.out (by kernel_rfl)) (fun _ _ _ h => h) (Or.inl ⟨by rfl, ?_⟩) hHeld ?_ ?_
               rotate_left
               ·rintro w' ⟨s0, s1, s2, s3, s4, s5, s6, s7, s8, s9, s10, s11, s12⟩
                go_simp
                with_reducible rfl
               rotate_left
               ·simp only [Act.put, List.setIfInBounds_toArray, List.set_cons_zero, List.set_cons_succ, i64_w, i32_w]
                rfl
               refine take_ (i := 3) (N := some 51) (v := ?_) (a' := ?_) #[true, true, true, true, true, false, false, false, false, false, true, false, true, false, false, false, false, true, false, true, false, true, false, false, false, false, true, false, false, false, false, false, false] rfl rfl (take_ofW HT_.out HW_.out (by kernel_rfl)) (fun _ _ _ h => h) (Or.inl ⟨by rfl, ?_⟩) hHeld ?_ ?_
               rotate_left
               ·rintro w' ⟨s0, s1, s2, s3, s4, s5, s6, s7, s8, s9, s10, s11, s12⟩
                go_simp
                with_reducible rfl
               rotate_left
               ·simp only [Act.put, List.setIfInBounds_toArray, List.set_cons_zero, List.set_cons_succ, i64_w, i32_w]
                rfl
               refine pure_ (i := 5) (N := some 53) (v := ?_) (a' := ?_) #[true, true, true, true, true, true, false, false, false, false, true, false, true, false, false, false, false, true, false, true, false, true, false, false, false, false, true, false, false, false, false, false, false] rfl rfl (any_of HT_.out (by kernel_rfl)) (fun _ _ _ h => h) (Or.inl ⟨by rfl, ?_⟩) ?_ ?_
               rotate_left
               ·intro w'
                go_simp
                with_reducible rfl
               rotate_left
               ·simp only [Act.put, List.setIfInBounds_toArray, List.set_cons_zero, List.set_cons_succ, i64_w, i32_w]
                rfl
               refine pure_ (i := 6) (N := some 54) (v := ?_) (a' := ?_) #[true, true, true, true, true, true, true, false, false, false, true, false, true, false, false, false, false, true, false, true, false, true, false, false, false, false, true, false, false, false, false, false, false] rfl rfl (any_of HT_.out (by kernel_rfl)) (fun _ _ _ h => h) (Or.inl ⟨by rfl, ?_⟩) ?_ ?_
               rotate_left
               ·intro w'
                go_simp
                with_reducible rfl
               rotate_left
               ·simp only [Act.put, List.setIfInBounds_toArray, List.set_cons_zero, List.set_cons_succ, i64_w, i32_w]
                rfl
               refine take_ (i := 7) (N := some 55) (v := ?_) (a' := ?_) #[true, true, true, true, true, true, true, true, false, false, true, false, true, false, false, false, false, true, false, true, false, true, false, false, false, false, true, false, false, false, false, false, false] rfl rfl (take_ofW HT_.out HW_.out (by kernel_rfl)) (fun _ _ _ h => h) (Or.inl ⟨by rfl, ?_⟩) hHeld ?_ ?_
               rotate_left
               ·rintro w' ⟨s0, s1, s2, s3, s4, s5, s6, s7, s8, s9, s10, s11, s12⟩
                go_simp
                with_reducible rfl
               rotate_left
               ·simp only [Act.put, List.setIfInBounds_toArray, List.set_cons_zero, List.set_cons_succ, i64_w, i32_w]
                rfl
               refine pure_ (i := 8) (N := some 56) (v := ?_) (a' := ?_) #[true, true, true, true, true, true, true, true, true, false, true, false, true, false, false, false, false, true, false, true, false, true, false, false, false, false, true, false, false, false, false, false, false] rfl rfl (any_of HT_.out (by kernel_rfl)) (fun _ _ _ h => h) (Or.inl ⟨by rfl, ?_⟩) ?_ ?_
               rotate_left
               ·intro w'
                go_simp
                with_reducible rfl
               rotate_left
               ·simp only [Act.put, List.setIfInBounds_toArray, List.set_cons_zero, List.set_cons_succ, i64_w, i32_w]
                rfl
               refine pure_ (i := 9) (N := some 57) (v := ?_) (a' := ?_) #[true, true, true, true, true, true, true, true, true, true, true, false, true, false, false, false, false, true, false, true, false, true, false, false, false, false, true, false, false, false, false, false, false] rfl rfl (any_of HT_.out (by kernel_rfl)) (fun _ _ _ h => h) (Or.inl ⟨by rfl, ?_⟩) ?_ ?_
               rotate_left
               ·intro w'
                go_simp
                with_reducible rfl
               rotate_left
               ·simp only [Act.put, List.setIfInBounds_toArray, List.set_cons_zero, List.set_cons_succ, i64_w, i32_w]
                rfl
               refine take_ (i := 11) (N := some 59) (v := ?_) (a' := ?_) #[true, true, true, true, true, true, true, true, true, true, true, true, true, false, false, false, false, true, false, true, false, true, false, false, false, false, true, false, false, false, false, false, false] rfl rfl (take_ofW HT_.out HW_.out (by kernel_rfl)) (fun _ _ _ h => h) (Or.inl ⟨by rfl, ?_⟩) hHeld ?_ ?_
               rotate_left
               ·rintro w' ⟨s0, s1, s2, s3, s4, s5, s6, s7, s8, s9, s10, s11, s12⟩
                go_simp
                with_reducible rfl
               rotate_left
               ·simp only [Act.put, List.setIfInBounds_toArray, List.set_cons_zero, List.set_cons_succ, i64_w, i32_w]
                rfl
               refine pure_ (i := 13) (N := some 61) (v := ?_) (a' := ?_) #[true, true, true, true, true, true, true, true, true, true, true, true, true, true, false, false, false, true, false, true, false, true, false, false, false, false, true, false, false, false, false, false, false] rfl rfl (any_of HT_.out (by kernel_rfl)) (fun _ _ _ h => h) (Or.inl ⟨by rfl, ?_⟩) ?_ ?_
               rotate_left
               ·intro w'
                go_simp
                with_reducible rfl
               rotate_left
               ·simp only [Act.put, List.setIfInBounds_toArray, List.set_cons_zero, List.set_cons_succ, i64_w, i32_w]
                rfl
               refine pure_ (i := 14) (N := some 62) (v := ?_) (a' := ?_) #[true, true, true, true, true, true, true, true, true, true, true, true, true, true, true, false, false, true, false, true, false, true, false, false, false, false, true, false, false, false, false, false, false] rfl rfl (any_of HT_.out (by kernel_rfl)) (fun _ _ _ h => h) (Or.inl ⟨by rfl, ?_⟩) ?_ ?_
               rotate_left
               ·intro w'
                go_simp
                with_reducible rfl
               rotate_left
               ·simp only [Act.put, List.setIfInBounds_toArray, List.set_cons_zero, List.set_cons_succ, i64_w, i32_w]
                rfl
               refine take_ (i := 15) (N := some 63) (v := ?_) (a' := ?_) #[true, true, true, true, true, true, true, true, true, true, true, true, true, true, true, true, false, true, false, true, false, true, false, false, false, false, true, false, false, false, false, false, false] rfl rfl (take_ofW HT_.out HW_.out (by kernel_rfl)) (fun _ _ _ h => h) (Or.inl ⟨by rfl, ?_⟩) hHeld ?_ ?_
               rotate_left
               ·rintro w' ⟨s0, s1, s2, s3, s4, s5, s6, s7, s8, s9, s10, s11, s12⟩
                go_simp
                with_reducible rfl
               rotate_left
               ·simp only [Act.put, List.setIfInBounds_toArray, List.set_cons_zero, List.set_cons_succ, i64_w, i32_w]
                rfl
               refine pure_ (i := 16) (N := some 64) (v := ?_) (a' := ?_) #[true, true, true, true, true, true, true, true, true, true, true, true, true, true, true, true, true, true, false, true, false, true, false, false, false, false, true, false, false, false, false, false, false] rfl rfl (any_of HT_.out (by kernel_rfl)) (fun _ _ _ h => h) (Or.inl ⟨by rfl, ?_⟩) ?_ ?_
               rotate_left
               ·intro w'
                go_simp
                with_reducible rfl
               rotate_left
               ·simp only [Act.put, List.setIfInBounds_toArray, List.set_cons_zero, List.set_cons_succ, i64_w, i32_w]
                rfl
               refine pure_ (i := 18) (N := some 66) (v := ?_) (a' := ?_) #[true, true, true, true, true, true, true, true, true, true, true, true, true, true, true, true, true, true, true, true, false, true, false, false, false, false, true, false, false, false, false, false, false] rfl rfl (any_of HT_.out (by kernel_rfl)) (fun _ _ _ h => h) (Or.inl ⟨by rfl, ?_⟩) ?_ ?_
               rotate_left
               ·intro w'
                go_simp
                with_reducible rfl
               rotate_left
               ·simp only [Act.put, List.setIfInBounds_toArray, List.set_cons_zero, List.set_cons_succ, i64_w, i32_w]
                rfl
               refine take_ (i := 20) (N := some 68) (v := ?_) (a' := ?_) #[true, true, true, true, true, true, true, true, true, true, true, true, true, true, true, true, true, true, true, true, true, true, false, false, false, false, true, false, false, false, false, false, false] rfl rfl (take_ofW HT_.out HW_.out (by kernel_rfl)) (fun _ _ _ h => h) (Or.inl ⟨by rfl, ?_⟩) hHeld ?_ ?_
               rotate_left
               ·rintro w' ⟨s0, s1, s2, s3, s4, s5, s6, s7, s8, s9, s10, s11, s12⟩
                go_simp
                with_reducible rfl
               rotate_left
               ·simp only [Act.put, List.setIfInBounds_toArray, List.set_cons_zero, List.set_cons_succ, i64_w, i32_w]
                rfl
               refine pure_ (i := 22) (N := some 70) (v := ?_) (a' := ?_) #[true, true, true, true, true, true, true, true, true, true, true, true, true, true, true, true, true, true, true, true, true, true, true, false, false, false, true, false, false, false, false, false, false] rfl rfl (any_of HT_.out (by kernel_rfl)) (fun _ _ _ h => h) (Or.inl ⟨by rfl, ?_⟩) ?_ ?_
               rotate_left
               ·intro w'
                go_simp
                with_reducible rfl
               rotate_left
               ·simp only [Act.put, List.setIfInBounds_toArray, List.set_cons_zero, List.set_cons_succ, i64_w, i32_w]
                rfl
               refine pure_ (i := 23) (N := some 71) (v := ?_) (a' := ?_) #[true, true, true, true, true, true, true, true, true, true, true, true, true, true, true, true, true, true, true, true, true, true, true, true, false, false, true, false, false, false, false, false, false] rfl rfl (any_of HT_.out (by kernel_rfl)) (fun _ _ _ h => h) (Or.inl ⟨by rfl, ?_⟩) ?_ ?_
               rotate_left
               ·intro w'
                go_simp
                with_reducible rfl
               rotate_left
               ·simp only [Act.put, List.setIfInBounds_toArray, List.set_cons_zero, List.set_cons_succ, i64_w, i32_w]
                rfl
               refine take_ (i := 24) (N := some 72) (v := ?_) (a' := ?_) #[true, true, true, true, true, true, true, true, true, true, true, true, true, true, true, true, true, true, true, true, true, true, true, true, true, false, true, false, false, false, false, false, false] rfl rfl (take_ofW HT_.out HW_.out (by kernel_rfl)) (fun _ _ _ h => h) (Or.inl ⟨by rfl, ?_⟩) hHeld ?_ ?_
               rotate_left
               ·rintro w' ⟨s0, s1, s2, s3, s4, s5, s6, s7, s8, s9, s10, s11, s12⟩
                go_simp
                with_reducible rfl
               rotate_left
               ·simp only [Act.put, List.setIfInBounds_toArray, List.set_cons_zero, List.set_cons_succ, i64_w, i32_w]
                rfl
               refine pure_ (i := 25) (N := some 73) (v := ?_) (a' := ?_) #[true, true, true, true, true, true, true, true, true, true, true, true, true, true, true, true, true, true, true, true, true, true, true, true, true, true, true, false, false, false, false, false, false] rfl rfl (any_of HT_.out (by kernel_rfl)) (fun _ _ _ h => h) (Or.inl ⟨by rfl, ?_⟩) ?_ ?_
               rotate_left
               ·intro w'
                go_simp
                with_reducible rfl
               rotate_left
               ·simp only [Act.put, List.setIfInBounds_toArray, List.set_cons_zero, List.set_cons_succ, i64_w, i32_w]
                rfl
               refine pure_ (i := 27) (N := some 75) (v := ?_) (a' := ?_) #[true, true, true, true, true, true, true, true, true, true, true, true, true, true, true, true, true, true, true, true, true, true, true, true, true, true, true, true, false, false, false, false, false] rfl rfl (any_of HT_.out (by kernel_rfl)) (fun _ _ _ h => h) (Or.inl ⟨by rfl, ?_⟩) ?_ ?_
               rotate_left
               ·intro w'
                go_simp
                with_reducible rfl
               rotate_left
               ·simp only [Act.put, List.setIfInBounds_toArray, List.set_cons_zero, List.set_cons_succ, i64_w, i32_w]
                rfl
               refine pure_ (i := 28) (N := some 76) (v := ?_) (a' := ?_) #[true, true, true, true, true, true, true, true, true, true, true, true, true, true, true, true, true, true, true, true, true, true, true, true, true, true, true, true, true, false, false, false, false] rfl rfl (any_of HT_.out (by kernel_rfl)) (fun _ _ _ h => h) (Or.inl ⟨by rfl, ?_⟩) ?_ ?_
               rotate_left
               ·intro w'
                go_simp
                with_reducible rfl
               rotate_left
               ·simp only [Act.put, List.setIfInBounds_toArray, List.set_cons_zero, List.set_cons_succ, i64_w, i32_w]
                rfl
               refine one_ (i := 29) (N := some 77) #[true, true, true, true, true, true, true, true, true, true, true, true, true, true, true, true, true, true, true, true, true, true, true, true, true, true, true, true, true, true, false, false, false] rfl rfl (one_of HT_.out (by kernel_rfl)) (by decide) (fun K hK => ?_)
               refine value_ (w1 := ?_) (v := ?_) (by rfl) rfl ?_ ?_
               rotate_left 2
               ·go_simp
                constructor
                ·rfl
                ·rfl
               refine hK.out _ _ ⟨(blk_cell (bA Q01.out _) 0).trans rfl, (blk_cell (bA Q01.out _) 1).trans rfl, (blk_cell (bA Q00.out _) 0).trans rfl, (blk_cell (bA Q00.out _) 1).trans rfl, (World.cell?_alloc_lt _ _ _ (World.block_lt_of_cell? _ _ (((HB.out.cell (World.block_lt_of_cell? w _ hw108_0)).trans hw108_0)))).trans (((HB.out.cell (World.block_lt_of_cell? w _ hw108_0)).trans hw108_0)), (World.cell?_alloc_lt _ _ _ (World.block_lt_of_cell? _ _ (((HB.out.cell (World.block_lt_of_cell? w _ hw108_1)).trans hw108_1)))).trans (((HB.out.cell (World.block_lt_of_cell? w _ hw108_1)).trans hw108_1)), (World.cell?_alloc_lt _ _ _ (World.block_lt_of_cell? _ _ (((HB.out.cell (World.block_lt_of_cell? w _ hw108_2)).trans hw108_2)))).trans (((HB.out.cell (World.block_lt_of_cell? w _ hw108_2)).trans hw108_2)), (World.cell?_alloc_lt _ _ _ (World.block_lt_of_cell? _ _ (((HB.out.cell (World.block_lt_of_cell? w _ hw109_0)).trans hw109_0)))).trans (((HB.out.cell (World.block_lt_of_cell? w _ hw109_0)).trans hw109_0)), (World.cell?_alloc_lt _ _ _ (World.block_lt_of_cell? _ _ (((HB.out.cell (World.block_lt_of_cell? w _ hw109_1)).trans hw109_1)))).trans (((HB.out.cell (World.block_lt_of_cell? w _ hw109_1)).trans hw109_1)), (World.cell?_alloc_lt _ _ _ (World.block_lt_of_cell? _ _ (((HB.out.cell (World.block_lt_of_cell? w _ hw109_2)).trans hw109_2)))).trans (((HB.out.cell (World.block_lt_of_cell? w _ hw109_2)).trans hw109_2)), (World.cell?_alloc_lt _ _ _ (World.block_lt_of_cell? _ _ (((HB.out.cell (World.block_lt_of_cell? w _ hw110_0)).trans hw110_0)))).trans (((HB.out.cell (World.block_lt_of_cell? w _ hw110_0)).trans hw110_0)), (World.cell?_alloc_lt _ _ _ (World.block_lt_of_cell? _ _ (((HB.out.cell (World.block_lt_of_cell? w _ hw110_1)).trans hw110_1)))).trans (((HB.out.cell (World.block_lt_of_cell? w _ hw110_1)).trans hw110_1)), (World.cell?_alloc_lt _ _ _ (World.block_lt_of_cell? _ _ (((HB.out.cell (World.block_lt_of_cell? w _ hw110_2)).trans hw110_2)))).trans (((HB.out.cell (World.block_lt_of_cell? w _ hw110_2)).trans hw110_2))⟩ (fun hHeld => ?_)
               clear hK K
               refine norm_ (a' := ?_) ?_ ?_
               rotate_left
               ·show Act.put _ (some 77) _ = _
                simp only [Act.put, List.setIfInBounds_toArray, List.set_cons_zero, List.set_cons_succ, i64_w, i32_w]
                rfl
               refine one_ (i := 30) (N := some 78) #[true, true, true, true, true, true, true, true, true, true, true, true, true, true, true, true, true, true, true, true, true, true, true, true, true, true, true, true, true, true, true, false, false] rfl rfl (one_of HT_.out (by kernel_rfl)) (by decide) (fun K hK => ?_)
               refine Kd.R_append_step k94 (w0 := w) w.heap.size (by rfl) (.tmp 49) (.tmp 77) 23 94 (.agg #[(.int .i64 0), (.int .i64 0), (.int .i64 0)]) 24 rfl Try.underlying23 info94 rfl (by decide) (by omega) u104001 x104001_3 (⟨wrap64 (Int.tmod ((rd_T95 l0_1 x6_3).f0) 2), Int.tmod (wrap64 ((rd_T95 l0_1 x6_3).f1)) (x104000_1.length : Int), Int.tmod (wrap64 ((rd_T95 l0_1 x6_3).f2)) (x104000_1.length : Int)⟩ : S94) [.int .i64 (wrap64 (Int.tmod ((rd_T95 l0_1 x6_3).f0) 2)), .int .i64 (Int.tmod (wrap64 ((rd_T95 l0_1 x6_3).f1)) (x104000_1.length : Int)), .int .i64 (Int.tmod (wrap64 ((rd_T95 l0_1 x6_3).f2)) (x104000_1.length : Int))] (fun _ => True) (fun _ => False) rfl rfl ?aP (fun _ hk => hk.elim) ?aF ?aO ?aB ?aS ?aL ?_
               (case aP => exact k94_mkM _ _ _ (⟨wrap64 (Int.tmod ((rd_T95 l0_1 x6_3).f0) 2), Int.tmod (wrap64 ((rd_T95 l0_1 x6_3).f1)) (x104000_1.length : Int), Int.tmod (wrap64 ((rd_T95 l0_1 x6_3).f2)) (x104000_1.length : Int)⟩ : S94))
               (case aB => exact (pH HB))
               (case aF => exact (fun _ _ => trivial))
               (case aO => exact (pR Q06))
               (case aS => exact (below_size (pH HB)))
               (case aL => have := LMc41.out; omega)
               intro v112 w43 ho hb hg hat
               rw [← Ny111.out] at ho
               replace Q03 := Aside0.mk (Kd.R_over' (pR Q03) (Kd.R_typed (pR Q06)) (by decide) hg)
               replace Q00 := Aside0.mk (bG (g := Q04) (o := .cells #[.slice A0_0 l0_0.length c0_0, .slice (some ad108) l0_1.length c0_1] 43 (0, 0)) (pB Q00) hg (Kd.R_ne Q06.out Q00.out (by decide)))
               replace Q02 := Aside0.mk (bG (g := Q07) (o := .cells #[.slice none 0 0, .slice none 0 0] 25 (0, 0)) (pB Q02) hg (Kd.R_ne Q06.out Q02.out (by decide)))
               replace Q01 := Aside0.mk (bG (g := Q05) (o := .cells #[.slice Q08 x104000_1.length Q09, u104001] 25 (0, 0)) (pB Q01) hg (Kd.R_ne Q06.out Q01.out (by decide)))
               replace HB := Aside0.mk (hb)
               have Q10 := Aside0.mk (ho)
               clear Q06
               clear ho hb hg hat
               obtain ⟨Q0o, Q0p, Q11⟩ := Kd.R_slice Q10.out
               (first | subst Q11 | (injection Q11 with f1_ f2_ f3_; have f4_ := f1_.symm; have f5_ := f3_.symm; clear f1_ f2_ f3_; subst f4_; subst f5_))
               refine hK.out _ _ ⟨bC Q01 0, bC Q01 1, bC Q00 0, bC Q00 1, ((HB.out.cell (World.block_lt_of_cell? w _ hw108_0)).trans hw108_0), ((HB.out.cell (World.block_lt_of_cell? w _ hw108_1)).trans hw108_1), ((HB.out.cell (World.block_lt_of_cell? w _ hw108_2)).trans hw108_2), ((HB.out.cell (World.block_lt_of_cell? w _ hw109_0)).trans hw109_0), ((HB.out.cell (World.block_lt_of_cell? w _ hw109_1)).trans hw109_1), ((HB.out.cell (World.block_lt_of_cell? w _ hw109_2)).trans hw109_2), ((HB.out.cell (World.block_lt_of_cell? w _ hw110_0)).trans hw110_0), ((HB.out.cell (World.block_lt_of_cell? w _ hw110_1)).trans hw110_1), ((HB.out.cell (World.block_lt_of_cell? w _ hw110_2)).trans hw110_2)⟩ (fun hHeld => ?_)
               clear hK K
               refine norm_ (a' := ?_) ?_ ?_
               rotate_left
               ·show Act.put _ (some 78) _ = _
                simp only [Act.put, List.setIfInBounds_toArray, List.set_cons_zero, List.set_cons_succ, i64_w, i32_w]
                rfl
               refine pure_ (i := 31) (N := some 79) (v := ?_) (a' := ?_) #[true, true, true, true, true, true, true, true, true, true, true, true, true, true, true, true, true, true, true, true, true, true, true, true, true, true, true, true, true, true, true, true, false] rfl rfl (any_of HT_.out (by kernel_rfl)) (fun _ _ _ h => h) (Or.inl ⟨by rfl, ?_⟩) ?_ ?_
               rotate_left
               ·intro w'
                go_simp
                with_reducible rfl
               rotate_left
               ·simp only [Act.put, List.setIfInBounds_toArray, List.set_cons_zero, List.set_cons_succ, i64_w, i32_w]
                rfl
               refine last_ (i := 32) (N := none) #[true, true, true, true, true, true, true, true, true, true, true, true, true, true, true, true, true, true, true, true, true, true, true, true, true, true, true, true, true, true, true, true, true] rfl rfl (one_of HT_.out (by kernel_rfl)) (by decide) (fun K hK => ?_)
               have Q2g : w43.cell? ⟨Q05, 1, none⟩ = some (u104001) := bC Q01 1
               have Q2h := blk_frozen Q01.out 1
               have Q2i := Q0a.out
               have Q2j := Q0e.out
               have Q2k := Q0b.out
               have Q2l := Q0f.out
               refine skip_ (w1 := ?_) (by rfl) rfl ?_ ?_
               rotate_left
               ·go_simp
                rfl
               refine hK.out _ _ ?_
               clear hK K
               refine done_ (done_of HT_.out (by kernel_rfl)) ?_
               try go_wp2
               go_roundg kj24
               case measure => have := HK1.out; have := HJ4.out; have := HK3.out; have := HJ24.out; omega
               case rel => exact ⟨(wrap64 (x6_3 + 1)), (y111), (.slice Q0o y111.length Q0p), rS, H', ⟨by have := HK1.out; have := HJ4.out; have := HK3.out; have := HJ24.out; omega⟩, ⟨by (with_reducible repeat (first | apply rA | apply rN | apply rD)); exact Kd.R_mono (Kd.R_far (p := ⟨Q05, 1, none⟩) (Kd.R_types Q03.out Q01.out (by decide)) (fun _ hk => hk.2) (.slice Q0o y111.length Q0p)) (fun _ hk => trivial)⟩, ⟨by (with_reducible repeat (first | apply rA | apply rN | apply rD)); exact Kd.R_mono (Kd.R_far (p := ⟨Q05, 1, none⟩) (Kd.R_types Q10.out Q01.out (by decide)) (fun _ hk => hk.2) (.slice Q0o y111.length Q0p)) (fun _ hk => trivial)⟩, ⟨by (with_reducible repeat (first | refine bN ?_ _ | refine bD ?_ | refine bA ?_ _)); refine blk_far ?_ Q0a.out _; (with_reducible repeat (first | refine bN ?_ _ | refine bD ?_ | refine bA ?_ _)); exact Q00.out⟩, ⟨by (with_reducible repeat (first | refine bN ?_ _ | refine bD ?_ | refine bA ?_ _)); refine blk_far ?_ Q0e.out _; (with_reducible repeat (first | refine bN ?_ _ | refine bD ?_ | refine bA ?_ _)); exact Q02.out⟩, ⟨by (with_reducible repeat (first | refine bN ?_ _ | refine bD ?_ | refine bA ?_ _)); refine blk_put (cs := #[.slice Q08 x104000_1.length Q09, u104001]) ?_ 1 _ rfl; (with_reducible repeat (first | refine bN ?_ _ | refine bD ?_ | refine bA ?_ _)); exact Q01.out⟩, ⟨pH HB⟩⟩
              ·rw [if_neg c41] at H
               exact absurd H (by simp)
            ·rw [if_neg c39] at H
             exact absurd H (by simp)
           ·rw [if_neg c38] at H
            exact absurd H (by simp)
          ·replace c37 := Bool.eq_false_iff.mpr c37
           subst c37
           have H1 : (some (x104000_1, x104001_3)) = some (r1, r2) := by rw [if_neg (show ¬ (false = true) by decide)] at H; exact H
           clear H
           have H := H1
           clear H1
           simp only [Option.some.injEq, Prod.mk.injEq] at H
           obtain ⟨rfl, rfl⟩ := H
           have Q2m := Q0b.out
           have Q2n := Q0a.out
           have Q2o := Q0f.out
           have Q2p := Q0e.out
           have Q2q : wc.cell? ⟨Q05, 0, none⟩ = some (.slice Q08 x104000_1.length Q09) := bC Q01 0
           have Q2r : wc.cell? ⟨Q05, 1, none⟩ = some (u104001) := bC Q01 1
           have Q2s := blk_frozen Q01.out 0
           have Q2t := blk_frozen Q01.out 1
           have Q2u := Q0d.out
           have Q2v := Q0c.out
           have Q2w : wc.cell? ⟨Q07, 0, none⟩ = some (.slice none 0 0) := bC Q02 0
           have Q2x : wc.cell? ⟨Q07, 1, none⟩ = some (.slice none 0 0) := bC Q02 1
           have Q2y := blk_frozen Q02.out 0
           have Q2z := blk_frozen Q02.out 1
           obtain ⟨Q0q, Q0r, Q1i⟩ := Kd.R_slice Q06.out
           subst Q1i
           go_wp2
           refine bodyPost_ret (results_cell_row rfl _ _ Q07 25 #[.slice Q08 x104000_1.length Q09, .slice Q0q x104001_3.length Q0r] (0, 0) _ rfl (by (with_reducible repeat (first | refine bN ?_ _ | refine bD ?_ | refine bA ?_ _)); refine blk_put (cs := #[.slice Q08 x104000_1.length Q09, .slice none 0 0]) ?_ 1 _ rfl; (with_reducible repeat (first | refine bN ?_ _ | refine bD ?_ | refine bA ?_ _)); refine blk_put (cs := #[.slice none 0 0, .slice none 0 0]) ?_ 0 _ rfl; (with_reducible repeat (first | refine bN ?_ _ | refine bD ?_ | refine bA ?_ _)); exact Q02.out) Try.underlying25 rfl (by kernel_rfl)) rfl ?_
           exact ⟨_, _, by first | rfl | (simp [errW_none, errW_some] <;> rfl) | (simp [*, errW_none, errW_some] <;> rfl), by (with_reducible repeat (first | apply rA | apply rN | apply rD)); exact Kd.R_mono (Kd.R_far (p := ⟨Q07, 1, none⟩) (Kd.R_far (p := ⟨Q07, 0, none⟩) (Kd.R_types Q03.out Q02.out (by decide)) (fun _ hk => hk.2) (.slice Q08 x104000_1.length Q09)) (fun _ hk => hk.2) (.slice Q0q x104001_3.length Q0r)) (fun _ hk => trivial), by (with_reducible repeat (first | apply rA | apply rN | apply rD)); exact Kd.R_mono (Kd.R_far (p := ⟨Q07, 1, none⟩) (Kd.R_far (p := ⟨Q07, 0, none⟩) (Kd.R_types Q06.out Q02.out (by decide)) (fun _ hk => hk.2) (.slice Q08 x104000_1.length Q09)) (fun _ hk => hk.2) (.slice Q0q x104001_3.length Q0r)) (fun _ hk => trivial), by repeat (first | (with_reducible first | exact HB.out | apply wA | apply wN | apply wD | refine below_set ?_ Q12.out | refine below_set ?_ Q13.out | refine below_set ?_ Q14.out) | exact HB.out)⟩
end Go.Proofs.Ytillofiphkmjjaa.X

/- Plain laws: the graph of a draft is valid. -/
namespace Go.Proofs.Ytillofiphkmjjaa.Pl
open Go.RowKit Go.Proofs.YtillofiphkmjjaaW.PrintWords Go.Proofs.Ytillofiphkmjjaa.X
set_option linter.unusedVariables false
theorem wrap_tmod {x : Int} {n : Int} (hx : 0 ≤ x) (hn : 0 < n) (hm : n ≤ 1000000) : wrap64 (x.tmod n) = x.tmod n ∧ 0 ≤ x.tmod n ∧ x.tmod n < n := by
 have h0 := Int.tmod_nonneg n hx
 have h1 := Int.tmod_lt_of_pos x hn
 refine ⟨?_, h0, h1⟩
 unfold wrap64
 omega
theorem wrap_byte {x : Int} (h : 0 ≤ x ∧ x ≤ 255) : wrap64 x = x := by unfold wrap64; omega
def okB (x : Int) : Prop := 0 ≤ x ∧ x ≤ 255
def okB3 (e : S95) : Prop := okB e.f0 ∧ okB e.f1 ∧ okB e.f2
theorem made_l1 (xn : List Int) (xe : List S95) (g : List Int) (hg : g.length ≤ 8) (hl : xe.length ≤ 1000000) (hy : ∀ e ∈ xe, okB3 e) : ∀ (d j : Nat) (acc : List S94), j + d = xe.length → acc.length ≤ j → j ≤ 10 → (∀ e ∈ acc, edgeB g.length e = true) →
  ∃ r, Ev (fun k => scarfjointref05_Made.l1 k (g.length : Int) (j : Int) xn xe g acc) (g, r) ∧ r.length ≤ 10 ∧ r.length ≤ xe.length ∧ ∀ e ∈ r, edgeB g.length e = true := by
 intro d
 induction d with
 | zero =>
  intro j acc hj ha hj2 hok
  refine ⟨acc, Ev.step (fun k => by simp only [scarfjointref05_Made.l1]; rw [if_neg (by omega)]) (Ev.step (fun k => by simp only [scarfjointref05_Made.j3]; rw [if_neg (by simp)]) (Ev.now _)), by omega, by omega, hok⟩
 | succ d ih =>
  intro j acc hj ha hj2 hok
  have hlt : (j : Int) < (xe.length : Int) := by omega
  by_cases h10 : (j : Int) < 10
  ·by_cases hp : (g.length : Int) > 0
   ·have c0 : (0 : Int) ≤ (j : Int) := by omega
    have c1 : ¬ (g.length : Int) = 0 := by omega
    have c2 : acc.length < 5864062014805 := by omega
    have c3 : j + 1 + d = xe.length := by omega
    have c4 : acc.length + 1 ≤ j + 1 := by omega
    have c5 : j + 1 ≤ 10 := by omega
    have c6 : (g.length : Int) ≤ 1000000 := by omega
    have ew : wrap64 ((j : Int) + 1) = ((j + 1 : Nat) : Int) := by unfold wrap64; omega
    have hx := hy _ (rd95_mem xe (j : Int) c0 hlt)
    obtain ⟨hx0, hx1, hx2⟩ := hx
    unfold okB at hx0 hx1 hx2
    have e1 := wrap_byte hx1
    have e2 := wrap_byte hx2
    obtain ⟨t1, t2, t3⟩ := wrap_tmod (n := 2) hx0.1 (by decide) (by decide)
    obtain ⟨-, u2, u3⟩ := wrap_tmod (n := (g.length : Int)) hx1.1 hp c6
    obtain ⟨-, v2, v3⟩ := wrap_tmod (n := (g.length : Int)) hx2.1 hp c6
    obtain ⟨r, hr, h1, h2, h3⟩ := ih (j + 1) (acc ++ [(⟨(rd_T95 xe (j : Int)).f0.tmod 2, (rd_T95 xe (j : Int)).f1.tmod g.length, (rd_T95 xe (j : Int)).f2.tmod g.length⟩ : S94)]) c3 (by rw [List.length_append]; exact c4) c5 (fun e he => by
     rcases List.mem_append.mp he with he | he
     ·exact hok e he
     ·rw [List.mem_singleton.mp he]
      unfold edgeB kindB
      simp only [Bool.and_eq_true, decide_eq_true_eq]
      exact ⟨⟨t2, Int.le_trans (Int.le_of_lt t3) (by decide)⟩, ⟨u2, u3⟩, v2, v3⟩)
    have d1 : decide ((g.length : Int) > 0) = true := decide_eq_true hp
    refine ⟨r, ?_, h1, h2, h3⟩
    refine Ev.step (f := fun k => scarfjointref05_Made.j3 k (g.length : Int) (j : Int) true xn xe g acc) (fun k => ?_) (Ev.step (fun k => ?_) hr)
    ·simp only [scarfjointref05_Made.l1]
     rw [if_pos hlt, if_pos h10, d1]
    ·simp only [scarfjointref05_Made.j3]
     rw [if_pos trivial, if_pos c0, if_pos hlt, if_neg c1, if_pos c2, e1, e2, t1, ew]
   ·refine ⟨acc, Ev.step (fun k => by simp only [scarfjointref05_Made.l1]; rw [if_pos hlt, if_pos h10, decide_eq_false hp]) (Ev.step (fun k => by simp only [scarfjointref05_Made.j3]; rw [if_neg (by decide)]) (Ev.now _)), by omega, by omega, hok⟩
  ·refine ⟨acc, Ev.step (fun k => by simp only [scarfjointref05_Made.l1]; rw [if_pos hlt, if_neg h10]) (Ev.step (fun k => by simp only [scarfjointref05_Made.j3]; rw [if_neg (by simp)]) (Ev.now _)), by omega, by omega, hok⟩
theorem made_l0 (xn : List Int) (xe : List S95) (hl : xn.length ≤ 1000000) (hm : xe.length ≤ 1000000) (hx : ∀ x ∈ xn, okB x) (hy : ∀ e ∈ xe, okB3 e) : ∀ (d j : Nat) (acc : List Int), j + d = xn.length → acc.length ≤ j → j ≤ 8 → (∀ t ∈ acc, kindB t = true) →
  ∃ g r, Ev (fun k => scarfjointref05_Made.l0 k (j : Int) xn xe acc) (g, r) ∧ validE g r = 0 ∧ g.length ≤ 8 ∧ g.length ≤ xn.length ∧ r.length ≤ 10 ∧ r.length ≤ xe.length := by
 have fin : ∀ (j : Nat) (acc : List Int), acc.length ≤ j → j ≤ 8 → acc.length ≤ xn.length → (∀ t ∈ acc, kindB t = true) → ∃ g r, Ev (fun k => scarfjointref05_Made.j1 k (j : Int) false xn xe acc) (g, r) ∧ validE g r = 0 ∧ g.length ≤ 8 ∧ g.length ≤ xn.length ∧ r.length ≤ 10 ∧ r.length ≤ xe.length := by
  intro j acc ha hj hn hok
  obtain ⟨r, hr0, h1, h2, h3⟩ := made_l1 xn xe acc (by omega) hm hy xe.length 0 [] (by omega) (by simp) (by omega) (by simp)
  have hr : Ev (fun k => scarfjointref05_Made.l1 k (acc.length : Int) 0 xn xe acc []) (acc, r) := hr0
  exact ⟨acc, r, Ev.step (fun k => by simp only [scarfjointref05_Made.j1]; rw [if_neg (by simp)]) hr, validE_iff.mpr ⟨by omega, by omega, hok, h3⟩, by omega, hn, h1, h2⟩
 intro d
 induction d with
 | zero =>
  intro j acc hj ha hj2 hok
  obtain ⟨g, r, hr, h⟩ := fin j acc ha hj2 (by omega) hok
  exact ⟨g, r, Ev.step (fun k => by simp only [scarfjointref05_Made.l0]; rw [if_neg (by omega)]) hr, h⟩
 | succ d ih =>
  intro j acc hj ha hj2 hok
  have hlt : (j : Int) < (xn.length : Int) := by omega
  by_cases h8 : (j : Int) < 8
  ·have hxj := hx _ (rd_mem xn (j : Int) (by omega) hlt)
   unfold okB at hxj
   have ew : wrap64 ((j : Int) + 1) = ((j + 1 : Nat) : Int) := by unfold wrap64; omega
   have c0 : (0 : Int) ≤ (j : Int) := by omega
   have c2 : acc.length < 17592186044416 := by omega
   have c3 : j + 1 + d = xn.length := by omega
   have c4 : acc.length + 1 ≤ j + 1 := by omega
   have c5 : j + 1 ≤ 8 := by omega
   obtain ⟨t1, t2, t3⟩ := wrap_tmod (n := 3) hxj.1 (by decide) (by decide)
   obtain ⟨g, r, hr, h⟩ := ih (j + 1) (acc ++ [(rd xn (j : Int)).tmod 3]) c3 (by rw [List.length_append]; exact c4) c5 (fun t ht => by
    rcases List.mem_append.mp ht with ht | ht
    ·exact hok t ht
    ·rw [List.mem_singleton.mp ht]
     unfold kindB
     simp only [Bool.and_eq_true, decide_eq_true_eq]
     exact ⟨t2, Int.le_trans (Int.le_of_lt t3) (by decide)⟩)
   exact ⟨g, r, Ev.step (fun k => by simp only [scarfjointref05_Made.l0]; rw [if_pos hlt]) (Ev.step (fun k => by simp only [scarfjointref05_Made.j1]; rw [if_pos (decide_eq_true h8), if_pos c0, if_pos hlt, if_pos c2, t1, ew]) hr), h⟩
  ·obtain ⟨g, r, hr, h⟩ := fin j acc ha hj2 (by omega) hok
   refine ⟨g, r, Ev.step (fun k => by simp only [scarfjointref05_Made.l0]; rw [if_pos hlt, decide_eq_false h8]) hr, h⟩
theorem made_ev (xn : List Int) (xe : List S95) (hl : xn.length ≤ 1000000) (hm : xe.length ≤ 1000000) (hx : ∀ x ∈ xn, okB x) (hy : ∀ e ∈ xe, okB3 e) :
  ∃ g r, Ev (fun k => scarfjointref05_Made.f k xn xe) (g, r) ∧ validE g r = 0 ∧ g.length ≤ 8 ∧ g.length ≤ xn.length ∧ r.length ≤ 10 ∧ r.length ≤ xe.length := by
 unfold scarfjointref05_Made.f
 exact made_l0 xn xe hl hm hx hy xn.length 0 [] (by omega) (by simp) (by omega) (by simp)
end Go.Proofs.Ytillofiphkmjjaa.Pl

/- scarfjointref11.Made (19), walked by hand: what it returns is a valid cospan. -/
namespace Go.Proofs.Ytillofiphkmjjaa.X
open Go.RowKit Go.Proofs.YtillofiphkmjjaaW.PrintWords Go.Proofs.YtillofiphkmjjaaW.PrintLast Go.Proofs.YtillofiphkmjjaaW.PrintMore Go.Proofs.Ytillofiphkmjjaa.Pl
set_option linter.unusedVariables false
set_option linter.unusedSimpArgs false
theorem rowsD {g : List Int} {r : List S94} {Y0 Y1 : Option Addr} {y0 y1 : Nat} {W : World} {Q : World → Prop} (h : Two (VrW (Kd.int .i64) (.slice Y0 g.length y0) g) (Two (VrW k94 (.slice Y1 r.length y1) r) Q) W) : Row (Kd.int .i64) W Y0 y0 g ∧ Row k94 W Y1 y1 r := by
 obtain ⟨⟨A, c, e, h0⟩⟩ := h.l.r
 obtain ⟨⟨B, d, f, h1⟩⟩ := h.r.l.r
 cases e
 cases f
 exact ⟨h0, h1⟩
set_option maxHeartbeats 4000000 in
set_option maxRecDepth 100000 in
theorem Made_calls (A0 : Option Addr) (c0 : Nat) (xn0 : List Int) (A1 : Option Addr) (c1 : Nat) (xe0 : List S95) (A2 : Option Addr) (c2 : Nat) (xn1 : List Int) (A3 : Option Addr) (c3 : Nat) (xe1 : List S95) (A4 : Option Addr) (c4 : Nat) (xn2 : List Int) (A5 : Option Addr) (c5 : Nat) (xe2 : List S95) (w : World)
  (R0 : Row (Kd.int .u8) w A0 c0 xn0) (R1 : Row k95 w A1 c1 xe0) (R2 : Row (Kd.int .u8) w A2 c2 xn1) (R3 : Row k95 w A3 c3 xe1) (R4 : Row (Kd.int .u8) w A4 c4 xn2) (R5 : Row k95 w A5 c5 xe2)
  (h0 : ∀ x ∈ xn0, okB x) (l0 : xn0.length ≤ 1000000) (h1 : ∀ x ∈ xe0, okB3 x) (l1 : xe0.length ≤ 1000000) (h2 : ∀ x ∈ xn1, okB x) (l2 : xn1.length ≤ 1000000) (h3 : ∀ x ∈ xe1, okB3 x) (l3 : xe1.length ≤ 1000000) (h4 : ∀ x ∈ xn2, okB x) (l4 : xn2.length ≤ 1000000) (h5 : ∀ x ∈ xe2, okB3 x) (l5 : xe2.length ≤ 1000000) :
  Calls Try.prog 19 #[.agg #[.slice A0 xn0.length c0, .slice A1 xe0.length c1, .slice A2 xn1.length c2, .slice A3 xe1.length c3, .slice A4 xn2.length c4, .slice A5 xe2.length c5]] w fun e w' => ∃ (s0 : List Int) (s1 : List S94) (s2 : List Int) (s3 : List S94) (s4 : List Int) (s5 : List S94) (s6 : List Int) (s7 : List Int) (s8 : List Int) (s9 : List Int) (v0 v1 v2 v3 v4 v5 v6 v7 v8 v9 : Value), e = .returned (.agg #[v0, v1, v2, v3, v4, v5, v6, v7, v8, v9]) ∧ Vr (Kd.int .i64) w' v0 s0 ∧ Vr k94 w' v1 s1 ∧ Vr (Kd.int .i64) w' v2 s2 ∧ Vr k94 w' v3 s3 ∧ Vr (Kd.int .i64) w' v4 s4 ∧ Vr k94 w' v5 s5 ∧ Vr (Kd.int .i64) w' v6 s6 ∧ Vr (Kd.int .i64) w' v7 s7 ∧ Vr (Kd.int .i64) w' v8 s8 ∧ Vr (Kd.int .i64) w' v9 s9 ∧ Below w.heap.size w w' ∧ mvalid s0 s1 s4 s5 s6 s7 = 0 ∧ mvalid s2 s3 s4 s5 s8 s9 = 0 ∧ s0.length ≤ xn1.length ∧ s1.length ≤ xe1.length ∧ s2.length ≤ xn2.length ∧ s3.length ≤ xe2.length := by
 have hu25 := Try.underlying25
 have hu27 := Try.underlying27
 have hu29 := Try.underlying29
 have hu43 := Try.underlying43
 have hu44 := Try.underlying44
 have hu46 := Try.underlying46
 have H0 := Aside0.mk (And.intro h0 (And.intro h1 (And.intro h2 (And.intro h3 (And.intro h4 h5)))))
 have L0 := Aside0.mk (And.intro l0 (And.intro l1 (And.intro l2 (And.intro l3 (And.intro l4 l5)))))
 clear h0 h1 h2 h3 h4 h5 l0 l1 l2 l3 l4 l5
 go_enter Try.func19, Try.ntmps19
 go_upto_region 1 with fail
 obtain ⟨w1, hv, BX, B2, hb⟩ := nw2 w 46 #[.slice A0 xn0.length c0, .slice A1 xe0.length c1, .slice A2 xn1.length c2, .slice A3 xe1.length c3, .slice A4 xn2.length c4, .slice A5 xe2.length c5] 29 #[.slice none 0 0, .slice none 0 0, .slice none 0 0, .slice none 0 0, .slice none 0 0, .slice none 0 0, .slice none 0 0, .slice none 0 0, .slice none 0 0, .slice none 0 0]
 rw [← hv]
 have S0 : Since w w1 := ⟨hb⟩
 have SB := Since.refl w1
 have n2 : w.heap.size ≤ w.heap.size + 1 := Nat.le_succ _
 clear hv hb
 generalize w.heap.size + 1 = g2 at *
 obtain ⟨_, _, _, _, _, _⟩ := BX.q6
 go_wp2_with fail
 obtain ⟨g, r, ⟨K0, hK0⟩, vd, z1, z2, z3, z4⟩ := made_ev xn0 xe0 L0.out.1 L0.out.2.1 H0.out.1 H0.out.2.1
 replace vd := Aside0.mk vd
 refine (scarfjointref05_Made.calls K0 _ _ xn0 _ _ xe0 g r _ (R0.below S0.get).at_ R0.cap (R1.below S0.get).at_ R1.cap (hK0 _ (Nat.le_refl _))).mono ?_
 rintro e w2 ⟨y0, y1, rfl, q0, q1, hb⟩
 clear hK0 z1 z2 z3 z4
 obtain ⟨Y0, y0, rfl, Q0⟩ := (Vr.of_R q0).get
 obtain ⟨Y1, y1, rfl, Q1⟩ := (Vr.of_R q1).get
 have RS := cV ⟨_, _, rfl, Q0⟩ (cV ⟨_, _, rfl, Q1⟩ ⟨trivial⟩ : Two _ TrueW w2)
 clear q0 q1 Q0 Q1
 replace SB := SB.step hb
 clear hb
 go_upto_region 2 with fail
 have hle : w1.heap.size ≤ w2.heap.size := SB.get.size
 obtain ⟨w3, hv, BS, hb⟩ := nw1 w2 29 #[.slice none 0 0, .slice none 0 0, .slice none 0 0, .slice none 0 0, .slice Y0 g.length y0, .slice Y1 r.length y1, .slice none 0 0, .slice none 0 0, .slice none 0 0, .slice none 0 0]
 rw [← hv]
 clear hv
 replace RS := mo hb RS
 replace SB := SB.step hb
 clear hb
 generalize w2.heap.size = g3 at *
 obtain ⟨_, _, _, _, _, _⟩ := (BX.below SB.get).q6
 obtain ⟨_, _, _, _, _, _, _, _, _, _⟩ := BS.q10
 go_wp2_with fail
 obtain ⟨DN, DE⟩ := rowsD RS
 refine (Over_calls _ _ g _ _ r _ _ xn1 _ _ xe1 _ DN DE (R2.below (S0.step SB.get).get) (R3.below (S0.step SB.get).get) vd.out H0.out.2.2.1 H0.out.2.2.2.1).mono ?_
 rintro e w5 ⟨gn1, ge1, mn1, me1, v0, v1, v2, v3, rfl, r0, r1, r2, r3, hb, mv1, -, a1, -, b1⟩
 replace mv1 := Aside0.mk mv1
 replace a1 := Aside0.mk a1
 replace b1 := Aside0.mk b1
 clear DN DE
 obtain ⟨B1_0, B1_0_, rfl, -⟩ := r0.get
 obtain ⟨B1_1, B1_1_, rfl, -⟩ := r1.get
 obtain ⟨B1_2, B1_2_, rfl, -⟩ := r2.get
 obtain ⟨B1_3, B1_3_, rfl, -⟩ := r3.get
 replace RS := mo hb RS
 replace BS := BS.below hb
 replace SB := SB.step hb
 clear hb
 replace RS := cV r0 (cV r1 (cV r2 (cV r3 (RS))))
 clear r0 r1 r2 r3
 go_upto_region 3 with (first | ((with_reducible refine gate_store (t := 25) (p := 16) (v := .tmp 14) rfl ?_); refine wpl_store rfl rfl 25 (.tmp 16) (.tmp 14) rfl g3 0 29 [.slice none 0 0, .slice none 0 0, .slice none 0 0, .slice none 0 0, .slice Y0 g.length y0, .slice Y1 r.length y1, .slice none 0 0, .slice none 0 0, .slice none 0 0, .slice none 0 0] [.slice B1_0 gn1.length B1_0_, .slice B1_1 ge1.length B1_1_] rfl rfl (by kernel_rfl) ⟨⟨_, _, _, rfl⟩, ⟨_, _, _, rfl⟩, trivial⟩ BS ⟨⟨_, _, _, rfl⟩, ⟨_, _, _, rfl⟩, ⟨_, _, _, rfl⟩, ⟨_, _, _, rfl⟩, ⟨_, _, _, rfl⟩, ⟨_, _, _, rfl⟩, ⟨_, _, _, rfl⟩, ⟨_, _, _, rfl⟩, ⟨_, _, _, rfl⟩, ⟨_, _, _, rfl⟩, trivial⟩ (Nat.le_of_ble_eq_true rfl) RS SB hle ?_; clear RS SB BS; intro w5a RS BS SB; replace BS : Blk w5a g3 29 #[.slice B1_0 gn1.length B1_0_, .slice B1_1 ge1.length B1_1_, .slice none 0 0, .slice none 0 0, .slice Y0 g.length y0, .slice Y1 r.length y1, .slice none 0 0, .slice none 0 0, .slice none 0 0, .slice none 0 0] := BS; obtain ⟨_, _, _, _, _, _, _, _, _, _⟩ := BS.q10; skip) | ((with_reducible refine gate_store (t := 27) (p := 17) (v := .tmp 15) rfl ?_); refine wpl_store rfl rfl 27 (.tmp 17) (.tmp 15) rfl g3 6 29 [.slice B1_0 gn1.length B1_0_, .slice B1_1 ge1.length B1_1_, .slice none 0 0, .slice none 0 0, .slice Y0 g.length y0, .slice Y1 r.length y1, .slice none 0 0, .slice none 0 0, .slice none 0 0, .slice none 0 0] [.slice B1_2 mn1.length B1_2_, .slice B1_3 me1.length B1_3_] rfl rfl (by kernel_rfl) ⟨⟨_, _, _, rfl⟩, ⟨_, _, _, rfl⟩, trivial⟩ BS ⟨⟨_, _, _, rfl⟩, ⟨_, _, _, rfl⟩, ⟨_, _, _, rfl⟩, ⟨_, _, _, rfl⟩, ⟨_, _, _, rfl⟩, ⟨_, _, _, rfl⟩, ⟨_, _, _, rfl⟩, ⟨_, _, _, rfl⟩, ⟨_, _, _, rfl⟩, ⟨_, _, _, rfl⟩, trivial⟩ (Nat.le_of_ble_eq_true rfl) RS SB hle ?_; clear RS SB BS; intro w5b RS BS SB; replace BS : Blk w5b g3 29 #[.slice B1_0 gn1.length B1_0_, .slice B1_1 ge1.length B1_1_, .slice none 0 0, .slice none 0 0, .slice Y0 g.length y0, .slice Y1 r.length y1, .slice B1_2 mn1.length B1_2_, .slice B1_3 me1.length B1_3_, .slice none 0 0, .slice none 0 0] := BS; obtain ⟨_, _, _, _, _, _, _, _, _, _⟩ := BS.q10; skip))
 obtain ⟨_, _, _, _, _, _⟩ := (BX.below SB.get).q6
 obtain ⟨_, _, _, _, _, _, _, _, _, _⟩ := BS.q10
 go_wp2_with fail
 obtain ⟨DN, DE⟩ := rowsD RS.r.r.r.r
 refine (Over_calls _ _ g _ _ r _ _ xn2 _ _ xe2 _ DN DE (R4.below (S0.step SB.get).get) (R5.below (S0.step SB.get).get) vd.out H0.out.2.2.2.2.1 H0.out.2.2.2.2.2).mono ?_
 rintro e w6 ⟨gn2, ge2, mn2, me2, v0, v1, v2, v3, rfl, r0, r1, r2, r3, hb, mv2, -, a2, -, b2⟩
 replace mv2 := Aside0.mk mv2
 replace a2 := Aside0.mk a2
 replace b2 := Aside0.mk b2
 clear DN DE
 obtain ⟨B2_0, B2_0_, rfl, -⟩ := r0.get
 obtain ⟨B2_1, B2_1_, rfl, -⟩ := r1.get
 obtain ⟨B2_2, B2_2_, rfl, -⟩ := r2.get
 obtain ⟨B2_3, B2_3_, rfl, -⟩ := r3.get
 replace RS := mo hb RS
 replace BS := BS.below hb
 replace SB := SB.step hb
 clear hb
 replace RS := cV r0 (cV r1 (cV r2 (cV r3 (RS))))
 clear r0 r1 r2 r3
 go_upto_region 4 with (first | ((with_reducible refine gate_store (t := 25) (p := 26) (v := .tmp 24) rfl ?_); refine wpl_store rfl rfl 25 (.tmp 26) (.tmp 24) rfl g3 2 29 [.slice B1_0 gn1.length B1_0_, .slice B1_1 ge1.length B1_1_, .slice none 0 0, .slice none 0 0, .slice Y0 g.length y0, .slice Y1 r.length y1, .slice B1_2 mn1.length B1_2_, .slice B1_3 me1.length B1_3_, .slice none 0 0, .slice none 0 0] [.slice B2_0 gn2.length B2_0_, .slice B2_1 ge2.length B2_1_] rfl rfl (by kernel_rfl) ⟨⟨_, _, _, rfl⟩, ⟨_, _, _, rfl⟩, trivial⟩ BS ⟨⟨_, _, _, rfl⟩, ⟨_, _, _, rfl⟩, ⟨_, _, _, rfl⟩, ⟨_, _, _, rfl⟩, ⟨_, _, _, rfl⟩, ⟨_, _, _, rfl⟩, ⟨_, _, _, rfl⟩, ⟨_, _, _, rfl⟩, ⟨_, _, _, rfl⟩, ⟨_, _, _, rfl⟩, trivial⟩ (Nat.le_of_ble_eq_true rfl) RS SB hle ?_; clear RS SB BS; intro w6a RS BS SB; replace BS : Blk w6a g3 29 #[.slice B1_0 gn1.length B1_0_, .slice B1_1 ge1.length B1_1_, .slice B2_0 gn2.length B2_0_, .slice B2_1 ge2.length B2_1_, .slice Y0 g.length y0, .slice Y1 r.length y1, .slice B1_2 mn1.length B1_2_, .slice B1_3 me1.length B1_3_, .slice none 0 0, .slice none 0 0] := BS; obtain ⟨_, _, _, _, _, _, _, _, _, _⟩ := BS.q10; skip) | ((with_reducible refine gate_store (t := 27) (p := 27) (v := .tmp 25) rfl ?_); refine wpl_store rfl rfl 27 (.tmp 27) (.tmp 25) rfl g3 8 29 [.slice B1_0 gn1.length B1_0_, .slice B1_1 ge1.length B1_1_, .slice B2_0 gn2.length B2_0_, .slice B2_1 ge2.length B2_1_, .slice Y0 g.length y0, .slice Y1 r.length y1, .slice B1_2 mn1.length B1_2_, .slice B1_3 me1.length B1_3_, .slice none 0 0, .slice none 0 0] [.slice B2_2 mn2.length B2_2_, .slice B2_3 me2.length B2_3_] rfl rfl (by kernel_rfl) ⟨⟨_, _, _, rfl⟩, ⟨_, _, _, rfl⟩, trivial⟩ BS ⟨⟨_, _, _, rfl⟩, ⟨_, _, _, rfl⟩, ⟨_, _, _, rfl⟩, ⟨_, _, _, rfl⟩, ⟨_, _, _, rfl⟩, ⟨_, _, _, rfl⟩, ⟨_, _, _, rfl⟩, ⟨_, _, _, rfl⟩, ⟨_, _, _, rfl⟩, ⟨_, _, _, rfl⟩, trivial⟩ (Nat.le_of_ble_eq_true rfl) RS SB hle ?_; clear RS SB BS; intro w6b RS BS SB; replace BS : Blk w6b g3 29 #[.slice B1_0 gn1.length B1_0_, .slice B1_1 ge1.length B1_1_, .slice B2_0 gn2.length B2_0_, .slice B2_1 ge2.length B2_1_, .slice Y0 g.length y0, .slice Y1 r.length y1, .slice B1_2 mn1.length B1_2_, .slice B1_3 me1.length B1_3_, .slice B2_2 mn2.length B2_2_, .slice B2_3 me2.length B2_3_] := BS; obtain ⟨_, _, _, _, _, _, _, _, _, _⟩ := BS.q10; skip))
 replace B2 := B2.below SB.get
 replace SB := S0.step SB.get
 obtain ⟨_, _, _, _, _, _, _, _, _, _⟩ := BS.q10
 go_wp2_with (first | ((with_reducible refine gate_store (t := 29) (p := 2) (v := .tmp 28) rfl ?_); refine wpl_store rfl rfl 29 (.tmp 2) (.tmp 28) rfl g2 0 29 [.slice none 0 0, .slice none 0 0, .slice none 0 0, .slice none 0 0, .slice none 0 0, .slice none 0 0, .slice none 0 0, .slice none 0 0, .slice none 0 0, .slice none 0 0] [.slice B1_0 gn1.length B1_0_, .slice B1_1 ge1.length B1_1_, .slice B2_0 gn2.length B2_0_, .slice B2_1 ge2.length B2_1_, .slice Y0 g.length y0, .slice Y1 r.length y1, .slice B1_2 mn1.length B1_2_, .slice B1_3 me1.length B1_3_, .slice B2_2 mn2.length B2_2_, .slice B2_3 me2.length B2_3_] rfl rfl (by kernel_rfl) ⟨⟨_, _, _, rfl⟩, ⟨_, _, _, rfl⟩, ⟨_, _, _, rfl⟩, ⟨_, _, _, rfl⟩, ⟨_, _, _, rfl⟩, ⟨_, _, _, rfl⟩, ⟨_, _, _, rfl⟩, ⟨_, _, _, rfl⟩, ⟨_, _, _, rfl⟩, ⟨_, _, _, rfl⟩, trivial⟩ B2 ⟨⟨_, _, _, rfl⟩, ⟨_, _, _, rfl⟩, ⟨_, _, _, rfl⟩, ⟨_, _, _, rfl⟩, ⟨_, _, _, rfl⟩, ⟨_, _, _, rfl⟩, ⟨_, _, _, rfl⟩, ⟨_, _, _, rfl⟩, ⟨_, _, _, rfl⟩, ⟨_, _, _, rfl⟩, trivial⟩ (Nat.le_of_ble_eq_true rfl) RS SB n2 ?_; clear RS SB B2; intro wz RS B2 SB; replace B2 : Blk wz g2 29 #[.slice B1_0 gn1.length B1_0_, .slice B1_1 ge1.length B1_1_, .slice B2_0 gn2.length B2_0_, .slice B2_1 ge2.length B2_1_, .slice Y0 g.length y0, .slice Y1 r.length y1, .slice B1_2 mn1.length B1_2_, .slice B1_3 me1.length B1_3_, .slice B2_2 mn2.length B2_2_, .slice B2_3 me2.length B2_3_] := B2; skip))
 rcases RS with ⟨⟨c0⟩, ⟨⟨c1⟩, ⟨⟨c2⟩, ⟨⟨c3⟩, ⟨⟨d0⟩, ⟨⟨d1⟩, ⟨⟨d2⟩, ⟨⟨d3⟩, ⟨⟨e0⟩, ⟨⟨e1⟩, -⟩⟩⟩⟩⟩⟩⟩⟩⟩⟩
 refine bodyPost_ret (results_single rfl (.cell g2 29 _ (0, 0) _ rfl B2.get Try.underlying29 rfl (by kernel_rfl) .nil)) rfl ?_
 exact ⟨_, _, _, _, _, _, _, _, _, _, _, _, _, _, _, _, _, _, _, _, rfl, d0, d1, c0, c1, e0, e1, d2, d3, c2, c3, SB.get, mv1.out, mv2.out, a1.out, b1.out, a2.out, b2.out⟩
end Go.Proofs.Ytillofiphkmjjaa.X

namespace Go.Proofs.Ytillofiphkmjjaa.X
open Go.RowKit Go.Proofs.YtillofiphkmjjaaW.PrintWords Go.Proofs.YtillofiphkmjjaaW.PrintLast Go.Proofs.YtillofiphkmjjaaW.PrintMore
open Go.Proofs.YtillofiphkmjjaaW.PrintWords renaming blk_drewN → bN, blk_drew → bD, blk_alloc → bA, below_alloc → wA, pw_below_drewN → wN, below_drew1 → wD, blk_below → bB, below_step → wS, blk_at → bT, blk_grown → bG
open Go.Proofs.YtillofiphkmjjaaW.PrintWords.Kd renaming R_alloc → rA, R_drewN → rN, R_drew → rD, R_below → rB, R_grown → rG, C_below → cB, C_alloc → cA, C_drewN → cN, C_drew → cD
attribute [local go_sem] max2_int min2_int max_two min_two max_three min_three max_four min_four
set_option linter.unusedVariables false
set_option linter.unusedSimpArgs false
/-! ### scarfjointlaw11_few: function 18 -/
def scarfjointlaw11_few.f (l0_0 : List Int) (l0_1 : List (S95)) (l0_2 : List Int) (l0_3 : List (S95)) (l0_4 : List Int) (l0_5 : List (S95)) : Option (Bool) := if (l0_0.length : Int) ≤ 4 then (if (l0_1.length : Int) ≤ 4 then (if (l0_2.length : Int) ≤ 4 then (if (l0_3.length : Int) ≤ 4 then (if (l0_4.length : Int) ≤ 4 then (some (decide ((l0_5.length : Int) ≤ 4))) else (some false)) else (some false)) else (some false)) else (some false)) else (some false)
set_option maxHeartbeats 8000000 in
set_option maxRecDepth 100000 in
theorem scarfjointlaw11_few.calls (A0_0 : Option Addr) (c0_0 : Nat) (l0_0 : List Int) (A0_1 : Option Addr) (c0_1 : Nat) (l0_1 : List (S95)) (A0_2 : Option Addr) (c0_2 : Nat) (l0_2 : List Int) (A0_3 : Option Addr) (c0_3 : Nat) (l0_3 : List (S95)) (A0_4 : Option Addr) (c0_4 : Nat) (l0_4 : List Int) (A0_5 : Option Addr) (c0_5 : Nat) (l0_5 : List (S95)) (r : Bool) (w : World) (hr0_0 : Kd.C (Kd.int .u8) w A0_0 l0_0.length l0_0) (hc0_0 : l0_0.length ≤ c0_0) (hr0_1 : Kd.C k95 w A0_1 l0_1.length l0_1) (hc0_1 : l0_1.length ≤ c0_1) (hr0_2 : Kd.C (Kd.int .u8) w A0_2 l0_2.length l0_2) (hc0_2 : l0_2.length ≤ c0_2) (hr0_3 : Kd.C k95 w A0_3 l0_3.length l0_3) (hc0_3 : l0_3.length ≤ c0_3) (hr0_4 : Kd.C (Kd.int .u8) w A0_4 l0_4.length l0_4) (hc0_4 : l0_4.length ≤ c0_4) (hr0_5 : Kd.C k95 w A0_5 l0_5.length l0_5) (hc0_5 : l0_5.length ≤ c0_5) (h : scarfjointlaw11_few.f l0_0 l0_1 l0_2 l0_3 l0_4 l0_5 = some r) :
  Calls Try.prog 18 #[.agg #[.slice A0_0 l0_0.length c0_0, .slice A0_1 l0_1.length c0_1, .slice A0_2 l0_2.length c0_2, .slice A0_3 l0_3.length c0_3, .slice A0_4 l0_4.length c0_4, .slice A0_5 l0_5.length c0_5]] w fun e w' => e = .returned (.bool r) ∧ Below w.heap.size w w' := by
 have hu46 := Try.underlying46
 have HR0_0 := Aside0.mk hr0_0
 have HC0_0 := Aside0.mk hc0_0
 clear hr0_0 hc0_0
 have HR0_1 := Aside0.mk hr0_1
 have HC0_1 := Aside0.mk hc0_1
 clear hr0_1 hc0_1
 have HR0_2 := Aside0.mk hr0_2
 have HC0_2 := Aside0.mk hc0_2
 clear hr0_2 hc0_2
 have HR0_3 := Aside0.mk hr0_3
 have HC0_3 := Aside0.mk hc0_3
 clear hr0_3 hc0_3
 have HR0_4 := Aside0.mk hr0_4
 have HC0_4 := Aside0.mk hc0_4
 clear hr0_4 hc0_4
 have HR0_5 := Aside0.mk hr0_5
 have HC0_5 := Aside0.mk hc0_5
 clear hr0_5 hc0_5
 have HB := Aside0.mk (Below.refl w.heap.size w)
 have H : (if (l0_0.length : Int) ≤ 4 then (if (l0_1.length : Int) ≤ 4 then (if (l0_2.length : Int) ≤ 4 then (if (l0_3.length : Int) ≤ 4 then (if (l0_4.length : Int) ≤ 4 then (some (decide ((l0_5.length : Int) ≤ 4))) else (some false)) else (some false)) else (some false)) else (some false)) else (some false)) = some r := h
 clear h
 by_cases c2 : (l0_0.length : Int) ≤ 4
 ·rw [if_pos c2] at H
  have c2b0 : decide ((l0_0.length : Int) ≤ 4) = true := decide_eq_true c2
  have c2b1 : decide (l0_0.length ≤ 4) = true := decide_eq_true (by omega)
  clear c2
  by_cases c3 : (l0_1.length : Int) ≤ 4
  ·rw [if_pos c3] at H
   have c3b0 : decide ((l0_1.length : Int) ≤ 4) = true := decide_eq_true c3
   have c3b1 : decide (l0_1.length ≤ 4) = true := decide_eq_true (by omega)
   clear c3
   by_cases c4 : (l0_2.length : Int) ≤ 4
   ·rw [if_pos c4] at H
    have c4b0 : decide ((l0_2.length : Int) ≤ 4) = true := decide_eq_true c4
    have c4b1 : decide (l0_2.length ≤ 4) = true := decide_eq_true (by omega)
    clear c4
    by_cases c5 : (l0_3.length : Int) ≤ 4
    ·rw [if_pos c5] at H
     have c5b0 : decide ((l0_3.length : Int) ≤ 4) = true := decide_eq_true c5
     have c5b1 : decide (l0_3.length ≤ 4) = true := decide_eq_true (by omega)
     clear c5
     by_cases c6 : (l0_4.length : Int) ≤ 4
     ·rw [if_pos c6] at H
      have c6b0 : decide ((l0_4.length : Int) ≤ 4) = true := decide_eq_true c6
      have c6b1 : decide (l0_4.length ≤ 4) = true := decide_eq_true (by omega)
      clear c6
      obtain rfl := Option.some.inj H
      go_enter Try.func18, Try.ntmps18
      go_wp2_with (first | ((with_reducible refine gate_dst (N := 1) rfl ?_); (try (refine gate_guard (by rfl) ?_; dsimp only)); refine box_event ?hg (N := 1) ?hd (cs := #[.slice A0_0 l0_0.length c0_0, .slice A0_1 l0_1.length c0_1, .slice A0_2 l0_2.length c0_2, .slice A0_3 l0_3.length c0_3, .slice A0_4 l0_4.length c0_4, .slice A0_5 l0_5.length c0_5]) (t := 46) ?hr ?_; (case hd => rfl); (case hg => rfl); (case hr => first | (go_simp; done) | (go_simp; rfl)); intro Q01 hg w7 hbox hb; have Q00 := Aside0.mk (hbox); have Q03 := Aside0.mk ((by rw [hg]; exact (below_size hB) : w.heap.size ≤ Q01)); have Q02 := Aside0.mk ((by rw [hg]; exact (below_size hB) : w.heap.size ≤ Q01)); replace HB := uH HB hb; clear hb hbox hg; have Q04 : w7.cell? ⟨Q01, 0, none⟩ = some (.slice A0_0 l0_0.length c0_0) := bC Q00 0; have Q05 : w7.cell? ⟨Q01, 1, none⟩ = some (.slice A0_1 l0_1.length c0_1) := bC Q00 1; have Q06 : w7.cell? ⟨Q01, 2, none⟩ = some (.slice A0_2 l0_2.length c0_2) := bC Q00 2; have Q07 : w7.cell? ⟨Q01, 3, none⟩ = some (.slice A0_3 l0_3.length c0_3) := bC Q00 3; have Q08 : w7.cell? ⟨Q01, 4, none⟩ = some (.slice A0_4 l0_4.length c0_4) := bC Q00 4; have Q09 : w7.cell? ⟨Q01, 5, none⟩ = some (.slice A0_5 l0_5.length c0_5) := bC Q00 5; have Q0a := blk_frozen Q00.out 0; have Q0b := blk_frozen Q00.out 1; have Q0c := blk_frozen Q00.out 2; have Q0d := blk_frozen Q00.out 3; have Q0e := blk_frozen Q00.out 4; have Q0f := blk_frozen Q00.out 5))
      go_ret
      exact ⟨by first | rfl | (simp [errW_none, errW_some] <;> rfl) | (simp [*, errW_none, errW_some] <;> rfl), by repeat (first | (with_reducible first | exact HB.out | apply wA | apply wN | apply wD | refine below_set ?_ Q02.out) | exact HB.out)⟩
     ·rw [if_neg c6] at H
      have c6b0 : decide ((l0_4.length : Int) ≤ 4) = false := decide_eq_false c6
      have c6b1 : decide (l0_4.length ≤ 4) = false := decide_eq_false (by omega)
      clear c6
      obtain rfl := Option.some.inj H
      go_enter Try.func18, Try.ntmps18
      go_wp2_with (first | ((with_reducible refine gate_dst (N := 1) rfl ?_); (try (refine gate_guard (by rfl) ?_; dsimp only)); refine box_event ?hg (N := 1) ?hd (cs := #[.slice A0_0 l0_0.length c0_0, .slice A0_1 l0_1.length c0_1, .slice A0_2 l0_2.length c0_2, .slice A0_3 l0_3.length c0_3, .slice A0_4 l0_4.length c0_4, .slice A0_5 l0_5.length c0_5]) (t := 46) ?hr ?_; (case hd => rfl); (case hg => rfl); (case hr => first | (go_simp; done) | (go_simp; rfl)); intro Q01 hg w9 hbox hb; have Q00 := Aside0.mk (hbox); have Q03 := Aside0.mk ((by rw [hg]; exact (below_size hB) : w.heap.size ≤ Q01)); have Q02 := Aside0.mk ((by rw [hg]; exact (below_size hB) : w.heap.size ≤ Q01)); replace HB := uH HB hb; clear hb hbox hg; have Q0g : w9.cell? ⟨Q01, 0, none⟩ = some (.slice A0_0 l0_0.length c0_0) := bC Q00 0; have Q0h : w9.cell? ⟨Q01, 1, none⟩ = some (.slice A0_1 l0_1.length c0_1) := bC Q00 1; have Q0i : w9.cell? ⟨Q01, 2, none⟩ = some (.slice A0_2 l0_2.length c0_2) := bC Q00 2; have Q0j : w9.cell? ⟨Q01, 3, none⟩ = some (.slice A0_3 l0_3.length c0_3) := bC Q00 3; have Q0k : w9.cell? ⟨Q01, 4, none⟩ = some (.slice A0_4 l0_4.length c0_4) := bC Q00 4; have Q0l : w9.cell? ⟨Q01, 5, none⟩ = some (.slice A0_5 l0_5.length c0_5) := bC Q00 5; have Q0m := blk_frozen Q00.out 0; have Q0n := blk_frozen Q00.out 1; have Q0o := blk_frozen Q00.out 2; have Q0p := blk_frozen Q00.out 3; have Q0q := blk_frozen Q00.out 4; have Q0r := blk_frozen Q00.out 5))
      go_ret
      exact ⟨by first | rfl | (simp [errW_none, errW_some] <;> rfl) | (simp [*, errW_none, errW_some] <;> rfl), by repeat (first | (with_reducible first | exact HB.out | apply wA | apply wN | apply wD | refine below_set ?_ Q02.out) | exact HB.out)⟩
    ·rw [if_neg c5] at H
     have c5b0 : decide ((l0_3.length : Int) ≤ 4) = false := decide_eq_false c5
     have c5b1 : decide (l0_3.length ≤ 4) = false := decide_eq_false (by omega)
     clear c5
     obtain rfl := Option.some.inj H
     go_enter Try.func18, Try.ntmps18
     go_wp2_with (first | ((with_reducible refine gate_dst (N := 1) rfl ?_); (try (refine gate_guard (by rfl) ?_; dsimp only)); refine box_event ?hg (N := 1) ?hd (cs := #[.slice A0_0 l0_0.length c0_0, .slice A0_1 l0_1.length c0_1, .slice A0_2 l0_2.length c0_2, .slice A0_3 l0_3.length c0_3, .slice A0_4 l0_4.length c0_4, .slice A0_5 l0_5.length c0_5]) (t := 46) ?hr ?_; (case hd => rfl); (case hg => rfl); (case hr => first | (go_simp; done) | (go_simp; rfl)); intro Q01 hg w11 hbox hb; have Q00 := Aside0.mk (hbox); have Q03 := Aside0.mk ((by rw [hg]; exact (below_size hB) : w.heap.size ≤ Q01)); have Q02 := Aside0.mk ((by rw [hg]; exact (below_size hB) : w.heap.size ≤ Q01)); replace HB := uH HB hb; clear hb hbox hg; have Q0s : w11.cell? ⟨Q01, 0, none⟩ = some (.slice A0_0 l0_0.length c0_0) := bC Q00 0; have Q0t : w11.cell? ⟨Q01, 1, none⟩ = some (.slice A0_1 l0_1.length c0_1) := bC Q00 1; have Q0u : w11.cell? ⟨Q01, 2, none⟩ = some (.slice A0_2 l0_2.length c0_2) := bC Q00 2; have Q0v : w11.cell? ⟨Q01, 3, none⟩ = some (.slice A0_3 l0_3.length c0_3) := bC Q00 3; have Q0w : w11.cell? ⟨Q01, 4, none⟩ = some (.slice A0_4 l0_4.length c0_4) := bC Q00 4; have Q0x : w11.cell? ⟨Q01, 5, none⟩ = some (.slice A0_5 l0_5.length c0_5) := bC Q00 5; have Q0y := blk_frozen Q00.out 0; have Q0z := blk_frozen Q00.out 1; have Q10 := blk_frozen Q00.out 2; have Q11 := blk_frozen Q00.out 3; have Q12 := blk_frozen Q00.out 4; have Q13 := blk_frozen Q00.out 5))
     go_ret
     exact ⟨by first | rfl | (simp [errW_none, errW_some] <;> rfl) | (simp [*, errW_none, errW_some] <;> rfl), by repeat (first | (with_reducible first | exact HB.out | apply wA | apply wN | apply wD | refine below_set ?_ Q02.out) | exact HB.out)⟩
   ·rw [if_neg c4] at H
    have c4b0 : decide ((l0_2.length : Int) ≤ 4) = false := decide_eq_false c4
    have c4b1 : decide (l0_2.length ≤ 4) = false := decide_eq_false (by omega)
    clear c4
    obtain rfl := Option.some.inj H
    go_enter Try.func18, Try.ntmps18
    go_wp2_with (first | ((with_reducible refine gate_dst (N := 1) rfl ?_); (try (refine gate_guard (by rfl) ?_; dsimp only)); refine box_event ?hg (N := 1) ?hd (cs := #[.slice A0_0 l0_0.length c0_0, .slice A0_1 l0_1.length c0_1, .slice A0_2 l0_2.length c0_2, .slice A0_3 l0_3.length c0_3, .slice A0_4 l0_4.length c0_4, .slice A0_5 l0_5.length c0_5]) (t := 46) ?hr ?_; (case hd => rfl); (case hg => rfl); (case hr => first | (go_simp; done) | (go_simp; rfl)); intro Q01 hg w13 hbox hb; have Q00 := Aside0.mk (hbox); have Q03 := Aside0.mk ((by rw [hg]; exact (below_size hB) : w.heap.size ≤ Q01)); have Q02 := Aside0.mk ((by rw [hg]; exact (below_size hB) : w.heap.size ≤ Q01)); replace HB := uH HB hb; clear hb hbox hg; have Q14 : w13.cell? ⟨Q01, 0, none⟩ = some (.slice A0_0 l0_0.length c0_0) := bC Q00 0; have Q15 : w13.cell? ⟨Q01, 1, none⟩ = some (.slice A0_1 l0_1.length c0_1) := bC Q00 1; have Q16 : w13.cell? ⟨Q01, 2, none⟩ = some (.slice A0_2 l0_2.length c0_2) := bC Q00 2; have Q17 : w13.cell? ⟨Q01, 3, none⟩ = some (.slice A0_3 l0_3.length c0_3) := bC Q00 3; have Q18 : w13.cell? ⟨Q01, 4, none⟩ = some (.slice A0_4 l0_4.length c0_4) := bC Q00 4; have Q19 : w13.cell? ⟨Q01, 5, none⟩ = some (.slice A0_5 l0_5.length c0_5) := bC Q00 5; have Q1a := blk_frozen Q00.out 0; have Q1b := blk_frozen Q00.out 1; have Q1c := blk_frozen Q00.out 2; have Q1d := blk_frozen Q00.out 3; have Q1e := blk_frozen Q00.out 4; have Q1f := blk_frozen Q00.out 5))
    go_ret
    exact ⟨by first | rfl | (simp [errW_none, errW_some] <;> rfl) | (simp [*, errW_none, errW_some] <;> rfl), by repeat (first | (with_reducible first | exact HB.out | apply wA | apply wN | apply wD | refine below_set ?_ Q02.out) | exact HB.out)⟩
  ·rw [if_neg c3] at H
   have c3b0 : decide ((l0_1.length : Int) ≤ 4) = false := decide_eq_false c3
   have c3b1 : decide (l0_1.length ≤ 4) = false := decide_eq_false (by omega)
   clear c3
   obtain rfl := Option.some.inj H
   go_enter Try.func18, Try.ntmps18
   go_wp2_with (first | ((with_reducible refine gate_dst (N := 1) rfl ?_); (try (refine gate_guard (by rfl) ?_; dsimp only)); refine box_event ?hg (N := 1) ?hd (cs := #[.slice A0_0 l0_0.length c0_0, .slice A0_1 l0_1.length c0_1, .slice A0_2 l0_2.length c0_2, .slice A0_3 l0_3.length c0_3, .slice A0_4 l0_4.length c0_4, .slice A0_5 l0_5.length c0_5]) (t := 46) ?hr ?_; (case hd => rfl); (case hg => rfl); (case hr => first | (go_simp; done) | (go_simp; rfl)); intro Q01 hg w15 hbox hb; have Q00 := Aside0.mk (hbox); have Q03 := Aside0.mk ((by rw [hg]; exact (below_size hB) : w.heap.size ≤ Q01)); have Q02 := Aside0.mk ((by rw [hg]; exact (below_size hB) : w.heap.size ≤ Q01)); replace HB := uH HB hb; clear hb hbox hg; have Q1g : w15.cell? ⟨Q01, 0, none⟩ = some (.slice A0_0 l0_0.length c0_0) := bC Q00 0; have Q1h : w15.cell? ⟨Q01, 1, none⟩ = some (.slice A0_1 l0_1.length c0_1) := bC Q00 1; have Q1i : w15.cell? ⟨Q01, 2, none⟩ = some (.slice A0_2 l0_2.length c0_2) := bC Q00 2; have Q1j : w15.cell? ⟨Q01, 3, none⟩ = some (.slice A0_3 l0_3.length c0_3) := bC Q00 3; have Q1k : w15.cell? ⟨Q01, 4, none⟩ = some (.slice A0_4 l0_4.length c0_4) := bC Q00 4; have Q1l : w15.cell? ⟨Q01, 5, none⟩ = some (.slice A0_5 l0_5.length c0_5) := bC Q00 5; have Q1m := blk_frozen Q00.out 0; have Q1n := blk_frozen Q00.out 1; have Q1o := blk_frozen Q00.out 2; have Q1p := blk_frozen Q00.out 3; have Q1q := blk_frozen Q00.out 4; have Q1r := blk_frozen Q00.out 5))
   go_ret
   exact ⟨by first | rfl | (simp [errW_none, errW_some] <;> rfl) | (simp [*, errW_none, errW_some] <;> rfl), by repeat (first | (with_reducible first | exact HB.out | apply wA | apply wN | apply wD | refine below_set ?_ Q02.out) | exact HB.out)⟩
 ·rw [if_neg c2] at H
  have c2b0 : decide ((l0_0.length : Int) ≤ 4) = false := decide_eq_false c2
  have c2b1 : decide (l0_0.length ≤ 4) = false := decide_eq_false (by omega)
  clear c2
  obtain rfl := Option.some.inj H
  go_enter Try.func18, Try.ntmps18
  go_wp2_with (first | ((with_reducible refine gate_dst (N := 1) rfl ?_); (try (refine gate_guard (by rfl) ?_; dsimp only)); refine box_event ?hg (N := 1) ?hd (cs := #[.slice A0_0 l0_0.length c0_0, .slice A0_1 l0_1.length c0_1, .slice A0_2 l0_2.length c0_2, .slice A0_3 l0_3.length c0_3, .slice A0_4 l0_4.length c0_4, .slice A0_5 l0_5.length c0_5]) (t := 46) ?hr ?_; (case hd => rfl); (case hg => rfl); (case hr => first | (go_simp; done) | (go_simp; rfl)); intro Q01 hg w17 hbox hb; have Q00 := Aside0.mk (hbox); have Q03 := Aside0.mk ((by rw [hg]; exact (below_size hB) : w.heap.size ≤ Q01)); have Q02 := Aside0.mk ((by rw [hg]; exact (below_size hB) : w.heap.size ≤ Q01)); replace HB := uH HB hb; clear hb hbox hg; have Q1s : w17.cell? ⟨Q01, 0, none⟩ = some (.slice A0_0 l0_0.length c0_0) := bC Q00 0; have Q1t : w17.cell? ⟨Q01, 1, none⟩ = some (.slice A0_1 l0_1.length c0_1) := bC Q00 1; have Q1u : w17.cell? ⟨Q01, 2, none⟩ = some (.slice A0_2 l0_2.length c0_2) := bC Q00 2; have Q1v : w17.cell? ⟨Q01, 3, none⟩ = some (.slice A0_3 l0_3.length c0_3) := bC Q00 3; have Q1w : w17.cell? ⟨Q01, 4, none⟩ = some (.slice A0_4 l0_4.length c0_4) := bC Q00 4; have Q1x : w17.cell? ⟨Q01, 5, none⟩ = some (.slice A0_5 l0_5.length c0_5) := bC Q00 5; have Q1y := blk_frozen Q00.out 0; have Q1z := blk_frozen Q00.out 1; have Q20 := blk_frozen Q00.out 2; have Q21 := blk_frozen Q00.out 3; have Q22 := blk_frozen Q00.out 4; have Q23 := blk_frozen Q00.out 5))
  go_ret
  exact ⟨by first | rfl | (simp [errW_none, errW_some] <;> rfl) | (simp [*, errW_none, errW_some] <;> rfl), by repeat (first | (with_reducible first | exact HB.out | apply wA | apply wN | apply wD | refine below_set ?_ Q02.out) | exact HB.out)⟩
end Go.Proofs.Ytillofiphkmjjaa.X

/- few, by what it answers. -/
namespace Go.Proofs.Ytillofiphkmjjaa.X
open Go.RowKit Go.Proofs.YtillofiphkmjjaaW.PrintWords Go.Proofs.YtillofiphkmjjaaW.PrintLast Go.Proofs.YtillofiphkmjjaaW.PrintMore Go.Proofs.Ytillofiphkmjjaa.Pl
set_option linter.unusedVariables false
set_option linter.unusedSimpArgs false
theorem few_calls (A0 : Option Addr) (c0 : Nat) (xn0 : List Int) (A1 : Option Addr) (c1 : Nat) (xe0 : List S95) (A2 : Option Addr) (c2 : Nat) (xn1 : List Int) (A3 : Option Addr) (c3 : Nat) (xe1 : List S95) (A4 : Option Addr) (c4 : Nat) (xn2 : List Int) (A5 : Option Addr) (c5 : Nat) (xe2 : List S95) (w : World)
  (R0 : Row (Kd.int .u8) w A0 c0 xn0) (R1 : Row k95 w A1 c1 xe0) (R2 : Row (Kd.int .u8) w A2 c2 xn1) (R3 : Row k95 w A3 c3 xe1) (R4 : Row (Kd.int .u8) w A4 c4 xn2) (R5 : Row k95 w A5 c5 xe2) :
  Calls Try.prog 18 #[.agg #[.slice A0 xn0.length c0, .slice A1 xe0.length c1, .slice A2 xn1.length c2, .slice A3 xe1.length c3, .slice A4 xn2.length c4, .slice A5 xe2.length c5]] w fun e w' => ∃ b : Bool, e = .returned (.bool b) ∧ (b = true → xn0.length ≤ 4 ∧ xe0.length ≤ 4 ∧ xn1.length ≤ 4 ∧ xe1.length ≤ 4 ∧ xn2.length ≤ 4 ∧ xe2.length ≤ 4) ∧ Below w.heap.size w w' := by
 obtain ⟨b, hb⟩ : ∃ b : Bool, b = decide (xn0.length ≤ 4 ∧ xe0.length ≤ 4 ∧ xn1.length ≤ 4 ∧ xe1.length ≤ 4 ∧ xn2.length ≤ 4 ∧ xe2.length ≤ 4) := ⟨_, rfl⟩
 have h : scarfjointlaw11_few.f xn0 xe0 xn1 xe1 xn2 xe2 = some b := by
  subst hb
  unfold scarfjointlaw11_few.f
  have e : ∀ n : Nat, ((n : Int) ≤ 4) = (n ≤ 4) := fun n => propext (by omega)
  simp only [e]
  by_cases q0 : xn0.length ≤ 4 <;> by_cases q1 : xe0.length ≤ 4 <;> by_cases q2 : xn1.length ≤ 4 <;> by_cases q3 : xe1.length ≤ 4 <;> by_cases q4 : xn2.length ≤ 4 <;> by_cases q5 : xe2.length ≤ 4 <;> simp [q0, q1, q2, q3, q4, q5]
 refine (scarfjointlaw11_few.calls _ _ xn0 _ _ xe0 _ _ xn1 _ _ xe1 _ _ xn2 _ _ xe2 b _ R0.at_ R0.cap R1.at_ R1.cap R2.at_ R2.cap R3.at_ R3.cap R4.at_ R4.cap R5.at_ R5.cap h).mono ?_
 rintro e w' ⟨rfl, hw⟩
 exact ⟨b, rfl, fun hb' => by rw [hb] at hb'; simpa using hb', hw⟩
end Go.Proofs.Ytillofiphkmjjaa.X

namespace Go.Proofs.Ytillofiphkmjjaa.X
open Go.RowKit Go.Proofs.YtillofiphkmjjaaW.PrintWords Go.Proofs.YtillofiphkmjjaaW.PrintLast Go.Proofs.YtillofiphkmjjaaW.PrintMore
open Go.Proofs.YtillofiphkmjjaaW.PrintWords renaming blk_drewN → bN, blk_drew → bD, blk_alloc → bA, below_alloc → wA, pw_below_drewN → wN, below_drew1 → wD, blk_below → bB, below_step → wS, blk_at → bT, blk_grown → bG
open Go.Proofs.YtillofiphkmjjaaW.PrintWords.Kd renaming R_alloc → rA, R_drewN → rN, R_drew → rD, R_below → rB, R_grown → rG, C_below → cB, C_alloc → cA, C_drewN → cN, C_drew → cD
attribute [local go_sem] max2_int min2_int max_two min_two max_three min_three max_four min_four
set_option linter.unusedVariables false
set_option linter.unusedSimpArgs false
/-! ### scarfjointref06_Valid: function 44 -/
set_option maxHeartbeats 4000000 in
set_option maxRecDepth 100000 in
theorem rvalid_a (A0 : Option Addr) (c0 : Nat) (a0 : List Int) (A1 : Option Addr) (c1 : Nat) (a1 : List S94) (A2 : Option Addr) (c2 : Nat) (b0 : List Int) (A3 : Option Addr) (c3 : Nat) (b1 : List S94) (A4 : Option Addr) (c4 : Nat) (n : List Int) (A5 : Option Addr) (c5 : Nat) (m : List Int) (w : World) (R0 : Row (Kd.int .i64) w A0 c0 a0) (R1 : Row k94 w A1 c1 a1) (R2 : Row (Kd.int .i64) w A2 c2 b0) (R3 : Row k94 w A3 c3 b1) (R4 : Row (Kd.int .i64) w A4 c4 n) (R5 : Row (Kd.int .i64) w A5 c5 m) (hv : validE a0 a1 ≠ 0) :
  Calls Try.prog 44 #[.agg #[.slice A0 a0.length c0, .slice A1 a1.length c1], .agg #[.slice A2 b0.length c2, .slice A3 b1.length c3], .agg #[.slice A4 n.length c4, .slice A5 m.length c5]] w fun e w' => e = .returned (.int .i64 (validE a0 a1)) ∧ Below w.heap.size w w' := by
 obtain ⟨ka, hka⟩ := Pl.valid_ev a0 a1
 have HKA := Aside0.mk (hka ka (Nat.le_refl _))
 obtain ⟨kb, hkb⟩ := Pl.valid_ev b0 b1
 have HKB := Aside0.mk (hkb kb (Nat.le_refl _))
 clear hka hkb
 have hu25 := Try.underlying25
 have hu27 := Try.underlying27
 have hu94 := Try.underlying94
 have HV_ := Aside0.mk hv
 clear hv
 have SB := Since.refl w
 go_enter Try.func44, Try.ntmps44
 go_upto_region 1 with fail
 obtain ⟨BX, BY, BZ, hb⟩ := tri_new w (.slice A0 a0.length c0) (.slice A1 a1.length c1) 25 (.slice A2 b0.length c2) (.slice A3 b1.length c3) 25 (.slice A4 n.length c4) (.slice A5 m.length c5) 27
 replace R0 := R0.below hb
 replace R1 := R1.below hb
 replace R2 := R2.below hb
 replace R3 := R3.below hb
 replace R4 := R4.below hb
 replace R5 := R5.below hb
 replace SB := SB.step hb
 clear hb
 generalize hw : (((w.alloc (.cells #[.slice A0 a0.length c0, .slice A1 a1.length c1] 25)).alloc (.cells #[.slice A2 b0.length c2, .slice A3 b1.length c3] 25)).alloc (.cells #[.slice A4 n.length c4, .slice A5 m.length c5] 27)) = w0 at *
 clear hw
 have BXx0 := BX.c0
 have BXx1 := BX.c1
 have BYx0 := BY.c0
 have BYx1 := BY.c1
 have BZx0 := BZ.c0
 have BZx1 := BZ.c1
 go_wp2_with fail
 refine (scarfjointref05_Valid.calls ka _ _ a0 _ _ a1 (validE a0 a1) _ R0.at_ R0.cap R1.at_ R1.cap HKA.out).mono ?_
 rintro e w1 ⟨rfl, hb⟩
 replace hb := bS (w := w0) hb
 replace R0 := R0.below hb
 replace R1 := R1.below hb
 replace R2 := R2.below hb
 replace R3 := R3.below hb
 replace R4 := R4.below hb
 replace R5 := R5.below hb
 replace BX := BX.below hb
 replace BY := BY.below hb
 replace BZ := BZ.below hb
 replace SB := SB.step hb
 clear hb
 have BXx0 := BX.c0
 have BXx1 := BX.c1
 have BYx0 := BY.c0
 have BYx1 := BY.c1
 have BZx0 := BZ.c0
 have BZx1 := BZ.c1
 have hz : (validE a0 a1 != 0) = true := bne_iff_ne.mpr HV_.out
 go_wp2_with fail
 go_ret
 exact ⟨rfl, SB.get⟩
set_option maxHeartbeats 4000000 in
set_option maxRecDepth 100000 in
theorem rvalid_b (A0 : Option Addr) (c0 : Nat) (a0 : List Int) (A1 : Option Addr) (c1 : Nat) (a1 : List S94) (A2 : Option Addr) (c2 : Nat) (b0 : List Int) (A3 : Option Addr) (c3 : Nat) (b1 : List S94) (A4 : Option Addr) (c4 : Nat) (n : List Int) (A5 : Option Addr) (c5 : Nat) (m : List Int) (w : World) (R0 : Row (Kd.int .i64) w A0 c0 a0) (R1 : Row k94 w A1 c1 a1) (R2 : Row (Kd.int .i64) w A2 c2 b0) (R3 : Row k94 w A3 c3 b1) (R4 : Row (Kd.int .i64) w A4 c4 n) (R5 : Row (Kd.int .i64) w A5 c5 m) (hv : validE a0 a1 = 0) (hu : validE b0 b1 ≠ 0) :
  Calls Try.prog 44 #[.agg #[.slice A0 a0.length c0, .slice A1 a1.length c1], .agg #[.slice A2 b0.length c2, .slice A3 b1.length c3], .agg #[.slice A4 n.length c4, .slice A5 m.length c5]] w fun e w' => e = .returned (.int .i64 (validE b0 b1)) ∧ Below w.heap.size w w' := by
 obtain ⟨ka, hka⟩ := Pl.valid_ev a0 a1
 have HKA := Aside0.mk (hka ka (Nat.le_refl _))
 obtain ⟨kb, hkb⟩ := Pl.valid_ev b0 b1
 have HKB := Aside0.mk (hkb kb (Nat.le_refl _))
 clear hka hkb
 have hu25 := Try.underlying25
 have hu27 := Try.underlying27
 have hu94 := Try.underlying94
 have HV_ := Aside0.mk hv
 have HU_ := Aside0.mk hu
 clear hv hu
 have SB := Since.refl w
 go_enter Try.func44, Try.ntmps44
 go_upto_region 1 with fail
 obtain ⟨BX, BY, BZ, hb⟩ := tri_new w (.slice A0 a0.length c0) (.slice A1 a1.length c1) 25 (.slice A2 b0.length c2) (.slice A3 b1.length c3) 25 (.slice A4 n.length c4) (.slice A5 m.length c5) 27
 replace R0 := R0.below hb
 replace R1 := R1.below hb
 replace R2 := R2.below hb
 replace R3 := R3.below hb
 replace R4 := R4.below hb
 replace R5 := R5.below hb
 replace SB := SB.step hb
 clear hb
 generalize hw : (((w.alloc (.cells #[.slice A0 a0.length c0, .slice A1 a1.length c1] 25)).alloc (.cells #[.slice A2 b0.length c2, .slice A3 b1.length c3] 25)).alloc (.cells #[.slice A4 n.length c4, .slice A5 m.length c5] 27)) = w0 at *
 clear hw
 have BXx0 := BX.c0
 have BXx1 := BX.c1
 have BYx0 := BY.c0
 have BYx1 := BY.c1
 have BZx0 := BZ.c0
 have BZx1 := BZ.c1
 go_wp2_with fail
 refine (scarfjointref05_Valid.calls ka _ _ a0 _ _ a1 0 _ R0.at_ R0.cap R1.at_ R1.cap (HKA.out.trans (by rw [HV_.out]))).mono ?_
 rintro e w1 ⟨rfl, hb⟩
 replace hb := bS (w := w0) hb
 replace R0 := R0.below hb
 replace R1 := R1.below hb
 replace R2 := R2.below hb
 replace R3 := R3.below hb
 replace R4 := R4.below hb
 replace R5 := R5.below hb
 replace BX := BX.below hb
 replace BY := BY.below hb
 replace BZ := BZ.below hb
 replace SB := SB.step hb
 clear hb
 have BXx0 := BX.c0
 have BXx1 := BX.c1
 have BYx0 := BY.c0
 have BYx1 := BY.c1
 have BZx0 := BZ.c0
 have BZx1 := BZ.c1
 go_wp2_with fail
 refine (scarfjointref05_Valid.calls kb _ _ b0 _ _ b1 (validE b0 b1) _ R2.at_ R2.cap R3.at_ R3.cap HKB.out).mono ?_
 rintro e w2 ⟨rfl, hb⟩
 replace hb := bS (w := w1) hb
 replace R0 := R0.below hb
 replace R1 := R1.below hb
 replace R2 := R2.below hb
 replace R3 := R3.below hb
 replace R4 := R4.below hb
 replace R5 := R5.below hb
 replace BX := BX.below hb
 replace BY := BY.below hb
 replace BZ := BZ.below hb
 replace SB := SB.step hb
 clear hb
 have BXx0 := BX.c0
 have BXx1 := BX.c1
 have BYx0 := BY.c0
 have BYx1 := BY.c1
 have BZx0 := BZ.c0
 have BZx1 := BZ.c1
 have hz : (validE b0 b1 != 0) = true := bne_iff_ne.mpr HU_.out
 go_wp2_with fail
 go_ret
 exact ⟨rfl, SB.get⟩
set_option maxHeartbeats 4000000 in
set_option maxRecDepth 100000 in
theorem rvalid_c (A0 : Option Addr) (c0 : Nat) (a0 : List Int) (A1 : Option Addr) (c1 : Nat) (a1 : List S94) (A2 : Option Addr) (c2 : Nat) (b0 : List Int) (A3 : Option Addr) (c3 : Nat) (b1 : List S94) (A4 : Option Addr) (c4 : Nat) (n : List Int) (A5 : Option Addr) (c5 : Nat) (m : List Int) (w : World) (R0 : Row (Kd.int .i64) w A0 c0 a0) (R1 : Row k94 w A1 c1 a1) (R2 : Row (Kd.int .i64) w A2 c2 b0) (R3 : Row k94 w A3 c3 b1) (R4 : Row (Kd.int .i64) w A4 c4 n) (R5 : Row (Kd.int .i64) w A5 c5 m) (hv : validE a0 a1 = 0) (hu : validE b0 b1 = 0) (hn : n.length ≠ a0.length ∨ m.length ≠ a1.length) :
  Calls Try.prog 44 #[.agg #[.slice A0 a0.length c0, .slice A1 a1.length c1], .agg #[.slice A2 b0.length c2, .slice A3 b1.length c3], .agg #[.slice A4 n.length c4, .slice A5 m.length c5]] w fun e w' => e = .returned (.int .i64 20) ∧ Below w.heap.size w w' := by
 obtain ⟨ka, hka⟩ := Pl.valid_ev a0 a1
 have HKA := Aside0.mk (hka ka (Nat.le_refl _))
 obtain ⟨kb, hkb⟩ := Pl.valid_ev b0 b1
 have HKB := Aside0.mk (hkb kb (Nat.le_refl _))
 clear hka hkb
 have hu25 := Try.underlying25
 have hu27 := Try.underlying27
 have hu94 := Try.underlying94
 have HV_ := Aside0.mk hv
 have HU_ := Aside0.mk hu
 clear hv hu
 have SB := Since.refl w
 go_enter Try.func44, Try.ntmps44
 go_upto_region 1 with fail
 obtain ⟨BX, BY, BZ, hb⟩ := tri_new w (.slice A0 a0.length c0) (.slice A1 a1.length c1) 25 (.slice A2 b0.length c2) (.slice A3 b1.length c3) 25 (.slice A4 n.length c4) (.slice A5 m.length c5) 27
 replace R0 := R0.below hb
 replace R1 := R1.below hb
 replace R2 := R2.below hb
 replace R3 := R3.below hb
 replace R4 := R4.below hb
 replace R5 := R5.below hb
 replace SB := SB.step hb
 clear hb
 generalize hw : (((w.alloc (.cells #[.slice A0 a0.length c0, .slice A1 a1.length c1] 25)).alloc (.cells #[.slice A2 b0.length c2, .slice A3 b1.length c3] 25)).alloc (.cells #[.slice A4 n.length c4, .slice A5 m.length c5] 27)) = w0 at *
 clear hw
 have BXx0 := BX.c0
 have BXx1 := BX.c1
 have BYx0 := BY.c0
 have BYx1 := BY.c1
 have BZx0 := BZ.c0
 have BZx1 := BZ.c1
 go_wp2_with fail
 refine (scarfjointref05_Valid.calls ka _ _ a0 _ _ a1 0 _ R0.at_ R0.cap R1.at_ R1.cap (HKA.out.trans (by rw [HV_.out]))).mono ?_
 rintro e w1 ⟨rfl, hb⟩
 replace hb := bS (w := w0) hb
 replace R0 := R0.below hb
 replace R1 := R1.below hb
 replace R2 := R2.below hb
 replace R3 := R3.below hb
 replace R4 := R4.below hb
 replace R5 := R5.below hb
 replace BX := BX.below hb
 replace BY := BY.below hb
 replace BZ := BZ.below hb
 replace SB := SB.step hb
 clear hb
 have BXx0 := BX.c0
 have BXx1 := BX.c1
 have BYx0 := BY.c0
 have BYx1 := BY.c1
 have BZx0 := BZ.c0
 have BZx1 := BZ.c1
 go_wp2_with fail
 refine (scarfjointref05_Valid.calls kb _ _ b0 _ _ b1 0 _ R2.at_ R2.cap R3.at_ R3.cap (HKB.out.trans (by rw [HU_.out]))).mono ?_
 rintro e w2 ⟨rfl, hb⟩
 replace hb := bS (w := w1) hb
 replace R0 := R0.below hb
 replace R1 := R1.below hb
 replace R2 := R2.below hb
 replace R3 := R3.below hb
 replace R4 := R4.below hb
 replace R5 := R5.below hb
 replace BX := BX.below hb
 replace BY := BY.below hb
 replace BZ := BZ.below hb
 replace SB := SB.step hb
 clear hb
 have BXx0 := BX.c0
 have BXx1 := BX.c1
 have BYx0 := BY.c0
 have BYx1 := BY.c1
 have BZx0 := BZ.c0
 have BZx1 := BZ.c1
 go_wp2_with fail
 all_goals first | (exfalso; omega) | skip
 all_goals (go_ret; exact ⟨rfl, SB.get⟩)
set_option maxHeartbeats 4000000 in
set_option maxRecDepth 100000 in
theorem rvalid_d (A0 : Option Addr) (c0 : Nat) (a0 : List Int) (A1 : Option Addr) (c1 : Nat) (a1 : List S94) (A2 : Option Addr) (c2 : Nat) (b0 : List Int) (A3 : Option Addr) (c3 : Nat) (b1 : List S94) (A4 : Option Addr) (c4 : Nat) (n : List Int) (A5 : Option Addr) (c5 : Nat) (m : List Int) (w : World) (R0 : Row (Kd.int .i64) w A0 c0 a0) (R1 : Row k94 w A1 c1 a1) (R2 : Row (Kd.int .i64) w A2 c2 b0) (R3 : Row k94 w A3 c3 b1) (R4 : Row (Kd.int .i64) w A4 c4 n) (R5 : Row (Kd.int .i64) w A5 c5 m) (hv : validE a0 a1 = 0) (hu : validE b0 b1 = 0) (hn : n.length = a0.length) (hm : m.length = a1.length) (hl : n.length ≤ 1000000 ∧ m.length ≤ 1000000) (r : Int) (hr : (if mvN a0 b0 0 n = 0 then mvE a1 b1 n 0 m else mvN a0 b0 0 n) = r) :
  Calls Try.prog 44 #[.agg #[.slice A0 a0.length c0, .slice A1 a1.length c1], .agg #[.slice A2 b0.length c2, .slice A3 b1.length c3], .agg #[.slice A4 n.length c4, .slice A5 m.length c5]] w fun e w' => e = .returned (.int .i64 r) ∧ Below w.heap.size w w' := by
 obtain ⟨ka, hka⟩ := Pl.valid_ev a0 a1
 have HKA := Aside0.mk (hka ka (Nat.le_refl _))
 obtain ⟨kb, hkb⟩ := Pl.valid_ev b0 b1
 have HKB := Aside0.mk (hkb kb (Nat.le_refl _))
 clear hka hkb
 have hu25 := Try.underlying25
 have hu27 := Try.underlying27
 have hu94 := Try.underlying94
 have HV_ := Aside0.mk hv
 have HU_ := Aside0.mk hu
 have HN_ := Aside0.mk hn
 have HM_ := Aside0.mk hm
 have HL_ := Aside0.mk hl
 have HR_ := Aside0.mk hr
 clear hv hu hn hm hl hr
 have SB := Since.refl w
 go_enter Try.func44, Try.ntmps44
 go_upto_region 1 with fail
 obtain ⟨BX, BY, BZ, hb⟩ := tri_new w (.slice A0 a0.length c0) (.slice A1 a1.length c1) 25 (.slice A2 b0.length c2) (.slice A3 b1.length c3) 25 (.slice A4 n.length c4) (.slice A5 m.length c5) 27
 replace R0 := R0.below hb
 replace R1 := R1.below hb
 replace R2 := R2.below hb
 replace R3 := R3.below hb
 replace R4 := R4.below hb
 replace R5 := R5.below hb
 replace SB := SB.step hb
 clear hb
 generalize hw : (((w.alloc (.cells #[.slice A0 a0.length c0, .slice A1 a1.length c1] 25)).alloc (.cells #[.slice A2 b0.length c2, .slice A3 b1.length c3] 25)).alloc (.cells #[.slice A4 n.length c4, .slice A5 m.length c5] 27)) = w0 at *
 clear hw
 have BXx0 := BX.c0
 have BXx1 := BX.c1
 have BYx0 := BY.c0
 have BYx1 := BY.c1
 have BZx0 := BZ.c0
 have BZx1 := BZ.c1
 go_wp2_with fail
 refine (scarfjointref05_Valid.calls ka _ _ a0 _ _ a1 0 _ R0.at_ R0.cap R1.at_ R1.cap (HKA.out.trans (by rw [HV_.out]))).mono ?_
 rintro e w1 ⟨rfl, hb⟩
 replace hb := bS (w := w0) hb
 replace R0 := R0.below hb
 replace R1 := R1.below hb
 replace R2 := R2.below hb
 replace R3 := R3.below hb
 replace R4 := R4.below hb
 replace R5 := R5.below hb
 replace BX := BX.below hb
 replace BY := BY.below hb
 replace BZ := BZ.below hb
 replace SB := SB.step hb
 clear hb
 have BXx0 := BX.c0
 have BXx1 := BX.c1
 have BYx0 := BY.c0
 have BYx1 := BY.c1
 have BZx0 := BZ.c0
 have BZx1 := BZ.c1
 go_wp2_with fail
 refine (scarfjointref05_Valid.calls kb _ _ b0 _ _ b1 0 _ R2.at_ R2.cap R3.at_ R3.cap (HKB.out.trans (by rw [HU_.out]))).mono ?_
 rintro e w2 ⟨rfl, hb⟩
 replace hb := bS (w := w1) hb
 replace R0 := R0.below hb
 replace R1 := R1.below hb
 replace R2 := R2.below hb
 replace R3 := R3.below hb
 replace R4 := R4.below hb
 replace R5 := R5.below hb
 replace BX := BX.below hb
 replace BY := BY.below hb
 replace BZ := BZ.below hb
 replace SB := SB.step hb
 clear hb
 have BXx0 := BX.c0
 have BXx1 := BX.c1
 have BYx0 := BY.c0
 have BYx1 := BY.c1
 have BZx0 := BZ.c0
 have BZx1 := BZ.c1
 have j1 : ((n.length : Int) != (a0.length : Int)) = false := bne_eq_false_iff_eq.mpr (by rw [HN_.out])
 have j2 : ((m.length : Int) != (a1.length : Int)) = false := bne_eq_false_iff_eq.mpr (by rw [HM_.out])
 go_wp2_with fail
 all_goals first | (exfalso; have h1 := HN_.out; have h2 := HM_.out; omega) | skip
 go_loopg [9] n.length (fun kq v44 w' => ∃ i : Nat, v44 = .int .i64 i ∧ Aside0 (i + kq = n.length ∧ mvN a0 b0 i (n.drop i) = mvN a0 b0 0 n) ∧ Row (Kd.int .i64) w' A0 c0 a0 ∧ Row k94 w' A1 c1 a1 ∧ Row (Kd.int .i64) w' A2 c2 b0 ∧ Row k94 w' A3 c3 b1 ∧ Row (Kd.int .i64) w' A4 c4 n ∧ Row (Kd.int .i64) w' A5 c5 m ∧ Box2 w' w.heap.size 25 (.slice A0 a0.length c0) (.slice A1 a1.length c1) ∧ Box2 w' (w.heap.size + 1) 25 (.slice A2 b0.length c2) (.slice A3 b1.length c3) ∧ Box2 w' (w.heap.size + 2) 27 (.slice A4 n.length c4) (.slice A5 m.length c5) ∧ Since w w')
 case atStart => exact ⟨0, rfl, ⟨by omega, rfl⟩, R0, R1, R2, R3, R4, R5, BX, BY, BZ, SB⟩
 case round =>
  clear R0 R1 R2 R3 R4 R5 BX BY BZ SB
  obtain ⟨i, rfl, A, R0, R1, R2, R3, R4, R5, BX, BY, BZ, SB⟩ := hrel
  have BXx0 := BX.c0
  have BXx1 := BX.c1
  have BYx0 := BY.c0
  have BYx1 := BY.c1
  have BZx0 := BZ.c0
  have BZx1 := BZ.c1
  by_cases k1 : i < n.length
  ·have d1 : decide (i < a0.length) = true := decide_eq_true (by have := HN_.out; omega)
   have hA := A.out.2
   rw [drop_rd n i k1, mvN_cons] at hA
   have k2 : (i : Int) < (n.length : Int) := by omega
   obtain ⟨ad, ead, hx⟩ := Kd.at_int R4.at_ (i : Int) (by omega) k2
   cases ead
   rw [Int.toNat_natCast] at hx
   have HK1 := Aside0.mk k1
   have q1 := eq_true k2
   clear k1 k2
   by_cases e1 : rd n i < 0
   ·have d2 : decide (rd n i < 0) = true := decide_eq_true e1
    rw [if_pos (.inl e1)] at hA
    have HA2 := Aside0.mk hA
    clear hA e1
    as_aux_lemma =>
     go_wp2
     repeat (go_quiet (fail); try go_wp2)
     go_ret
     have hr := HR_.out
     rw [← HA2.out, if_neg (by decide)] at hr
     exact ⟨by rw [← hr]; rfl, (SB.step (by repeat (first | exact Below.refl _ _ | apply wN | apply below_drew | apply wA))).get⟩
   ·have d2 : decide (rd n i < 0) = false := decide_eq_false e1
    by_cases e2 : rd n i ≥ b0.length
    ·have d3 : decide ((b0.length : Int) ≤ rd n i) = true := decide_eq_true e2
     rw [if_pos (.inr e2)] at hA
     have HA2 := Aside0.mk hA
     clear hA e1 e2
     as_aux_lemma =>
      go_wp2
      repeat (go_quiet (fail); try go_wp2)
      go_ret
      have hr := HR_.out
      rw [← HA2.out, if_neg (by decide)] at hr
      exact ⟨by rw [← hr]; rfl, (SB.step (by repeat (first | exact Below.refl _ _ | apply wN | apply below_drew | apply wA))).get⟩
    ·have d3 : decide ((b0.length : Int) ≤ rd n i) = false := decide_eq_false e2
     rw [if_neg (by omega)] at hA
     have f1 : 0 ≤ rd n i := by omega
     have f2 : rd n i < (b0.length : Int) := by omega
     have f3 : (i : Int) < (a0.length : Int) := by have := HN_.out; have := HK1.out; omega
     obtain ⟨ae, eae, hy⟩ := Kd.at_int R2.at_ (rd n i) f1 f2
     cases eae
     obtain ⟨af, eaf, hz⟩ := Kd.at_int R0.at_ (i : Int) (by omega) f3
     cases eaf
     rw [Int.toNat_natCast] at hz
     clear e1 e2
     replace f1 := eq_true f1
     replace f2 := eq_true f2
     replace f3 := eq_true f3
     by_cases e3 : rd b0 (rd n i) = rd a0 i
     ·have d4 : (rd b0 (rd n i) != rd a0 i) = false := bne_eq_false_iff_eq.mpr e3
      rw [if_neg (fun h => h e3)] at hA
      have HA2 := Aside0.mk hA
      clear hA e3
      as_aux_lemma =>
       go_wp2
       repeat (go_quiet (fail); try go_wp2)
       go_roundg (gk - 1)
       case measure => have h1 := A.out; have h2 := HK1.out; omega
       case rel =>
        have h1 := A.out
        have h2 := HK1.out
        have h3 := HL_.out
        exact ⟨i + 1, by rw [show wrap64 ((i : Int) + 1) = ((i + 1 : Nat) : Int) from by unfold wrap64; omega], ⟨by omega, HA2.out⟩, R0.below (by repeat (first | exact Below.refl _ _ | apply wN | apply below_drew | apply wA)), R1.below (by repeat (first | exact Below.refl _ _ | apply wN | apply below_drew | apply wA)), R2.below (by repeat (first | exact Below.refl _ _ | apply wN | apply below_drew | apply wA)), R3.below (by repeat (first | exact Below.refl _ _ | apply wN | apply below_drew | apply wA)), R4.below (by repeat (first | exact Below.refl _ _ | apply wN | apply below_drew | apply wA)), R5.below (by repeat (first | exact Below.refl _ _ | apply wN | apply below_drew | apply wA)), BX.below (by repeat (first | exact Below.refl _ _ | apply wN | apply below_drew | apply wA)), BY.below (by repeat (first | exact Below.refl _ _ | apply wN | apply below_drew | apply wA)), BZ.below (by repeat (first | exact Below.refl _ _ | apply wN | apply below_drew | apply wA)), SB.step (by repeat (first | exact Below.refl _ _ | apply wN | apply below_drew | apply wA))⟩
     ·have d4 : (rd b0 (rd n i) != rd a0 i) = true := bne_iff_ne.mpr e3
      rw [if_pos e3] at hA
      have HA2 := Aside0.mk hA
      clear hA e3
      as_aux_lemma =>
       go_wp2
       repeat (go_quiet (fail); try go_wp2)
       go_ret
       have hr := HR_.out
       rw [← HA2.out, if_neg (by decide)] at hr
       exact ⟨by rw [← hr]; rfl, (SB.step (by repeat (first | exact Below.refl _ _ | apply wN | apply below_drew | apply wA))).get⟩
  ·have d1 : decide (i < a0.length) = false := decide_eq_false (by have := HN_.out; omega)
   have hA := A.out.2
   rw [List.drop_of_length_le (by omega)] at hA
   have hr := HR_.out
   rw [← hA, show mvN a0 b0 i [] = 0 from rfl, if_pos rfl] at hr
   have HR2 := Aside0.mk hr
   clear hr hA k1
   go_wp2
   go_loopg [10] m.length (fun kq v73 w' => ∃ i : Nat, v73 = .int .i64 i ∧ Aside0 (i + kq = m.length ∧ mvE a1 b1 n i (m.drop i) = mvE a1 b1 n 0 m) ∧ Row (Kd.int .i64) w' A0 c0 a0 ∧ Row k94 w' A1 c1 a1 ∧ Row (Kd.int .i64) w' A2 c2 b0 ∧ Row k94 w' A3 c3 b1 ∧ Row (Kd.int .i64) w' A4 c4 n ∧ Row (Kd.int .i64) w' A5 c5 m ∧ Box2 w' w.heap.size 25 (.slice A0 a0.length c0) (.slice A1 a1.length c1) ∧ Box2 w' (w.heap.size + 1) 25 (.slice A2 b0.length c2) (.slice A3 b1.length c3) ∧ Box2 w' (w.heap.size + 2) 27 (.slice A4 n.length c4) (.slice A5 m.length c5) ∧ Since w w')
   case atStart => exact ⟨0, rfl, ⟨by omega, rfl⟩, R0, R1, R2, R3, R4, R5, BX, BY, BZ, SB⟩
   case round =>
    clear A R0 R1 R2 R3 R4 R5 BX BY BZ SB
    obtain ⟨i, rfl, A, R0, R1, R2, R3, R4, R5, BX, BY, BZ, SB⟩ := hrel
    have BXx0 := BX.c0
    have BXx1 := BX.c1
    have BYx0 := BY.c0
    have BYx1 := BY.c1
    have BZx0 := BZ.c0
    have BZx1 := BZ.c1
    by_cases k1 : i < m.length
    ·have d1 : decide (i < a1.length) = true := decide_eq_true (by have := HM_.out; omega)
     have hA := A.out.2
     rw [drop_rd m i k1, mvE_cons] at hA
     have k2 : (i : Int) < (m.length : Int) := by omega
     obtain ⟨ad, ead, hx⟩ := Kd.at_int R5.at_ (i : Int) (by omega) k2
     cases ead
     rw [Int.toNat_natCast] at hx
     have HK1 := Aside0.mk k1
     have q1 := eq_true k2
     clear k1 k2
     by_cases e1 : rd m i < 0
     ·have d2 : decide (rd m i < 0) = true := decide_eq_true e1
      rw [if_pos (.inl e1)] at hA
      have HA2 := Aside0.mk hA
      clear hA e1
      as_aux_lemma =>
       go_wp2
       repeat (go_quiet (fail); try go_wp2)
       go_ret
       have hr := HR2.out
       rw [← HA2.out] at hr
       exact ⟨by rw [← hr]; rfl, (SB.step (by repeat (first | exact Below.refl _ _ | apply wN | apply below_drew | apply wA))).get⟩
     ·have d2 : decide (rd m i < 0) = false := decide_eq_false e1
      by_cases e2 : rd m i ≥ b1.length
      ·have d3 : decide ((b1.length : Int) ≤ rd m i) = true := decide_eq_true e2
       rw [if_pos (.inr e2)] at hA
       have HA2 := Aside0.mk hA
       clear hA e1 e2
       as_aux_lemma =>
        go_wp2
        repeat (go_quiet (fail); try go_wp2)
        go_ret
        have hr := HR2.out
        rw [← HA2.out] at hr
        exact ⟨by rw [← hr]; rfl, (SB.step (by repeat (first | exact Below.refl _ _ | apply wN | apply below_drew | apply wA))).get⟩
      ·have d3 : decide ((b1.length : Int) ≤ rd m i) = false := decide_eq_false e2
       rw [if_neg (by omega)] at hA
       have f1 : 0 ≤ rd m i := by omega
       have f2 : rd m i < (b1.length : Int) := by omega
       have f3 : (i : Int) < (a1.length : Int) := by have := HM_.out; have := HK1.out; omega
       obtain ⟨ae, eae, hy0, hy1, hy2⟩ := at_T94 R3.at_ (rd m i) f1 f2
       cases eae
       obtain ⟨af, eaf, hz0, hz1, hz2⟩ := at_T94 R1.at_ (i : Int) (by omega) f3
       cases eaf
       rw [Int.toNat_natCast] at hz0 hz1 hz2
       clear e1 e2
       replace f1 := eq_true f1
       replace f2 := eq_true f2
       replace f3 := eq_true f3
       have HA1 := Aside0.mk hA
       clear hA
       go_upto_region 20 with fail
       go_quiet (fail)
       go_upto_region 22 with fail
       have hb : Below wr.heap.size wr (wr.drewN nq) := by repeat (first | exact Below.refl _ _ | apply wN)
       replace R0 := R0.below hb
       replace R1 := R1.below hb
       replace R2 := R2.below hb
       replace R3 := R3.below hb
       replace R4 := R4.below hb
       replace R5 := R5.below hb
       replace BX := BX.below hb
       replace BY := BY.below hb
       replace BZ := BZ.below hb
       replace SB := SB.step hb
       clear hb
       clear hx hy0 hy1 hy2 hz0 hz1 hz2 BXx0 BXx1 BYx0 BYx1 BZx0 BZx1
       generalize hq_ : wr.drewN nq = wq at *
       clear hq_
       obtain ⟨ad', ead', hx⟩ := Kd.at_int R5.at_ (i : Int) (by omega) (of_eq_true q1)
       cases ead'
       rw [Int.toNat_natCast] at hx
       obtain ⟨ae', eae', hy0, hy1, hy2⟩ := at_T94 R3.at_ (rd m i) (of_eq_true f1) (of_eq_true f2)
       cases eae'
       obtain ⟨af', eaf', hz0, hz1, hz2⟩ := at_T94 R1.at_ (i : Int) (by omega) (of_eq_true f3)
       cases eaf'
       rw [Int.toNat_natCast] at hz0 hz1 hz2
       have BXx0 := BX.c0
       have BXx1 := BX.c1
       have BYx0 := BY.c0
       have BYx1 := BY.c1
       have BZx0 := BZ.c0
       have BZx1 := BZ.c1
       have BXx0_1 := fun o => cell_alloc BXx0 o
       have BXx0_2 := fun o o' => cell_alloc (cell_alloc BXx0 o) o'
       have BXx1_1 := fun o => cell_alloc BXx1 o
       have BXx1_2 := fun o o' => cell_alloc (cell_alloc BXx1 o) o'
       have BYx0_1 := fun o => cell_alloc BYx0 o
       have BYx0_2 := fun o o' => cell_alloc (cell_alloc BYx0 o) o'
       have BYx1_1 := fun o => cell_alloc BYx1 o
       have BYx1_2 := fun o o' => cell_alloc (cell_alloc BYx1 o) o'
       have BZx0_1 := fun o => cell_alloc BZx0 o
       have BZx0_2 := fun o o' => cell_alloc (cell_alloc BZx0 o) o'
       have BZx1_1 := fun o => cell_alloc BZx1 o
       have BZx1_2 := fun o o' => cell_alloc (cell_alloc BZx1 o) o'
       have hy0_1 := fun o => cell_alloc hy0 o
       have hy0_2 := fun o o' => cell_alloc (cell_alloc hy0 o) o'
       have hy1_1 := fun o => cell_alloc hy1 o
       have hy1_2 := fun o o' => cell_alloc (cell_alloc hy1 o) o'
       have hy2_1 := fun o => cell_alloc hy2 o
       have hy2_2 := fun o o' => cell_alloc (cell_alloc hy2 o) o'
       have hz0_1 := fun o => cell_alloc hz0 o
       have hz0_2 := fun o o' => cell_alloc (cell_alloc hz0 o) o'
       have hz1_1 := fun o => cell_alloc hz1 o
       have hz1_2 := fun o o' => cell_alloc (cell_alloc hz1 o) o'
       have hz2_1 := fun o => cell_alloc hz2 o
       have hx_1 := fun o => cell_alloc hx o
       have hx_2 := fun o o' => cell_alloc (cell_alloc hx o) o'
       have hz2_2 := fun o o' => cell_alloc (cell_alloc hz2 o) o'
       go_region
       ·as_aux_lemma =>
         obtain ⟨BU, BV, hb⟩ := duo3_new wq (.int .i64 (rd_T94 a1 i).f0) (.int .i64 (rd_T94 a1 i).f1) (.int .i64 (rd_T94 a1 i).f2) 94 (.int .i64 (rd_T94 b1 (rd m i)).f0) (.int .i64 (rd_T94 b1 (rd m i)).f1) (.int .i64 (rd_T94 b1 (rd m i)).f2) 94
         replace R0 := R0.below hb
         replace R1 := R1.below hb
         replace R2 := R2.below hb
         replace R3 := R3.below hb
         replace R4 := R4.below hb
         replace R5 := R5.below hb
         replace BX := BX.below hb
         replace BY := BY.below hb
         replace BZ := BZ.below hb
         replace SB := SB.step hb
         generalize hw : ((wq.alloc (.cells #[(.int .i64 (rd_T94 a1 i).f0), (.int .i64 (rd_T94 a1 i).f1), (.int .i64 (rd_T94 a1 i).f2)] 94)).alloc (.cells #[(.int .i64 (rd_T94 b1 (rd m i)).f0), (.int .i64 (rd_T94 b1 (rd m i)).f1), (.int .i64 (rd_T94 b1 (rd m i)).f2)] 94)).drew = wx at *
         clear hw
         have BXx0 := BX.c0
         have BXx1 := BX.c1
         have BYx0 := BY.c0
         have BYx1 := BY.c1
         have BZx0 := BZ.c0
         have BZx1 := BZ.c1
         have BUx0 := BU.c0
         have BUx1 := BU.c1
         have BUx2 := BU.c2
         have BVx0 := BV.c0
         have BVx1 := BV.c1
         have BVx2 := BV.c2
         have hA := HA1.out
         obtain ⟨-, -, hok⟩ := Pl.okE_of HV_.out
         have hmem : rd_T94 a1 i ∈ a1 := by
          have h3 := of_eq_true f3
          unfold rd_T94
          rw [Int.toNat_natCast, List.getD_eq_getElem?_getD, List.getElem?_eq_getElem (by omega)]
          exact List.getElem_mem _
         have hends := hok _ hmem
         unfold Pl.okE at hends
         obtain ⟨⟨g1, g2⟩, g3, g4⟩ := hends
         rw [← HN_.out] at g2 g4
         clear hmem hok
         by_cases e4 : (rd_T94 a1 i).f0 = (rd_T94 b1 (rd m i)).f0
         rotate_left
         ·have d4 : ((rd_T94 a1 i).f0 != (rd_T94 b1 (rd m i)).f0) = true := bne_iff_ne.mpr e4
          rw [if_pos e4] at hA
          have HA2 := Aside0.mk hA
          clear hA e4
          as_aux_lemma =>
           go_wp2
           repeat (go_quiet (fail); try go_wp2)
           go_ret
           have hr := HR2.out
           rw [← HA2.out] at hr
           exact ⟨by rw [← hr]; rfl, (SB.step (by repeat (first | exact Below.refl _ _ | apply wN | apply below_drew | apply wA))).get⟩
         have d4 : ((rd_T94 a1 i).f0 != (rd_T94 b1 (rd m i)).f0) = false := bne_eq_false_iff_eq.mpr e4
         rw [if_neg (fun h => h e4)] at hA
         obtain ⟨ag, eag, hn1⟩ := Kd.at_int R4.at_ _ g1 g2
         cases eag
         obtain ⟨ah, eah, hn2⟩ := Kd.at_int R4.at_ _ g3 g4
         cases eah
         replace g1 := eq_true g1
         replace g2 := eq_true g2
         replace g3 := eq_true g3
         replace g4 := eq_true g4
         clear e4
         by_cases e5 : rd n (rd_T94 a1 i).f1 = (rd_T94 b1 (rd m i)).f1
         rotate_left
         ·have d5 : (rd n (rd_T94 a1 i).f1 != (rd_T94 b1 (rd m i)).f1) = true := bne_iff_ne.mpr e5
          rw [if_pos (.inl e5)] at hA
          have HA2 := Aside0.mk hA
          clear hA e5
          as_aux_lemma =>
           go_wp2
           repeat (go_quiet (fail); try go_wp2)
           go_ret
           have hr := HR2.out
           rw [← HA2.out] at hr
           exact ⟨by rw [← hr]; rfl, (SB.step (by repeat (first | exact Below.refl _ _ | apply wN | apply below_drew | apply wA))).get⟩
         have d5 : (rd n (rd_T94 a1 i).f1 != (rd_T94 b1 (rd m i)).f1) = false := bne_eq_false_iff_eq.mpr e5
         by_cases e6 : rd n (rd_T94 a1 i).f2 = (rd_T94 b1 (rd m i)).f2
         rotate_left
         ·have d6 : (rd n (rd_T94 a1 i).f2 != (rd_T94 b1 (rd m i)).f2) = true := bne_iff_ne.mpr e6
          rw [if_pos (.inr e6)] at hA
          have HA2 := Aside0.mk hA
          clear hA e5 e6
          as_aux_lemma =>
           go_wp2
           repeat (go_quiet (fail); try go_wp2)
           go_ret
           have hr := HR2.out
           rw [← HA2.out] at hr
           exact ⟨by rw [← hr]; rfl, (SB.step (by repeat (first | exact Below.refl _ _ | apply wN | apply below_drew | apply wA))).get⟩
         have d6 : (rd n (rd_T94 a1 i).f2 != (rd_T94 b1 (rd m i)).f2) = false := bne_eq_false_iff_eq.mpr e6
         rw [if_neg (fun h => h.elim (fun h => h e5) (fun h => h e6))] at hA
         have HA2 := Aside0.mk hA
         clear hA e5 e6
         as_aux_lemma =>
          go_wp2
          repeat (go_quiet (fail); try go_wp2)
          go_roundg (gk - 1)
          case measure => have h1 := A.out; have h2 := HK1.out; omega
          case rel =>
           have h1 := A.out
           have h2 := HK1.out
           have h3 := HL_.out
           exact ⟨i + 1, by rw [show wrap64 ((i : Int) + 1) = ((i + 1 : Nat) : Int) from by unfold wrap64; omega], ⟨by omega, HA2.out⟩, R0.below (by repeat (first | exact Below.refl _ _ | apply wN | apply below_drew | apply wA)), R1.below (by repeat (first | exact Below.refl _ _ | apply wN | apply below_drew | apply wA)), R2.below (by repeat (first | exact Below.refl _ _ | apply wN | apply below_drew | apply wA)), R3.below (by repeat (first | exact Below.refl _ _ | apply wN | apply below_drew | apply wA)), R4.below (by repeat (first | exact Below.refl _ _ | apply wN | apply below_drew | apply wA)), R5.below (by repeat (first | exact Below.refl _ _ | apply wN | apply below_drew | apply wA)), BX.below (by repeat (first | exact Below.refl _ _ | apply wN | apply below_drew | apply wA)), BY.below (by repeat (first | exact Below.refl _ _ | apply wN | apply below_drew | apply wA)), BZ.below (by repeat (first | exact Below.refl _ _ | apply wN | apply below_drew | apply wA)), SB.step (by repeat (first | exact Below.refl _ _ | apply wN | apply below_drew | apply wA))⟩
       ·as_aux_lemma =>
         obtain ⟨BV, BU, hb⟩ := duo3_new wq (.int .i64 (rd_T94 b1 (rd m i)).f0) (.int .i64 (rd_T94 b1 (rd m i)).f1) (.int .i64 (rd_T94 b1 (rd m i)).f2) 94 (.int .i64 (rd_T94 a1 i).f0) (.int .i64 (rd_T94 a1 i).f1) (.int .i64 (rd_T94 a1 i).f2) 94
         replace R0 := R0.below hb
         replace R1 := R1.below hb
         replace R2 := R2.below hb
         replace R3 := R3.below hb
         replace R4 := R4.below hb
         replace R5 := R5.below hb
         replace BX := BX.below hb
         replace BY := BY.below hb
         replace BZ := BZ.below hb
         replace SB := SB.step hb
         generalize hw : ((wq.alloc (.cells #[(.int .i64 (rd_T94 b1 (rd m i)).f0), (.int .i64 (rd_T94 b1 (rd m i)).f1), (.int .i64 (rd_T94 b1 (rd m i)).f2)] 94)).alloc (.cells #[(.int .i64 (rd_T94 a1 i).f0), (.int .i64 (rd_T94 a1 i).f1), (.int .i64 (rd_T94 a1 i).f2)] 94)).drew = wx at *
         clear hw
         have BXx0 := BX.c0
         have BXx1 := BX.c1
         have BYx0 := BY.c0
         have BYx1 := BY.c1
         have BZx0 := BZ.c0
         have BZx1 := BZ.c1
         have BUx0 := BU.c0
         have BUx1 := BU.c1
         have BUx2 := BU.c2
         have BVx0 := BV.c0
         have BVx1 := BV.c1
         have BVx2 := BV.c2
         have hA := HA1.out
         obtain ⟨-, -, hok⟩ := Pl.okE_of HV_.out
         have hmem : rd_T94 a1 i ∈ a1 := by
          have h3 := of_eq_true f3
          unfold rd_T94
          rw [Int.toNat_natCast, List.getD_eq_getElem?_getD, List.getElem?_eq_getElem (by omega)]
          exact List.getElem_mem _
         have hends := hok _ hmem
         unfold Pl.okE at hends
         obtain ⟨⟨g1, g2⟩, g3, g4⟩ := hends
         rw [← HN_.out] at g2 g4
         clear hmem hok
         by_cases e4 : (rd_T94 a1 i).f0 = (rd_T94 b1 (rd m i)).f0
         rotate_left
         ·have d4 : ((rd_T94 a1 i).f0 != (rd_T94 b1 (rd m i)).f0) = true := bne_iff_ne.mpr e4
          rw [if_pos e4] at hA
          have HA2 := Aside0.mk hA
          clear hA e4
          as_aux_lemma =>
           go_wp2
           repeat (go_quiet (fail); try go_wp2)
           go_ret
           have hr := HR2.out
           rw [← HA2.out] at hr
           exact ⟨by rw [← hr]; rfl, (SB.step (by repeat (first | exact Below.refl _ _ | apply wN | apply below_drew | apply wA))).get⟩
         have d4 : ((rd_T94 a1 i).f0 != (rd_T94 b1 (rd m i)).f0) = false := bne_eq_false_iff_eq.mpr e4
         rw [if_neg (fun h => h e4)] at hA
         obtain ⟨ag, eag, hn1⟩ := Kd.at_int R4.at_ _ g1 g2
         cases eag
         obtain ⟨ah, eah, hn2⟩ := Kd.at_int R4.at_ _ g3 g4
         cases eah
         replace g1 := eq_true g1
         replace g2 := eq_true g2
         replace g3 := eq_true g3
         replace g4 := eq_true g4
         clear e4
         by_cases e5 : rd n (rd_T94 a1 i).f1 = (rd_T94 b1 (rd m i)).f1
         rotate_left
         ·have d5 : (rd n (rd_T94 a1 i).f1 != (rd_T94 b1 (rd m i)).f1) = true := bne_iff_ne.mpr e5
          rw [if_pos (.inl e5)] at hA
          have HA2 := Aside0.mk hA
          clear hA e5
          as_aux_lemma =>
           go_wp2
           repeat (go_quiet (fail); try go_wp2)
           go_ret
           have hr := HR2.out
           rw [← HA2.out] at hr
           exact ⟨by rw [← hr]; rfl, (SB.step (by repeat (first | exact Below.refl _ _ | apply wN | apply below_drew | apply wA))).get⟩
         have d5 : (rd n (rd_T94 a1 i).f1 != (rd_T94 b1 (rd m i)).f1) = false := bne_eq_false_iff_eq.mpr e5
         by_cases e6 : rd n (rd_T94 a1 i).f2 = (rd_T94 b1 (rd m i)).f2
         rotate_left
         ·have d6 : (rd n (rd_T94 a1 i).f2 != (rd_T94 b1 (rd m i)).f2) = true := bne_iff_ne.mpr e6
          rw [if_pos (.inr e6)] at hA
          have HA2 := Aside0.mk hA
          clear hA e5 e6
          as_aux_lemma =>
           go_wp2
           repeat (go_quiet (fail); try go_wp2)
           go_ret
           have hr := HR2.out
           rw [← HA2.out] at hr
           exact ⟨by rw [← hr]; rfl, (SB.step (by repeat (first | exact Below.refl _ _ | apply wN | apply below_drew | apply wA))).get⟩
         have d6 : (rd n (rd_T94 a1 i).f2 != (rd_T94 b1 (rd m i)).f2) = false := bne_eq_false_iff_eq.mpr e6
         rw [if_neg (fun h => h.elim (fun h => h e5) (fun h => h e6))] at hA
         have HA2 := Aside0.mk hA
         clear hA e5 e6
         as_aux_lemma =>
          go_wp2
          repeat (go_quiet (fail); try go_wp2)
          go_roundg (gk - 1)
          case measure => have h1 := A.out; have h2 := HK1.out; omega
          case rel =>
           have h1 := A.out
           have h2 := HK1.out
           have h3 := HL_.out
           exact ⟨i + 1, by rw [show wrap64 ((i : Int) + 1) = ((i + 1 : Nat) : Int) from by unfold wrap64; omega], ⟨by omega, HA2.out⟩, R0.below (by repeat (first | exact Below.refl _ _ | apply wN | apply below_drew | apply wA)), R1.below (by repeat (first | exact Below.refl _ _ | apply wN | apply below_drew | apply wA)), R2.below (by repeat (first | exact Below.refl _ _ | apply wN | apply below_drew | apply wA)), R3.below (by repeat (first | exact Below.refl _ _ | apply wN | apply below_drew | apply wA)), R4.below (by repeat (first | exact Below.refl _ _ | apply wN | apply below_drew | apply wA)), R5.below (by repeat (first | exact Below.refl _ _ | apply wN | apply below_drew | apply wA)), BX.below (by repeat (first | exact Below.refl _ _ | apply wN | apply below_drew | apply wA)), BY.below (by repeat (first | exact Below.refl _ _ | apply wN | apply below_drew | apply wA)), BZ.below (by repeat (first | exact Below.refl _ _ | apply wN | apply below_drew | apply wA)), SB.step (by repeat (first | exact Below.refl _ _ | apply wN | apply below_drew | apply wA))⟩
    ·have d1 : decide (i < a1.length) = false := decide_eq_false (by have := HM_.out; omega)
     have hA := A.out.2
     rw [List.drop_of_length_le (by omega)] at hA
     have hr := HR2.out
     rw [← hA] at hr
     have HR3 := Aside0.mk hr
     clear hr hA k1
     go_wp2
     go_ret
     exact ⟨by rw [← HR3.out]; rfl, SB.get⟩
theorem rvalid_calls (A0 : Option Addr) (c0 : Nat) (a0 : List Int) (A1 : Option Addr) (c1 : Nat) (a1 : List S94) (A2 : Option Addr) (c2 : Nat) (b0 : List Int) (A3 : Option Addr) (c3 : Nat) (b1 : List S94) (A4 : Option Addr) (c4 : Nat) (n : List Int) (A5 : Option Addr) (c5 : Nat) (m : List Int) (w : World) (R0 : Row (Kd.int .i64) w A0 c0 a0) (R1 : Row k94 w A1 c1 a1) (R2 : Row (Kd.int .i64) w A2 c2 b0) (R3 : Row k94 w A3 c3 b1) (R4 : Row (Kd.int .i64) w A4 c4 n) (R5 : Row (Kd.int .i64) w A5 c5 m) :
  Calls Try.prog 44 #[.agg #[.slice A0 a0.length c0, .slice A1 a1.length c1], .agg #[.slice A2 b0.length c2, .slice A3 b1.length c3], .agg #[.slice A4 n.length c4, .slice A5 m.length c5]] w fun e w' => e = .returned (.int .i64 (mvalid a0 a1 b0 b1 n m)) ∧ Below w.heap.size w w' := by
 unfold mvalid
 by_cases hv : validE a0 a1 = 0
 ·rw [if_pos hv]
  by_cases hu : validE b0 b1 = 0
  ·rw [if_pos hu]
   by_cases hn : n.length ≠ a0.length ∨ m.length ≠ a1.length
   ·rw [if_pos hn]
    exact rvalid_c A0 c0 a0 A1 c1 a1 A2 c2 b0 A3 c3 b1 A4 c4 n A5 c5 m w R0 R1 R2 R3 R4 R5 hv hu hn
   ·rw [if_neg hn]
    have hn0 : n.length = a0.length := by omega
    have hm0 : m.length = a1.length := by omega
    obtain ⟨h1, h2, -⟩ := Pl.okE_of hv
    exact rvalid_d A0 c0 a0 A1 c1 a1 A2 c2 b0 A3 c3 b1 A4 c4 n A5 c5 m w R0 R1 R2 R3 R4 R5 hv hu hn0 hm0 ⟨by omega, by omega⟩ _ rfl
  ·rw [if_neg hu]
   exact rvalid_b A0 c0 a0 A1 c1 a1 A2 c2 b0 A3 c3 b1 A4 c4 n A5 c5 m w R0 R1 R2 R3 R4 R5 hv hu
 ·rw [if_neg hv]
  exact rvalid_a A0 c0 a0 A1 c1 a1 A2 c2 b0 A3 c3 b1 A4 c4 n A5 c5 m w R0 R1 R2 R3 R4 R5 hv
def scarfjointref06_Valid.f (l0_0 : List Int) (l0_1 : List (S94)) (l1_0 : List Int) (l1_1 : List (S94)) (l2_0 : List Int) (l2_1 : List Int) : Option (Int) := some (mvalid l0_0 l0_1 l1_0 l1_1 l2_0 l2_1)
theorem scarfjointref06_Valid.calls (A0_0 : Option Addr) (c0_0 : Nat) (l0_0 : List Int) (A0_1 : Option Addr) (c0_1 : Nat) (l0_1 : List (S94)) (A1_0 : Option Addr) (c1_0 : Nat) (l1_0 : List Int) (A1_1 : Option Addr) (c1_1 : Nat) (l1_1 : List (S94)) (A2_0 : Option Addr) (c2_0 : Nat) (l2_0 : List Int) (A2_1 : Option Addr) (c2_1 : Nat) (l2_1 : List Int) (r : Int) (w : World) (hr0_0 : Kd.C (Kd.int .i64) w A0_0 l0_0.length l0_0) (hc0_0 : l0_0.length ≤ c0_0) (hr0_1 : Kd.C k94 w A0_1 l0_1.length l0_1) (hc0_1 : l0_1.length ≤ c0_1) (hr1_0 : Kd.C (Kd.int .i64) w A1_0 l1_0.length l1_0) (hc1_0 : l1_0.length ≤ c1_0) (hr1_1 : Kd.C k94 w A1_1 l1_1.length l1_1) (hc1_1 : l1_1.length ≤ c1_1) (hr2_0 : Kd.C (Kd.int .i64) w A2_0 l2_0.length l2_0) (hc2_0 : l2_0.length ≤ c2_0) (hr2_1 : Kd.C (Kd.int .i64) w A2_1 l2_1.length l2_1) (hc2_1 : l2_1.length ≤ c2_1) (h : scarfjointref06_Valid.f l0_0 l0_1 l1_0 l1_1 l2_0 l2_1 = some r) :
  Calls Try.prog 44 #[.agg #[.slice A0_0 l0_0.length c0_0, .slice A0_1 l0_1.length c0_1], .agg #[.slice A1_0 l1_0.length c1_0, .slice A1_1 l1_1.length c1_1], .agg #[.slice A2_0 l2_0.length c2_0, .slice A2_1 l2_1.length c2_1]] w fun e w' => e = .returned (.int .i64 r) ∧ Below w.heap.size w w' := by
 cases h
 exact rvalid_calls A0_0 c0_0 l0_0 A0_1 c0_1 l0_1 A1_0 c1_0 l1_0 A1_1 c1_1 l1_1 A2_0 c2_0 l2_0 A2_1 c2_1 l2_1 w ⟨hc0_0, hr0_0⟩ ⟨hc0_1, hr0_1⟩ ⟨hc1_0, hr1_0⟩ ⟨hc1_1, hr1_1⟩ ⟨hc2_0, hr2_0⟩ ⟨hc2_1, hr2_1⟩
/-! ### scarfjointref06_Distinct: function 57 -/
mutual
def scarfjointref06_Distinct.l0 : Nat → List Int → Int → Option (Bool)
 | 0, _, _ => none
 | k + 1, x0, x3 => if x3 < (x0.length : Int) then (scarfjointref06_Distinct.l1 k x0 x3 0) else (some true)
def scarfjointref06_Distinct.l1 : Nat → List Int → Int → Int → Option (Bool)
 | 0, _, _, _ => none
 | k + 1, x0, x3, x4 => if x4 < x3 then (if 0 ≤ x3 then (if x3 < (x0.length : Int) then (if 0 ≤ x4 then (if x4 < (x0.length : Int) then (if (rd x0 x3) = (rd x0 x4) then (some false) else (scarfjointref06_Distinct.l1 k x0 x3 (wrap64 (x4 + 1)))) else (none)) else (none)) else (none)) else (none)) else (scarfjointref06_Distinct.l0 k x0 (wrap64 (x3 + 1)))
end
def scarfjointref06_Distinct.f (k : Nat) (l0 : List Int) : Option (Bool) := scarfjointref06_Distinct.l0 k l0 0
theorem scarfjointref06_Distinct.mono_l : ∀ k, (∀ y0 y1, LeO (scarfjointref06_Distinct.l0 k y0 y1) (scarfjointref06_Distinct.l0 (k + 1) y0 y1)) ∧ (∀ y0 y1 y2, LeO (scarfjointref06_Distinct.l1 k y0 y1 y2) (scarfjointref06_Distinct.l1 (k + 1) y0 y1 y2))
 | 0 => ⟨fun _ _ r h => by simp [scarfjointref06_Distinct.l0] at h, fun _ _ _ r h => by simp [scarfjointref06_Distinct.l1] at h⟩
 | k + 1 => by
  obtain ⟨ih0, ih1⟩ := scarfjointref06_Distinct.mono_l k
  refine ⟨?_, ?_⟩
  ·intro y0 y1
   unfold scarfjointref06_Distinct.l0
   repeat' first
   | (with_reducible exact ih0 _ _)
   | (with_reducible exact ih1 _ _ _)
   | (with_reducible exact LeO.refl _)
   | (with_reducible exact LeO.none _)
   | (with_reducible refine LeO.ite ?_ ?_)
   | (with_reducible refine LeO.bind ?_ (fun _ => ?_))
   | exact ih0 _ _
   | exact ih1 _ _ _
   | exact LeO.none _
   | refine LeO.ite ?_ ?_
   | refine LeO.bind ?_ (fun _ => ?_)
  ·intro y0 y1 y2
   unfold scarfjointref06_Distinct.l1
   repeat' first
   | (with_reducible exact ih0 _ _)
   | (with_reducible exact ih1 _ _ _)
   | (with_reducible exact LeO.refl _)
   | (with_reducible exact LeO.none _)
   | (with_reducible refine LeO.ite ?_ ?_)
   | (with_reducible refine LeO.bind ?_ (fun _ => ?_))
   | exact ih0 _ _
   | exact ih1 _ _ _
   | exact LeO.none _
   | refine LeO.ite ?_ ?_
   | refine LeO.bind ?_ (fun _ => ?_)
theorem scarfjointref06_Distinct.mono : ∀ a0 k, LeO (scarfjointref06_Distinct.f k a0) (scarfjointref06_Distinct.f (k + 1) a0) := by
 intro a0 k
 obtain ⟨ih0, ih1⟩ := scarfjointref06_Distinct.mono_l k
 unfold scarfjointref06_Distinct.f
 repeat' first
   | (with_reducible exact ih0 _ _)
   | (with_reducible exact ih1 _ _ _)
   | (with_reducible exact LeO.refl _)
   | (with_reducible exact LeO.none _)
   | (with_reducible refine LeO.ite ?_ ?_)
   | (with_reducible refine LeO.bind ?_ (fun _ => ?_))
   | exact ih0 _ _
   | exact ih1 _ _ _
   | exact LeO.none _
   | refine LeO.ite ?_ ?_
   | refine LeO.bind ?_ (fun _ => ?_)
set_option maxHeartbeats 8000000 in
set_option maxRecDepth 100000 in
theorem scarfjointref06_Distinct.calls (k : Nat) (A0 : Option Addr) (c0 : Nat) (l0 : List Int) (r : Bool) (w : World) (hr0 : Kd.C (Kd.int .i64) w A0 l0.length l0) (hc0 : l0.length ≤ c0) (h : scarfjointref06_Distinct.f k l0 = some r) :
  Calls Try.prog 57 #[.slice A0 l0.length c0] w fun e w' => e = .returned (.bool r) ∧ Drawn0 w w' := by
 have HR0 := Aside0.mk hr0
 have HC0 := Aside0.mk hc0
 clear hr0 hc0
 have H : (scarfjointref06_Distinct.l0 k l0 0) = some r := h
 clear h
 have H' := Aside0.mk H
 clear H
 go_enter Try.func57, Try.ntmps57
 go_wp2
 repeat (go_quiet (fail); try go_wp2)
 go_loopg [3] k (fun kq v3 w' => ∃ (x3_1 : Int), v3 = .int .i64 x3_1 ∧ Aside0 (scarfjointref06_Distinct.l0 kq l0 x3_1 = some r) ∧ Aside0 (kq ≤ k) ∧ Drawn0 w w')
 case atStart => exact ⟨(0), rS, H', ⟨Nat.le_refl _⟩, by repeat (first | exact Drawn0.refl _ | apply Drawn0.step)⟩
 case round =>
  clear H'
  obtain ⟨x3_1, rfl, HA, HK1, ⟨m1, rfl⟩⟩ := hrel
  cases gk with
  | zero => exact absurd HA.out (by simp [scarfjointref06_Distinct.l0])
  | succ k1 =>
   have H := HA.out
   clear HA
   simp only [scarfjointref06_Distinct.l0] at H
   by_cases c2 : x3_1 < (l0.length : Int)
   ·rw [if_pos c2] at H
    have c2b0 : decide (x3_1 < (l0.length : Int)) = true := decide_eq_true c2
    clear c2
    have H' := Aside0.mk H
    clear H
    go_wp2
    repeat (go_quiet (fail); try go_wp2)
    go_loopg [4] k1 (fun kq v4 w' => ∃ (x4_2 : Int), v4 = .int .i64 x4_2 ∧ Aside0 (scarfjointref06_Distinct.l1 kq l0 x3_1 x4_2 = some r) ∧ Aside0 (kq ≤ k1) ∧ Drawn0 w w')
    case atStart => exact ⟨(0), rS, H', ⟨Nat.le_refl _⟩, by repeat (first | exact Drawn0.refl _ | apply Drawn0.step)⟩
    case round =>
     clear H'
     try clear c2; try clear c2b0; try clear p2
     obtain ⟨x4_2, rfl, HA, HK2, ⟨m2, rfl⟩⟩ := hrel
     cases gk with
     | zero => exact absurd HA.out (by simp [scarfjointref06_Distinct.l1])
     | succ k2 =>
      have H := HA.out
      clear HA
      simp only [scarfjointref06_Distinct.l1] at H
      by_cases c3 : x4_2 < x3_1
      ·rw [if_pos c3] at H
       have c3b0 : decide (x4_2 < x3_1) = true := decide_eq_true c3
       clear c3
       by_cases c4 : 0 ≤ x3_1
       ·rw [if_pos c4] at H
        have c4b0 : decide (0 ≤ x3_1) = true := decide_eq_true c4
        clear c4
        by_cases c5 : x3_1 < (l0.length : Int)
        ·rw [if_pos c5] at H
         have c5b0 : decide (x3_1 < (l0.length : Int)) = true := decide_eq_true c5
         clear c5
         by_cases c6 : 0 ≤ x4_2
         ·rw [if_pos c6] at H
          have c6b0 : decide (0 ≤ x4_2) = true := decide_eq_true c6
          clear c6
          by_cases c7 : x4_2 < (l0.length : Int)
          ·rw [if_pos c7] at H
           have c7b0 : decide (x4_2 < (l0.length : Int)) = true := decide_eq_true c7
           clear c7
           by_cases c8 : (rd l0 x3_1) = (rd l0 x4_2)
           ·rw [if_pos c8] at H
            have c8b0 : ((rd l0 x3_1) == (rd l0 x4_2)) = true := beq_iff_eq.mpr c8
            have c8b1 : ((rd l0 x3_1) != (rd l0 x4_2)) = false := bne_eq_false_iff_eq.mpr c8
            clear c8
            obtain rfl := Option.some.inj H
            have p101 : 0 ≤ (x3_1 : Int) := oT
            have q101 : x3_1 < (l0.length : Int) := oT
            obtain ⟨ad101, e101, hx101_0⟩ := Kd.at_int HR0.out x3_1 p101 q101
            cases e101
            replace p101 := eq_true p101
            replace q101 := eq_true q101
            have p102 : 0 ≤ (x4_2 : Int) := oT
            have q102 : x4_2 < (l0.length : Int) := oT
            obtain ⟨ad102, e102, hx102_0⟩ := Kd.at_int HR0.out x4_2 p102 q102
            obtain rfl : ad101 = ad102 := (by injection e102)
            replace p102 := eq_true p102
            replace q102 := eq_true q102
            go_wp2
            repeat (go_quiet (fail); try go_wp2)
            go_ret
            exact ⟨by first | rfl | (simp; done) | (simp [*]; done), by repeat (first | exact Drawn0.refl _ | apply Drawn0.step)⟩
           ·rw [if_neg c8] at H
            have c8b0 : ((rd l0 x3_1) == (rd l0 x4_2)) = false := beq_eq_false_iff_ne.mpr c8
            have c8b1 : ((rd l0 x3_1) != (rd l0 x4_2)) = true := bne_iff_ne.mpr c8
            have H' := Aside0.mk H
            clear H
            have p101 : 0 ≤ (x3_1 : Int) := oT
            have q101 : x3_1 < (l0.length : Int) := oT
            obtain ⟨ad101, e101, hx101_0⟩ := Kd.at_int HR0.out x3_1 p101 q101
            cases e101
            replace p101 := eq_true p101
            replace q101 := eq_true q101
            have p102 : 0 ≤ (x4_2 : Int) := oT
            have q102 : x4_2 < (l0.length : Int) := oT
            obtain ⟨ad102, e102, hx102_0⟩ := Kd.at_int HR0.out x4_2 p102 q102
            obtain rfl : ad101 = ad102 := (by injection e102)
            replace p102 := eq_true p102
            replace q102 := eq_true q102
            go_wp2
            repeat (go_quiet (fail); try go_wp2)
            go_roundg k2
            case measure => have := HK1.out; have := HK2.out; omega
            case rel => exact ⟨(wrap64 (x4_2 + 1)), rS, H', ⟨by have := HK1.out; have := HK2.out; omega⟩, by repeat (first | exact Drawn0.refl _ | apply Drawn0.step)⟩
          ·rw [if_neg c7] at H
           exact absurd H (by simp)
         ·rw [if_neg c6] at H
          exact absurd H (by simp)
        ·rw [if_neg c5] at H
         exact absurd H (by simp)
       ·rw [if_neg c4] at H
        exact absurd H (by simp)
      ·rw [if_neg c3] at H
       have c3b0 : decide (x4_2 < x3_1) = false := decide_eq_false c3
       clear c3
       have H' := Aside0.mk H
       clear H
       go_wp2
       repeat (go_quiet (fail); try go_wp2)
       go_roundg k2
       case measure => have := HK1.out; have := HK2.out; omega
       case rel => exact ⟨(wrap64 (x3_1 + 1)), rS, H', ⟨by have := HK1.out; have := HK2.out; omega⟩, by repeat (first | exact Drawn0.refl _ | apply Drawn0.step)⟩
   ·rw [if_neg c2] at H
    have c2b0 : decide (x3_1 < (l0.length : Int)) = false := decide_eq_false c2
    clear c2
    obtain rfl := Option.some.inj H
    go_wp2
    repeat (go_quiet (fail); try go_wp2)
    go_ret
    exact ⟨by first | rfl | (simp; done) | (simp [*]; done), by repeat (first | exact Drawn0.refl _ | apply Drawn0.step)⟩
/-! ### scarfjointref06_Injective: function 25 -/
def scarfjointref06_Injective.f (k : Nat) (l0_0 : List Int) (l0_1 : List (S94)) (l1_0 : List Int) (l1_1 : List (S94)) (l2_0 : List Int) (l2_1 : List Int) : Option (Bool) := (scarfjointref06_Valid.f l0_0 l0_1 l1_0 l1_1 l2_0 l2_1).bind fun t104 => (if t104 = 0 then ((scarfjointref06_Distinct.f k l2_0).bind fun t105 => (if t105 = true then ((scarfjointref06_Distinct.f k l2_1).bind fun t106 => (some t106)) else (some false))) else (some false))
theorem scarfjointref06_Injective.mono : ∀ a0 a1 a2 a3 a4 a5 k, LeO (scarfjointref06_Injective.f k a0 a1 a2 a3 a4 a5) (scarfjointref06_Injective.f (k + 1) a0 a1 a2 a3 a4 a5) := by
 intro a0 a1 a2 a3 a4 a5 k
 unfold scarfjointref06_Injective.f
 repeat' first
   | (with_reducible exact scarfjointref06_Distinct.mono _ _)
   | (with_reducible exact LeO.refl _)
   | (with_reducible exact LeO.none _)
   | (with_reducible refine LeO.ite ?_ ?_)
   | (with_reducible refine LeO.bind ?_ (fun _ => ?_))
   | exact scarfjointref06_Distinct.mono _ _
   | exact LeO.none _
   | refine LeO.ite ?_ ?_
   | refine LeO.bind ?_ (fun _ => ?_)
set_option maxHeartbeats 8000000 in
set_option maxRecDepth 100000 in
theorem scarfjointref06_Injective.calls (k : Nat) (A0_0 : Option Addr) (c0_0 : Nat) (l0_0 : List Int) (A0_1 : Option Addr) (c0_1 : Nat) (l0_1 : List (S94)) (A1_0 : Option Addr) (c1_0 : Nat) (l1_0 : List Int) (A1_1 : Option Addr) (c1_1 : Nat) (l1_1 : List (S94)) (A2_0 : Option Addr) (c2_0 : Nat) (l2_0 : List Int) (A2_1 : Option Addr) (c2_1 : Nat) (l2_1 : List Int) (r : Bool) (w : World) (hr0_0 : Kd.C (Kd.int .i64) w A0_0 l0_0.length l0_0) (hc0_0 : l0_0.length ≤ c0_0) (hr0_1 : Kd.C k94 w A0_1 l0_1.length l0_1) (hc0_1 : l0_1.length ≤ c0_1) (hr1_0 : Kd.C (Kd.int .i64) w A1_0 l1_0.length l1_0) (hc1_0 : l1_0.length ≤ c1_0) (hr1_1 : Kd.C k94 w A1_1 l1_1.length l1_1) (hc1_1 : l1_1.length ≤ c1_1) (hr2_0 : Kd.C (Kd.int .i64) w A2_0 l2_0.length l2_0) (hc2_0 : l2_0.length ≤ c2_0) (hr2_1 : Kd.C (Kd.int .i64) w A2_1 l2_1.length l2_1) (hc2_1 : l2_1.length ≤ c2_1) (h : scarfjointref06_Injective.f k l0_0 l0_1 l1_0 l1_1 l2_0 l2_1 = some r) :
  Calls Try.prog 25 #[.agg #[.slice A0_0 l0_0.length c0_0, .slice A0_1 l0_1.length c0_1], .agg #[.slice A1_0 l1_0.length c1_0, .slice A1_1 l1_1.length c1_1], .agg #[.slice A2_0 l2_0.length c2_0, .slice A2_1 l2_1.length c2_1]] w fun e w' => e = .returned (.bool r) ∧ Below w.heap.size w w' := by
 have hu25 := Try.underlying25
 have hu27 := Try.underlying27
 have HR0_0 := Aside0.mk hr0_0
 have HC0_0 := Aside0.mk hc0_0
 clear hr0_0 hc0_0
 have HR0_1 := Aside0.mk hr0_1
 have HC0_1 := Aside0.mk hc0_1
 clear hr0_1 hc0_1
 have HR1_0 := Aside0.mk hr1_0
 have HC1_0 := Aside0.mk hc1_0
 clear hr1_0 hc1_0
 have HR1_1 := Aside0.mk hr1_1
 have HC1_1 := Aside0.mk hc1_1
 clear hr1_1 hc1_1
 have HR2_0 := Aside0.mk hr2_0
 have HC2_0 := Aside0.mk hc2_0
 clear hr2_0 hc2_0
 have HR2_1 := Aside0.mk hr2_1
 have HC2_1 := Aside0.mk hc2_1
 clear hr2_1 hc2_1
 have HB := Aside0.mk (Below.refl w.heap.size w)
 have H : ((scarfjointref06_Valid.f l0_0 l0_1 l1_0 l1_1 l2_0 l2_1).bind fun t104 => (if t104 = 0 then ((scarfjointref06_Distinct.f k l2_0).bind fun t105 => (if t105 = true then ((scarfjointref06_Distinct.f k l2_1).bind fun t106 => (some t106)) else (some false))) else (some false))) = some r := h
 clear h
 replace H := Option.bind_eq_some_iff.mp H
 obtain ⟨t104, A40, H⟩ := H
 replace H : (if t104 = 0 then ((scarfjointref06_Distinct.f k l2_0).bind fun t105 => (if t105 = true then ((scarfjointref06_Distinct.f k l2_1).bind fun t106 => (some t106)) else (some false))) else (some false)) = some r := H
 have A4 := Aside0.mk A40
 clear A40
 by_cases c5 : t104 = 0
 ·rw [if_pos c5] at H
  have c5b0 : (t104 == 0) = true := beq_iff_eq.mpr c5
  have c5b1 : (t104 != 0) = false := bne_eq_false_iff_eq.mpr c5
  clear c5
  replace H := Option.bind_eq_some_iff.mp H
  obtain ⟨t105, A60, H⟩ := H
  replace H : (if t105 = true then ((scarfjointref06_Distinct.f k l2_1).bind fun t106 => (some t106)) else (some false)) = some r := H
  have A6 := Aside0.mk A60
  clear A60
  by_cases c7 : t105 = true
  ·subst c7
   have H1 : ((scarfjointref06_Distinct.f k l2_1).bind fun t106 => (some t106)) = some r := by rw [if_pos rfl] at H; exact H
   clear H
   have H := H1
   clear H1
   replace H := Option.bind_eq_some_iff.mp H
   obtain ⟨t106, A80, H⟩ := H
   replace H : (some t106) = some r := H
   have A8 := Aside0.mk A80
   clear A80
   obtain rfl := Option.some.inj H
   go_enter Try.func25, Try.ntmps25
   go_wp2_with (first | ((with_reducible refine gate_dst (N := 3) rfl ?_); refine box_event ?hg (N := 3) ?hd (cs := #[.slice A0_0 l0_0.length c0_0, .slice A0_1 l0_1.length c0_1]) (t := 25) ?hr ?_; (case hd => rfl); (case hg => rfl); (case hr => first | (go_simp; done) | (go_simp; rfl)); intro Q03 hg w9 hbox hb; have Q00 := Aside0.mk (hbox); have Q0f := Aside0.mk ((by rw [hg]; exact (below_size hB) : w.heap.size ≤ Q03)); have Q06 := Aside0.mk ((by rw [hg]; exact (below_size hB) : w.heap.size ≤ Q03)); replace HB := uH HB hb; clear hb hbox hg) | ((with_reducible refine gate_dst (N := 4) rfl ?_); refine box_event ?hg (N := 4) ?hd (cs := #[.slice A1_0 l1_0.length c1_0, .slice A1_1 l1_1.length c1_1]) (t := 25) ?hr ?_; (case hd => rfl); (case hg => rfl); (case hr => first | (go_simp; done) | (go_simp; rfl)); intro Q05 hg w10 hbox hb; have Q01 := Aside0.mk (hbox); have Q0g := uS HB hg; have Q07 := uS HB hg; replace HB := uH HB hb; have Q08 := uL Q00 hg; have Q09 := uG Q00 hg; replace Q00 := uB Q00 hb; clear hb hbox hg) | ((with_reducible refine gate_dst (N := 5) rfl ?_); refine box_event ?hg (N := 5) ?hd (cs := #[.slice A2_0 l2_0.length c2_0, .slice A2_1 l2_1.length c2_1]) (t := 27) ?hr ?_; (case hd => rfl); (case hg => rfl); (case hr => first | (go_simp; done) | (go_simp; rfl)); intro Q04 hg w11 hbox hb; have Q02 := Aside0.mk (hbox); have Q0h := uS HB hg; have Q0a := uS HB hg; replace HB := uH HB hb; have Q0b := uL Q00 hg; have Q0c := uG Q00 hg; replace Q00 := uB Q00 hb; have Q0d := uL Q01 hg; have Q0e := uG Q01 hg; replace Q01 := uB Q01 hb; clear hb hbox hg; have Q0i := Q08.out; have Q0j := Q09.out; have Q0k := Q0b.out; have Q0l := Q0c.out; have Q0m : w11.cell? ⟨Q03, 0, none⟩ = some (.slice A0_0 l0_0.length c0_0) := bC Q00 0; have Q0n : w11.cell? ⟨Q03, 1, none⟩ = some (.slice A0_1 l0_1.length c0_1) := bC Q00 1; have Q0o := blk_frozen Q00.out 0; have Q0p := blk_frozen Q00.out 1; have Q0q := Q0d.out; have Q0r := Q0e.out; have Q0s : w11.cell? ⟨Q05, 0, none⟩ = some (.slice A1_0 l1_0.length c1_0) := bC Q01 0; have Q0t : w11.cell? ⟨Q05, 1, none⟩ = some (.slice A1_1 l1_1.length c1_1) := bC Q01 1; have Q0u := blk_frozen Q01.out 0; have Q0v := blk_frozen Q01.out 1; have Q0w : w11.cell? ⟨Q04, 0, none⟩ = some (.slice A2_0 l2_0.length c2_0) := bC Q02 0; have Q0x : w11.cell? ⟨Q04, 1, none⟩ = some (.slice A2_1 l2_1.length c2_1) := bC Q02 1; have Q0y := blk_frozen Q02.out 0; have Q0z := blk_frozen Q02.out 1) | ((with_reducible refine gate_callee (f := 44) rfl ?_); refine goesL_ (some 10) rfl rfl Try.func44 (by kernel_rfl) rfl #[.agg #[.slice A0_0 l0_0.length c0_0, .slice A0_1 l0_1.length c0_1], .agg #[.slice A1_0 l1_0.length c1_0, .slice A1_1 l1_1.length c1_1], .agg #[.slice A2_0 l2_0.length c2_0, .slice A2_1 l2_1.length c2_1]] rfl aM ?_; (with_reducible refine (scarfjointref06_Valid.calls _ _ l0_0 _ _ l0_1 _ _ l1_0 _ _ l1_1 _ _ l2_0 _ _ l2_1 t104 _ ?side1 ?side2 ?side3 ?side4 ?side5 ?side6 ?side7 ?side8 ?side9 ?side10 ?side11 ?side12 A4.out).mono ?_); (case side1 => exact cX (cB HR0_0.out HB.out)); (case side2 => exact HC0_0.out); (case side3 => exact cX (cB HR0_1.out HB.out)); (case side4 => exact HC0_1.out); (case side5 => exact cX (cB HR1_0.out HB.out)); (case side6 => exact HC1_0.out); (case side7 => exact cX (cB HR1_1.out HB.out)); (case side8 => exact HC1_1.out); (case side9 => exact cX (cB HR2_0.out HB.out)); (case side10 => exact HC2_0.out); (case side11 => exact cX (cB HR2_1.out HB.out)); (case side12 => exact HC2_1.out); rintro e w18 ⟨rfl, hb⟩; refine ⟨_, rfl, ?_⟩; replace Q00 := uB Q00 hb; replace Q01 := uB Q01 hb; replace Q02 := uB Q02 hb; replace HB := uH HB hb; (try clear hb); (try clear hb2); (try clear hk); (try clear hi); have Q10 : w18.cell? ⟨Q04, 0, none⟩ = some (.slice A2_0 l2_0.length c2_0) := bC Q02 0; have Q11 : w18.cell? ⟨Q04, 1, none⟩ = some (.slice A2_1 l2_1.length c2_1) := bC Q02 1; have Q12 := blk_frozen Q02.out 0; have Q13 := blk_frozen Q02.out 1) | (go_at_call 57; (with_reducible refine (scarfjointref06_Distinct.calls k _ _ l2_0 true _ ?side1 ?side2 A6.out).mono ?_); (case side1 => exact cX (cB HR2_0.out HB.out)); (case side2 => exact HC2_0.out); rintro e w' ⟨rfl, ⟨nd, rfl⟩⟩) | (go_at_call 57; (with_reducible refine (scarfjointref06_Distinct.calls k _ _ l2_1 t106 _ ?side1 ?side2 A8.out).mono ?_); (case side1 => repeat (first | exact (cB HR2_1.out (pH HB)) | (with_reducible refine cA ?_ _) | (with_reducible refine cN ?_ _) | (with_reducible refine cD ?_))); (case side2 => exact HC2_1.out); rintro e w' ⟨rfl, ⟨nd, rfl⟩⟩))
   go_ret
   exact ⟨by first | rfl | (simp [errW_none, errW_some] <;> rfl) | (simp [*, errW_none, errW_some] <;> rfl), by repeat (first | (with_reducible first | exact HB.out | apply wA | apply wN | apply wD | refine below_set ?_ Q06.out | refine below_set ?_ Q07.out | refine below_set ?_ Q0a.out) | exact HB.out)⟩
  ·replace c7 := Bool.eq_false_iff.mpr c7
   subst c7
   have H1 : (some false) = some r := by rw [if_neg (show ¬ (false = true) by decide)] at H; exact H
   clear H
   have H := H1
   clear H1
   obtain rfl := Option.some.inj H
   go_enter Try.func25, Try.ntmps25
   go_wp2_with (first | ((with_reducible refine gate_dst (N := 3) rfl ?_); refine box_event ?hg (N := 3) ?hd (cs := #[.slice A0_0 l0_0.length c0_0, .slice A0_1 l0_1.length c0_1]) (t := 25) ?hr ?_; (case hd => rfl); (case hg => rfl); (case hr => first | (go_simp; done) | (go_simp; rfl)); intro Q03 hg w20 hbox hb; have Q00 := Aside0.mk (hbox); have Q0f := Aside0.mk ((by rw [hg]; exact (below_size hB) : w.heap.size ≤ Q03)); have Q06 := Aside0.mk ((by rw [hg]; exact (below_size hB) : w.heap.size ≤ Q03)); replace HB := uH HB hb; clear hb hbox hg) | ((with_reducible refine gate_dst (N := 4) rfl ?_); refine box_event ?hg (N := 4) ?hd (cs := #[.slice A1_0 l1_0.length c1_0, .slice A1_1 l1_1.length c1_1]) (t := 25) ?hr ?_; (case hd => rfl); (case hg => rfl); (case hr => first | (go_simp; done) | (go_simp; rfl)); intro Q05 hg w21 hbox hb; have Q01 := Aside0.mk (hbox); have Q0g := uS HB hg; have Q07 := uS HB hg; replace HB := uH HB hb; have Q08 := uL Q00 hg; have Q09 := uG Q00 hg; replace Q00 := uB Q00 hb; clear hb hbox hg) | ((with_reducible refine gate_dst (N := 5) rfl ?_); refine box_event ?hg (N := 5) ?hd (cs := #[.slice A2_0 l2_0.length c2_0, .slice A2_1 l2_1.length c2_1]) (t := 27) ?hr ?_; (case hd => rfl); (case hg => rfl); (case hr => first | (go_simp; done) | (go_simp; rfl)); intro Q04 hg w22 hbox hb; have Q02 := Aside0.mk (hbox); have Q0h := uS HB hg; have Q0a := uS HB hg; replace HB := uH HB hb; have Q0b := uL Q00 hg; have Q0c := uG Q00 hg; replace Q00 := uB Q00 hb; have Q0d := uL Q01 hg; have Q0e := uG Q01 hg; replace Q01 := uB Q01 hb; clear hb hbox hg; have Q14 := Q08.out; have Q15 := Q09.out; have Q16 := Q0b.out; have Q17 := Q0c.out; have Q18 : w22.cell? ⟨Q03, 0, none⟩ = some (.slice A0_0 l0_0.length c0_0) := bC Q00 0; have Q19 : w22.cell? ⟨Q03, 1, none⟩ = some (.slice A0_1 l0_1.length c0_1) := bC Q00 1; have Q1a := blk_frozen Q00.out 0; have Q1b := blk_frozen Q00.out 1; have Q1c := Q0d.out; have Q1d := Q0e.out; have Q1e : w22.cell? ⟨Q05, 0, none⟩ = some (.slice A1_0 l1_0.length c1_0) := bC Q01 0; have Q1f : w22.cell? ⟨Q05, 1, none⟩ = some (.slice A1_1 l1_1.length c1_1) := bC Q01 1; have Q1g := blk_frozen Q01.out 0; have Q1h := blk_frozen Q01.out 1; have Q1i : w22.cell? ⟨Q04, 0, none⟩ = some (.slice A2_0 l2_0.length c2_0) := bC Q02 0; have Q1j : w22.cell? ⟨Q04, 1, none⟩ = some (.slice A2_1 l2_1.length c2_1) := bC Q02 1; have Q1k := blk_frozen Q02.out 0; have Q1l := blk_frozen Q02.out 1) | ((with_reducible refine gate_callee (f := 44) rfl ?_); refine goesL_ (some 10) rfl rfl Try.func44 (by kernel_rfl) rfl #[.agg #[.slice A0_0 l0_0.length c0_0, .slice A0_1 l0_1.length c0_1], .agg #[.slice A1_0 l1_0.length c1_0, .slice A1_1 l1_1.length c1_1], .agg #[.slice A2_0 l2_0.length c2_0, .slice A2_1 l2_1.length c2_1]] rfl aM ?_; (with_reducible refine (scarfjointref06_Valid.calls _ _ l0_0 _ _ l0_1 _ _ l1_0 _ _ l1_1 _ _ l2_0 _ _ l2_1 t104 _ ?side1 ?side2 ?side3 ?side4 ?side5 ?side6 ?side7 ?side8 ?side9 ?side10 ?side11 ?side12 A4.out).mono ?_); (case side1 => exact cX (cB HR0_0.out HB.out)); (case side2 => exact HC0_0.out); (case side3 => exact cX (cB HR0_1.out HB.out)); (case side4 => exact HC0_1.out); (case side5 => exact cX (cB HR1_0.out HB.out)); (case side6 => exact HC1_0.out); (case side7 => exact cX (cB HR1_1.out HB.out)); (case side8 => exact HC1_1.out); (case side9 => exact cX (cB HR2_0.out HB.out)); (case side10 => exact HC2_0.out); (case side11 => exact cX (cB HR2_1.out HB.out)); (case side12 => exact HC2_1.out); rintro e w29 ⟨rfl, hb⟩; refine ⟨_, rfl, ?_⟩; replace Q00 := uB Q00 hb; replace Q01 := uB Q01 hb; replace Q02 := uB Q02 hb; replace HB := uH HB hb; (try clear hb); (try clear hb2); (try clear hk); (try clear hi); have Q1m : w29.cell? ⟨Q04, 0, none⟩ = some (.slice A2_0 l2_0.length c2_0) := bC Q02 0; have Q1n : w29.cell? ⟨Q04, 1, none⟩ = some (.slice A2_1 l2_1.length c2_1) := bC Q02 1; have Q1o := blk_frozen Q02.out 0; have Q1p := blk_frozen Q02.out 1) | (go_at_call 57; (with_reducible refine (scarfjointref06_Distinct.calls k _ _ l2_0 false _ ?side1 ?side2 A6.out).mono ?_); (case side1 => exact cX (cB HR2_0.out HB.out)); (case side2 => exact HC2_0.out); rintro e w' ⟨rfl, ⟨nd, rfl⟩⟩))
   go_ret
   exact ⟨by first | rfl | (simp [errW_none, errW_some] <;> rfl) | (simp [*, errW_none, errW_some] <;> rfl), by repeat (first | (with_reducible first | exact HB.out | apply wA | apply wN | apply wD | refine below_set ?_ Q06.out | refine below_set ?_ Q07.out | refine below_set ?_ Q0a.out) | exact HB.out)⟩
 ·rw [if_neg c5] at H
  have c5b0 : (t104 == 0) = false := beq_eq_false_iff_ne.mpr c5
  have c5b1 : (t104 != 0) = true := bne_iff_ne.mpr c5
  obtain rfl := Option.some.inj H
  go_enter Try.func25, Try.ntmps25
  go_wp2_with (first | ((with_reducible refine gate_dst (N := 3) rfl ?_); refine box_event ?hg (N := 3) ?hd (cs := #[.slice A0_0 l0_0.length c0_0, .slice A0_1 l0_1.length c0_1]) (t := 25) ?hr ?_; (case hd => rfl); (case hg => rfl); (case hr => first | (go_simp; done) | (go_simp; rfl)); intro Q03 hg w31 hbox hb; have Q00 := Aside0.mk (hbox); have Q0f := Aside0.mk ((by rw [hg]; exact (below_size hB) : w.heap.size ≤ Q03)); have Q06 := Aside0.mk ((by rw [hg]; exact (below_size hB) : w.heap.size ≤ Q03)); replace HB := uH HB hb; clear hb hbox hg) | ((with_reducible refine gate_dst (N := 4) rfl ?_); refine box_event ?hg (N := 4) ?hd (cs := #[.slice A1_0 l1_0.length c1_0, .slice A1_1 l1_1.length c1_1]) (t := 25) ?hr ?_; (case hd => rfl); (case hg => rfl); (case hr => first | (go_simp; done) | (go_simp; rfl)); intro Q05 hg w32 hbox hb; have Q01 := Aside0.mk (hbox); have Q0g := uS HB hg; have Q07 := uS HB hg; replace HB := uH HB hb; have Q08 := uL Q00 hg; have Q09 := uG Q00 hg; replace Q00 := uB Q00 hb; clear hb hbox hg) | ((with_reducible refine gate_dst (N := 5) rfl ?_); refine box_event ?hg (N := 5) ?hd (cs := #[.slice A2_0 l2_0.length c2_0, .slice A2_1 l2_1.length c2_1]) (t := 27) ?hr ?_; (case hd => rfl); (case hg => rfl); (case hr => first | (go_simp; done) | (go_simp; rfl)); intro Q04 hg w33 hbox hb; have Q02 := Aside0.mk (hbox); have Q0h := uS HB hg; have Q0a := uS HB hg; replace HB := uH HB hb; have Q0b := uL Q00 hg; have Q0c := uG Q00 hg; replace Q00 := uB Q00 hb; have Q0d := uL Q01 hg; have Q0e := uG Q01 hg; replace Q01 := uB Q01 hb; clear hb hbox hg; have Q1q := Q08.out; have Q1r := Q09.out; have Q1s := Q0b.out; have Q1t := Q0c.out; have Q1u : w33.cell? ⟨Q03, 0, none⟩ = some (.slice A0_0 l0_0.length c0_0) := bC Q00 0; have Q1v : w33.cell? ⟨Q03, 1, none⟩ = some (.slice A0_1 l0_1.length c0_1) := bC Q00 1; have Q1w := blk_frozen Q00.out 0; have Q1x := blk_frozen Q00.out 1; have Q1y := Q0d.out; have Q1z := Q0e.out; have Q20 : w33.cell? ⟨Q05, 0, none⟩ = some (.slice A1_0 l1_0.length c1_0) := bC Q01 0; have Q21 : w33.cell? ⟨Q05, 1, none⟩ = some (.slice A1_1 l1_1.length c1_1) := bC Q01 1; have Q22 := blk_frozen Q01.out 0; have Q23 := blk_frozen Q01.out 1; have Q24 : w33.cell? ⟨Q04, 0, none⟩ = some (.slice A2_0 l2_0.length c2_0) := bC Q02 0; have Q25 : w33.cell? ⟨Q04, 1, none⟩ = some (.slice A2_1 l2_1.length c2_1) := bC Q02 1; have Q26 := blk_frozen Q02.out 0; have Q27 := blk_frozen Q02.out 1) | ((with_reducible refine gate_callee (f := 44) rfl ?_); refine goesL_ (some 10) rfl rfl Try.func44 (by kernel_rfl) rfl #[.agg #[.slice A0_0 l0_0.length c0_0, .slice A0_1 l0_1.length c0_1], .agg #[.slice A1_0 l1_0.length c1_0, .slice A1_1 l1_1.length c1_1], .agg #[.slice A2_0 l2_0.length c2_0, .slice A2_1 l2_1.length c2_1]] rfl aM ?_; (with_reducible refine (scarfjointref06_Valid.calls _ _ l0_0 _ _ l0_1 _ _ l1_0 _ _ l1_1 _ _ l2_0 _ _ l2_1 t104 _ ?side1 ?side2 ?side3 ?side4 ?side5 ?side6 ?side7 ?side8 ?side9 ?side10 ?side11 ?side12 A4.out).mono ?_); (case side1 => exact cX (cB HR0_0.out HB.out)); (case side2 => exact HC0_0.out); (case side3 => exact cX (cB HR0_1.out HB.out)); (case side4 => exact HC0_1.out); (case side5 => exact cX (cB HR1_0.out HB.out)); (case side6 => exact HC1_0.out); (case side7 => exact cX (cB HR1_1.out HB.out)); (case side8 => exact HC1_1.out); (case side9 => exact cX (cB HR2_0.out HB.out)); (case side10 => exact HC2_0.out); (case side11 => exact cX (cB HR2_1.out HB.out)); (case side12 => exact HC2_1.out); rintro e w40 ⟨rfl, hb⟩; refine ⟨_, rfl, ?_⟩; replace Q00 := uB Q00 hb; replace Q01 := uB Q01 hb; replace Q02 := uB Q02 hb; replace HB := uH HB hb; (try clear hb); (try clear hb2); (try clear hk); (try clear hi)))
  go_ret
  exact ⟨by first | rfl | (simp [errW_none, errW_some] <;> rfl) | (simp [*, errW_none, errW_some] <;> rfl), by repeat (first | (with_reducible first | exact HB.out | apply wA | apply wN | apply wD | refine below_set ?_ Q06.out | refine below_set ?_ Q07.out | refine below_set ?_ Q0a.out) | exact HB.out)⟩
/-! ### scarfjointref07_Same: function 28 -/
def scarfjointref07_Same.f (k : Nat) (l0_0 : List Int) (l0_1 : List Int) (l1_0 : List Int) (l1_1 : List Int) : Option (Bool) := (scarfjointref05_SameInts.f k l0_0 l1_0).bind fun t103 => (if t103 = true then ((scarfjointref05_SameInts.f k l0_1 l1_1).bind fun t104 => (some t104)) else (some false))
theorem scarfjointref07_Same.mono : ∀ a0 a1 a2 a3 k, LeO (scarfjointref07_Same.f k a0 a1 a2 a3) (scarfjointref07_Same.f (k + 1) a0 a1 a2 a3) := by
 intro a0 a1 a2 a3 k
 unfold scarfjointref07_Same.f
 repeat' first
   | (with_reducible exact scarfjointref05_SameInts.mono _ _ _)
   | (with_reducible exact LeO.refl _)
   | (with_reducible exact LeO.none _)
   | (with_reducible refine LeO.ite ?_ ?_)
   | (with_reducible refine LeO.bind ?_ (fun _ => ?_))
   | exact scarfjointref05_SameInts.mono _ _ _
   | exact LeO.none _
   | refine LeO.ite ?_ ?_
   | refine LeO.bind ?_ (fun _ => ?_)
set_option maxHeartbeats 8000000 in
set_option maxRecDepth 100000 in
theorem scarfjointref07_Same.calls (k : Nat) (A0_0 : Option Addr) (c0_0 : Nat) (l0_0 : List Int) (A0_1 : Option Addr) (c0_1 : Nat) (l0_1 : List Int) (A1_0 : Option Addr) (c1_0 : Nat) (l1_0 : List Int) (A1_1 : Option Addr) (c1_1 : Nat) (l1_1 : List Int) (r : Bool) (w : World) (hr0_0 : Kd.C (Kd.int .i64) w A0_0 l0_0.length l0_0) (hc0_0 : l0_0.length ≤ c0_0) (hr0_1 : Kd.C (Kd.int .i64) w A0_1 l0_1.length l0_1) (hc0_1 : l0_1.length ≤ c0_1) (hr1_0 : Kd.C (Kd.int .i64) w A1_0 l1_0.length l1_0) (hc1_0 : l1_0.length ≤ c1_0) (hr1_1 : Kd.C (Kd.int .i64) w A1_1 l1_1.length l1_1) (hc1_1 : l1_1.length ≤ c1_1) (h : scarfjointref07_Same.f k l0_0 l0_1 l1_0 l1_1 = some r) :
  Calls Try.prog 28 #[.agg #[.slice A0_0 l0_0.length c0_0, .slice A0_1 l0_1.length c0_1], .agg #[.slice A1_0 l1_0.length c1_0, .slice A1_1 l1_1.length c1_1]] w fun e w' => e = .returned (.bool r) ∧ Below w.heap.size w w' := by
 have hu60 := Try.underlying60
 have HR0_0 := Aside0.mk hr0_0
 have HC0_0 := Aside0.mk hc0_0
 clear hr0_0 hc0_0
 have HR0_1 := Aside0.mk hr0_1
 have HC0_1 := Aside0.mk hc0_1
 clear hr0_1 hc0_1
 have HR1_0 := Aside0.mk hr1_0
 have HC1_0 := Aside0.mk hc1_0
 clear hr1_0 hc1_0
 have HR1_1 := Aside0.mk hr1_1
 have HC1_1 := Aside0.mk hc1_1
 clear hr1_1 hc1_1
 have HB := Aside0.mk (Below.refl w.heap.size w)
 have H : ((scarfjointref05_SameInts.f k l0_0 l1_0).bind fun t103 => (if t103 = true then ((scarfjointref05_SameInts.f k l0_1 l1_1).bind fun t104 => (some t104)) else (some false))) = some r := h
 clear h
 replace H := Option.bind_eq_some_iff.mp H
 obtain ⟨t103, A30, H⟩ := H
 replace H : (if t103 = true then ((scarfjointref05_SameInts.f k l0_1 l1_1).bind fun t104 => (some t104)) else (some false)) = some r := H
 have A3 := Aside0.mk A30
 clear A30
 by_cases c4 : t103 = true
 ·subst c4
  have H1 : ((scarfjointref05_SameInts.f k l0_1 l1_1).bind fun t104 => (some t104)) = some r := by rw [if_pos rfl] at H; exact H
  clear H
  have H := H1
  clear H1
  replace H := Option.bind_eq_some_iff.mp H
  obtain ⟨t104, A50, H⟩ := H
  replace H : (some t104) = some r := H
  have A5 := Aside0.mk A50
  clear A50
  obtain rfl := Option.some.inj H
  go_enter Try.func28, Try.ntmps28
  go_wp2_with (first | ((with_reducible refine gate_dst (N := 2) rfl ?_); refine box_event ?hg (N := 2) ?hd (cs := #[.slice A0_0 l0_0.length c0_0, .slice A0_1 l0_1.length c0_1]) (t := 60) ?hr ?_; (case hd => rfl); (case hg => rfl); (case hr => first | (go_simp; done) | (go_simp; rfl)); intro Q01 hg w6 hbox hb; have Q00 := Aside0.mk (hbox); have Q08 := Aside0.mk ((by rw [hg]; exact (below_size hB) : w.heap.size ≤ Q01)); have Q04 := Aside0.mk ((by rw [hg]; exact (below_size hB) : w.heap.size ≤ Q01)); replace HB := uH HB hb; clear hb hbox hg) | ((with_reducible refine gate_dst (N := 3) rfl ?_); refine box_event ?hg (N := 3) ?hd (cs := #[.slice A1_0 l1_0.length c1_0, .slice A1_1 l1_1.length c1_1]) (t := 60) ?hr ?_; (case hd => rfl); (case hg => rfl); (case hr => first | (go_simp; done) | (go_simp; rfl)); intro Q03 hg w7 hbox hb; have Q02 := Aside0.mk (hbox); have Q09 := uS HB hg; have Q05 := uS HB hg; replace HB := uH HB hb; have Q06 := uL Q00 hg; have Q07 := uG Q00 hg; replace Q00 := uB Q00 hb; clear hb hbox hg; have Q0a := Q06.out; have Q0b := Q07.out; have Q0c : w7.cell? ⟨Q01, 0, none⟩ = some (.slice A0_0 l0_0.length c0_0) := bC Q00 0; have Q0d : w7.cell? ⟨Q01, 1, none⟩ = some (.slice A0_1 l0_1.length c0_1) := bC Q00 1; have Q0e := blk_frozen Q00.out 0; have Q0f := blk_frozen Q00.out 1; have Q0g : w7.cell? ⟨Q03, 0, none⟩ = some (.slice A1_0 l1_0.length c1_0) := bC Q02 0; have Q0h : w7.cell? ⟨Q03, 1, none⟩ = some (.slice A1_1 l1_1.length c1_1) := bC Q02 1; have Q0i := blk_frozen Q02.out 0; have Q0j := blk_frozen Q02.out 1) | ((with_reducible refine gate_callee (f := 61) rfl ?_); refine goesL_ (some 9) rfl rfl Try.func61 (by kernel_rfl) rfl #[.slice A0_0 l0_0.length c0_0, .slice A1_0 l1_0.length c1_0] rfl aM ?_; (with_reducible refine (scarfjointref05_SameInts.calls k _ _ l0_0 _ _ l1_0 true _ ?side1 ?side2 ?side3 ?side4 A3.out).mono ?_); (case side1 => exact cX (cB HR0_0.out HB.out)); (case side2 => exact HC0_0.out); (case side3 => exact cX (cB HR1_0.out HB.out)); (case side4 => exact HC1_0.out); rintro e w' ⟨rfl, ⟨nd, rfl⟩⟩; refine ⟨_, rfl, ?_⟩) | (go_at_call 61; (with_reducible refine (scarfjointref05_SameInts.calls k _ _ l0_1 _ _ l1_1 t104 _ ?side1 ?side2 ?side3 ?side4 A5.out).mono ?_); (case side1 => repeat (first | exact (cB HR0_1.out (pH HB)) | (with_reducible refine cA ?_ _) | (with_reducible refine cN ?_ _) | (with_reducible refine cD ?_))); (case side2 => exact HC0_1.out); (case side3 => repeat (first | exact (cB HR1_1.out (pH HB)) | (with_reducible refine cA ?_ _) | (with_reducible refine cN ?_ _) | (with_reducible refine cD ?_))); (case side4 => exact HC1_1.out); rintro e w' ⟨rfl, ⟨nd, rfl⟩⟩))
  go_ret
  exact ⟨by first | rfl | (simp [errW_none, errW_some] <;> rfl) | (simp [*, errW_none, errW_some] <;> rfl), by repeat (first | (with_reducible first | exact HB.out | apply wA | apply wN | apply wD | refine below_set ?_ Q04.out | refine below_set ?_ Q05.out) | exact HB.out)⟩
 ·replace c4 := Bool.eq_false_iff.mpr c4
  subst c4
  have H1 : (some false) = some r := by rw [if_neg (show ¬ (false = true) by decide)] at H; exact H
  clear H
  have H := H1
  clear H1
  obtain rfl := Option.some.inj H
  go_enter Try.func28, Try.ntmps28
  go_wp2_with (first | ((with_reducible refine gate_dst (N := 2) rfl ?_); refine box_event ?hg (N := 2) ?hd (cs := #[.slice A0_0 l0_0.length c0_0, .slice A0_1 l0_1.length c0_1]) (t := 60) ?hr ?_; (case hd => rfl); (case hg => rfl); (case hr => first | (go_simp; done) | (go_simp; rfl)); intro Q01 hg w11 hbox hb; have Q00 := Aside0.mk (hbox); have Q08 := Aside0.mk ((by rw [hg]; exact (below_size hB) : w.heap.size ≤ Q01)); have Q04 := Aside0.mk ((by rw [hg]; exact (below_size hB) : w.heap.size ≤ Q01)); replace HB := uH HB hb; clear hb hbox hg) | ((with_reducible refine gate_dst (N := 3) rfl ?_); refine box_event ?hg (N := 3) ?hd (cs := #[.slice A1_0 l1_0.length c1_0, .slice A1_1 l1_1.length c1_1]) (t := 60) ?hr ?_; (case hd => rfl); (case hg => rfl); (case hr => first | (go_simp; done) | (go_simp; rfl)); intro Q03 hg w12 hbox hb; have Q02 := Aside0.mk (hbox); have Q09 := uS HB hg; have Q05 := uS HB hg; replace HB := uH HB hb; have Q06 := uL Q00 hg; have Q07 := uG Q00 hg; replace Q00 := uB Q00 hb; clear hb hbox hg; have Q0k := Q06.out; have Q0l := Q07.out; have Q0m : w12.cell? ⟨Q01, 0, none⟩ = some (.slice A0_0 l0_0.length c0_0) := bC Q00 0; have Q0n : w12.cell? ⟨Q01, 1, none⟩ = some (.slice A0_1 l0_1.length c0_1) := bC Q00 1; have Q0o := blk_frozen Q00.out 0; have Q0p := blk_frozen Q00.out 1; have Q0q : w12.cell? ⟨Q03, 0, none⟩ = some (.slice A1_0 l1_0.length c1_0) := bC Q02 0; have Q0r : w12.cell? ⟨Q03, 1, none⟩ = some (.slice A1_1 l1_1.length c1_1) := bC Q02 1; have Q0s := blk_frozen Q02.out 0; have Q0t := blk_frozen Q02.out 1) | ((with_reducible refine gate_callee (f := 61) rfl ?_); refine goesL_ (some 9) rfl rfl Try.func61 (by kernel_rfl) rfl #[.slice A0_0 l0_0.length c0_0, .slice A1_0 l1_0.length c1_0] rfl aM ?_; (with_reducible refine (scarfjointref05_SameInts.calls k _ _ l0_0 _ _ l1_0 false _ ?side1 ?side2 ?side3 ?side4 A3.out).mono ?_); (case side1 => exact cX (cB HR0_0.out HB.out)); (case side2 => exact HC0_0.out); (case side3 => exact cX (cB HR1_0.out HB.out)); (case side4 => exact HC1_0.out); rintro e w' ⟨rfl, ⟨nd, rfl⟩⟩; refine ⟨_, rfl, ?_⟩))
  go_ret
  exact ⟨by first | rfl | (simp [errW_none, errW_some] <;> rfl) | (simp [*, errW_none, errW_some] <;> rfl), by repeat (first | (with_reducible first | exact HB.out | apply wA | apply wN | apply wD | refine below_set ?_ Q04.out | refine below_set ?_ Q05.out) | exact HB.out)⟩
end Go.Proofs.Ytillofiphkmjjaa.X

/- Plain laws: distinct numbers, injective morphisms. -/
namespace Go.Proofs.Ytillofiphkmjjaa.Pl
open Go.RowKit Go.Proofs.YtillofiphkmjjaaW.PrintWords Go.Proofs.Ytillofiphkmjjaa.X
set_option linter.unusedVariables false
/-! Distinct -/
def dup : List Int → List Int → Bool
 | _, [] => true
 | pre, x :: r => if x ∈ pre then false else dup (pre ++ [x]) r
theorem dup_nodup : ∀ (r pre : List Int), dup pre r = true ↔ (∀ x ∈ r, x ∉ pre) ∧ r.Nodup := by
 intro r
 induction r with
 | nil => intro pre; simp [dup]
 | cons x r ih =>
  intro pre
  unfold dup
  by_cases h : x ∈ pre
  ·rw [if_pos h]
   simp [h]
  ·rw [if_neg h, ih, List.nodup_cons]
   constructor
   ·rintro ⟨h1, h2⟩
    refine ⟨fun y hy => ?_, fun hx => ?_, h2⟩
    ·rcases List.mem_cons.mp hy with rfl | hy
     ·exact h
     ·exact fun hp => h1 y hy (List.mem_append_left _ hp)
    ·exact h1 x hx (by simp)
   ·rintro ⟨h1, h2, h3⟩
    refine ⟨fun y hy hp => ?_, h3⟩
    rcases List.mem_append.mp hp with hp | hp
    ·exact h1 y (List.mem_cons_of_mem _ hy) hp
    ·rw [List.mem_singleton.mp hp] at hy
     exact h2 hy
theorem distinct_l1 (f : List Int) (hf : f.length ≤ 1000000) (p : List Int) (x : Int) (q : List Int) (hp : f = p ++ x :: q) {R : Bool} (hR : Ev (fun k => scarfjointref06_Distinct.l0 k f (wrap64 ((p.length : Int) + 1))) R) : ∀ (r pre : List Int), p = pre ++ r →
  Ev (fun k => scarfjointref06_Distinct.l1 k f (p.length : Int) (pre.length : Int)) (if x ∈ r then false else R) := by
 intro r
 have hlt : (p.length : Int) < (f.length : Int) := by rw [hp]; exact lt_mid p x q
 have hrd : rd f (p.length : Int) = x := by rw [hp]; exact rd_mid p x q
 induction r with
 | nil =>
  rintro pre hpre
  refine Ev.step (fun k => by simp only [scarfjointref06_Distinct.l1]; rw [if_neg (by rw [hpre]; simp)]) ?_
  simpa using hR
 | cons y r ih =>
  rintro pre hpre
  have hl1 : (pre.length : Int) < (p.length : Int) := by rw [hpre]; exact lt_mid pre y r
  have hl2 : (pre.length : Int) < (f.length : Int) := by omega
  have hr2 : rd f (pre.length : Int) = y := by rw [hp, hpre, List.append_assoc]; exact rd_mid pre y _
  have e : wrap64 ((pre.length : Int) + 1) = ((pre ++ [y]).length : Int) := by simp; unfold wrap64; omega
  by_cases hxy : x = y
  ·refine Ev.step (fun k => by simp only [scarfjointref06_Distinct.l1]; rw [if_pos hl1, if_pos (by omega), if_pos hlt, if_pos (by omega), if_pos hl2, hrd, hr2, if_pos hxy]) ?_
   rw [if_pos (by simp [hxy])]
   exact Ev.now _
  ·refine Ev.step (fun k => by simp only [scarfjointref06_Distinct.l1]; rw [if_pos hl1, if_pos (by omega), if_pos hlt, if_pos (by omega), if_pos hl2, hrd, hr2, if_neg hxy, e]) ?_
   have ih' := ih (pre ++ [y]) (by rw [hpre]; exact snoc_mid pre y r)
   have : (x ∈ y :: r) ↔ x ∈ r := by simp [hxy]
   simpa only [this] using ih'
theorem distinct_l0 (f : List Int) (hf : f.length ≤ 1000000) : ∀ (r pre : List Int), f = pre ++ r → Ev (fun k => scarfjointref06_Distinct.l0 k f (pre.length : Int)) (dup pre r) := by
 intro r
 induction r with
 | nil =>
  rintro pre rfl
  refine Ev.step (fun k => by simp only [scarfjointref06_Distinct.l0]; rw [if_neg (by simp)]) ?_
  exact Ev.now _
 | cons x r ih =>
  rintro pre hp
  have hl : (pre.length : Int) < (f.length : Int) := by rw [hp]; exact lt_mid pre x r
  have e : wrap64 ((pre.length : Int) + 1) = ((pre ++ [x]).length : Int) := wrap_mid pre x r (by rw [← hp]; omega)
  refine Ev.step (fun k => by simp only [scarfjointref06_Distinct.l0]; rw [if_pos hl]) ?_
  have ih' := ih (pre ++ [x]) (by rw [hp]; exact snoc_mid pre x r)
  rw [← e] at ih'
  unfold dup
  exact distinct_l1 f hf pre x r hp ih' pre [] rfl
theorem distinct_ev (f : List Int) (hf : f.length ≤ 1000000) : Ev (fun k => scarfjointref06_Distinct.f k f) (decide f.Nodup) := by
 unfold scarfjointref06_Distinct.f
 have h := distinct_l0 f hf f [] rfl
 have e : dup [] f = decide f.Nodup := by
  rw [Bool.eq_iff_iff, dup_nodup]
  simp
 rw [e] at h
 simpa using h
theorem same07_self (a b : List Int) (ha : a.length ≤ 1000000) (hb : b.length ≤ 1000000) : Ev (fun k => scarfjointref07_Same.f k a b a b) true := by
 unfold scarfjointref07_Same.f
 refine Ev.bind (sameInts_self a ha) ?_
 simp only [if_true]
 refine Ev.bind (sameInts_self b hb) ?_
 exact Ev.now _
section
variable {x0 : List Int} {x1 : List S94} {x2 : List Int} {x3 : List S94} {x4 x5 : List Int}
theorem inj_ev (h : mvalid x0 x1 x2 x3 x4 x5 = 0) : Ev (fun k => scarfjointref06_Injective.f k x0 x1 x2 x3 x4 x5) (decide x4.Nodup && decide x5.Nodup) := by
 unfold scarfjointref06_Injective.f scarfjointref06_Valid.f
 simp only [Option.bind_some, if_pos h]
 obtain ⟨-, -, -, -, h1, h2⟩ := mvalid_len h
 refine Ev.bind (distinct_ev x4 (by omega)) ?_
 by_cases hn : x4.Nodup
 ·simp only [hn, decide_true, if_true, Bool.true_and]
  exact Ev.bind (distinct_ev x5 (by omega)) (Ev.now _)
 ·simp only [hn, decide_false, Bool.false_and, Bool.false_eq_true, if_false]
  exact Ev.now _
end
end Go.Proofs.Ytillofiphkmjjaa.Pl

namespace Go.Proofs.Ytillofiphkmjjaa.X
open Go.RowKit Go.Proofs.YtillofiphkmjjaaW.PrintWords Go.Proofs.YtillofiphkmjjaaW.PrintLast Go.Proofs.YtillofiphkmjjaaW.PrintMore
open Go.Proofs.YtillofiphkmjjaaW.PrintWords renaming blk_drewN → bN, blk_drew → bD, blk_alloc → bA, below_alloc → wA, pw_below_drewN → wN, below_drew1 → wD, blk_below → bB, below_step → wS, blk_at → bT, blk_grown → bG
open Go.Proofs.YtillofiphkmjjaaW.PrintWords.Kd renaming R_alloc → rA, R_drewN → rN, R_drew → rD, R_below → rB, R_grown → rG, C_below → cB, C_alloc → cA, C_drewN → cN, C_drew → cD
attribute [local go_sem] max2_int min2_int max_two min_two max_three min_three max_four min_four
set_option linter.unusedVariables false
set_option linter.unusedSimpArgs false
/-! ### scarfjointref07_has: function 79 -/
def scarfjointref07_has.l0 : Nat → List Int → Int → Int → Option (Bool)
 | 0, _, _, _ => none
 | k + 1, x0, x1, x5 => if x5 < (x0.length : Int) then (if 0 ≤ x5 then (if (rd x0 x5) = x1 then (some true) else (scarfjointref07_has.l0 k x0 x1 (wrap64 (x5 + 1)))) else (none)) else (some false)
def scarfjointref07_has.f (k : Nat) (l0 : List Int) (a1 : Int) : Option (Bool) := scarfjointref07_has.l0 k l0 a1 0
theorem scarfjointref07_has.mono_l : ∀ k, (∀ y0 y1 y2, LeO (scarfjointref07_has.l0 k y0 y1 y2) (scarfjointref07_has.l0 (k + 1) y0 y1 y2))
 | 0 => fun _ _ _ r h => by simp [scarfjointref07_has.l0] at h
 | k + 1 => by
  have ih0 := scarfjointref07_has.mono_l k
  ·intro y0 y1 y2
   unfold scarfjointref07_has.l0
   repeat' first
   | (with_reducible exact ih0 _ _ _)
   | (with_reducible exact LeO.refl _)
   | (with_reducible exact LeO.none _)
   | (with_reducible refine LeO.ite ?_ ?_)
   | (with_reducible refine LeO.bind ?_ (fun _ => ?_))
   | exact ih0 _ _ _
   | exact LeO.none _
   | refine LeO.ite ?_ ?_
   | refine LeO.bind ?_ (fun _ => ?_)
theorem scarfjointref07_has.mono : ∀ a0 a1 k, LeO (scarfjointref07_has.f k a0 a1) (scarfjointref07_has.f (k + 1) a0 a1) := by
 intro a0 a1 k
 have ih0 := scarfjointref07_has.mono_l k
 unfold scarfjointref07_has.f
 repeat' first
   | (with_reducible exact ih0 _ _ _)
   | (with_reducible exact LeO.refl _)
   | (with_reducible exact LeO.none _)
   | (with_reducible refine LeO.ite ?_ ?_)
   | (with_reducible refine LeO.bind ?_ (fun _ => ?_))
   | exact ih0 _ _ _
   | exact LeO.none _
   | refine LeO.ite ?_ ?_
   | refine LeO.bind ?_ (fun _ => ?_)
set_option maxHeartbeats 8000000 in
set_option maxRecDepth 100000 in
theorem scarfjointref07_has.calls (k : Nat) (A0 : Option Addr) (c0 : Nat) (l0 : List Int) (a1 : Int) (r : Bool) (w : World) (hr0 : Kd.C (Kd.int .i64) w A0 l0.length l0) (hc0 : l0.length ≤ c0) (h : scarfjointref07_has.f k l0 a1 = some r) :
  Calls Try.prog 79 #[.slice A0 l0.length c0, .int .i64 a1] w fun e w' => e = .returned (.bool r) ∧ Drawn0 w w' := by
 have HR0 := Aside0.mk hr0
 have HC0 := Aside0.mk hc0
 clear hr0 hc0
 have H : (scarfjointref07_has.l0 k l0 a1 0) = some r := h
 clear h
 have H' := Aside0.mk H
 clear H
 go_enter Try.func79, Try.ntmps79
 go_wp2
 go_loopg [5] k (fun kq v5 w' => ∃ (x5_1 : Int), v5 = .int .i64 x5_1 ∧ Aside0 (scarfjointref07_has.l0 kq l0 a1 x5_1 = some r) ∧ Aside0 (kq ≤ k) ∧ Drawn0 w w')
 case atStart => exact ⟨(0), rS, H', ⟨Nat.le_refl _⟩, by repeat (first | exact Drawn0.refl _ | apply Drawn0.step)⟩
 case round =>
  clear H'
  try clear p2
  obtain ⟨x5_1, rfl, HA, HK1, ⟨m1, rfl⟩⟩ := hrel
  cases gk with
  | zero => exact absurd HA.out (by simp [scarfjointref07_has.l0])
  | succ k1 =>
   have H := HA.out
   clear HA
   simp only [scarfjointref07_has.l0] at H
   by_cases c3 : x5_1 < (l0.length : Int)
   ·rw [if_pos c3] at H
    have c3b0 : decide (x5_1 < (l0.length : Int)) = true := decide_eq_true c3
    clear c3
    by_cases c4 : 0 ≤ x5_1
    ·rw [if_pos c4] at H
     have c4b0 : decide (0 ≤ x5_1) = true := decide_eq_true c4
     clear c4
     by_cases c5 : (rd l0 x5_1) = a1
     ·rw [if_pos c5] at H
      have c5b0 : ((rd l0 x5_1) == a1) = true := beq_iff_eq.mpr c5
      have c5b1 : ((rd l0 x5_1) != a1) = false := bne_eq_false_iff_eq.mpr c5
      clear c5
      obtain rfl := Option.some.inj H
      have p101 : 0 ≤ (x5_1 : Int) := oT
      have q101 : x5_1 < (l0.length : Int) := oT
      obtain ⟨ad101, e101, hx101_0⟩ := Kd.at_int HR0.out x5_1 p101 q101
      cases e101
      replace p101 := eq_true p101
      replace q101 := eq_true q101
      go_wp2
      go_ret
      exact ⟨by first | rfl | (simp; done) | (simp [*]; done), by repeat (first | exact Drawn0.refl _ | apply Drawn0.step)⟩
     ·rw [if_neg c5] at H
      have c5b0 : ((rd l0 x5_1) == a1) = false := beq_eq_false_iff_ne.mpr c5
      have c5b1 : ((rd l0 x5_1) != a1) = true := bne_iff_ne.mpr c5
      have H' := Aside0.mk H
      clear H
      have p101 : 0 ≤ (x5_1 : Int) := oT
      have q101 : x5_1 < (l0.length : Int) := oT
      obtain ⟨ad101, e101, hx101_0⟩ := Kd.at_int HR0.out x5_1 p101 q101
      cases e101
      replace p101 := eq_true p101
      replace q101 := eq_true q101
      go_wp2
      go_roundg k1
      case measure => have := HK1.out; omega
      case rel => exact ⟨(wrap64 (x5_1 + 1)), rS, H', ⟨by have := HK1.out; omega⟩, by repeat (first | exact Drawn0.refl _ | apply Drawn0.step)⟩
    ·rw [if_neg c4] at H
     exact absurd H (by simp)
   ·rw [if_neg c3] at H
    have c3b0 : decide (x5_1 < (l0.length : Int)) = false := decide_eq_false c3
    clear c3
    obtain rfl := Option.some.inj H
    go_wp2
    go_ret
    exact ⟨by first | rfl | (simp; done) | (simp [*]; done), by repeat (first | exact Drawn0.refl _ | apply Drawn0.step)⟩
/-! ### scarfjointref07_merged: function 58 -/
mutual
def scarfjointref07_merged.l0 : Nat → Int → List Int → List Int → Bool → List Int → Int → Option (List Int)
 | 0, _, _, _, _, _, _ => none
 | k + 1, x0, x1, x2, x3, x9, x10 => if x10 < x0 then ((scarfjointref07_has.f k x1 x10).bind fun t101 => ((scarfjointref07_has.f k x2 x10).bind fun t102 => (if t101 = true then (if t102 = true then (scarfjointref07_merged.j1 k x0 x1 x2 x3 x9 x10 true) else (if x3 = true then (scarfjointref07_merged.j1 k x0 x1 x2 x3 x9 x10 false) else (scarfjointref07_merged.j1 k x0 x1 x2 x3 x9 x10 true))) else (if x3 = true then (scarfjointref07_merged.j1 k x0 x1 x2 x3 x9 x10 false) else (scarfjointref07_merged.j1 k x0 x1 x2 x3 x9 x10 t102))))) else (some x9)
def scarfjointref07_merged.j1 : Nat → Int → List Int → List Int → Bool → List Int → Int → Bool → Option (List Int)
 | 0, _, _, _, _, _, _, _ => none
 | k + 1, x0, x1, x2, x3, x9, x10, x37 => if x37 = true then (if x9.length < 17592186044416 then (scarfjointref07_merged.l0 k x0 x1 x2 x3 (x9 ++ [x10]) (wrap64 (x10 + 1))) else (none)) else (scarfjointref07_merged.l0 k x0 x1 x2 x3 x9 (wrap64 (x10 + 1)))
end
def scarfjointref07_merged.f (k : Nat) (a0 : Int) (l1 : List Int) (l2 : List Int) (a3 : Bool) : Option (List Int) := scarfjointref07_merged.l0 k a0 l1 l2 a3 ([] : List Int) 0
theorem scarfjointref07_merged.mono_l : ∀ k, (∀ y0 y1 y2 y3 y4 y5, LeO (scarfjointref07_merged.l0 k y0 y1 y2 y3 y4 y5) (scarfjointref07_merged.l0 (k + 1) y0 y1 y2 y3 y4 y5)) ∧ (∀ y0 y1 y2 y3 y4 y5 y6, LeO (scarfjointref07_merged.j1 k y0 y1 y2 y3 y4 y5 y6) (scarfjointref07_merged.j1 (k + 1) y0 y1 y2 y3 y4 y5 y6))
 | 0 => ⟨fun _ _ _ _ _ _ r h => by simp [scarfjointref07_merged.l0] at h, fun _ _ _ _ _ _ _ r h => by simp [scarfjointref07_merged.j1] at h⟩
 | k + 1 => by
  obtain ⟨ih0, ih1⟩ := scarfjointref07_merged.mono_l k
  refine ⟨?_, ?_⟩
  ·intro y0 y1 y2 y3 y4 y5
   unfold scarfjointref07_merged.l0
   repeat' first
   | (with_reducible exact ih0 _ _ _ _ _ _)
   | (with_reducible exact ih1 _ _ _ _ _ _ _)
   | (with_reducible exact scarfjointref07_has.mono _ _ _)
   | (with_reducible exact LeO.refl _)
   | (with_reducible exact LeO.none _)
   | (with_reducible refine LeO.ite ?_ ?_)
   | (with_reducible refine LeO.bind ?_ (fun _ => ?_))
   | exact ih0 _ _ _ _ _ _
   | exact ih1 _ _ _ _ _ _ _
   | exact scarfjointref07_has.mono _ _ _
   | exact LeO.none _
   | refine LeO.ite ?_ ?_
   | refine LeO.bind ?_ (fun _ => ?_)
  ·intro y0 y1 y2 y3 y4 y5 y6
   unfold scarfjointref07_merged.j1
   repeat' first
   | (with_reducible exact ih0 _ _ _ _ _ _)
   | (with_reducible exact ih1 _ _ _ _ _ _ _)
   | (with_reducible exact scarfjointref07_has.mono _ _ _)
   | (with_reducible exact LeO.refl _)
   | (with_reducible exact LeO.none _)
   | (with_reducible refine LeO.ite ?_ ?_)
   | (with_reducible refine LeO.bind ?_ (fun _ => ?_))
   | exact ih0 _ _ _ _ _ _
   | exact ih1 _ _ _ _ _ _ _
   | exact scarfjointref07_has.mono _ _ _
   | exact LeO.none _
   | refine LeO.ite ?_ ?_
   | refine LeO.bind ?_ (fun _ => ?_)
theorem scarfjointref07_merged.mono : ∀ a0 a1 a2 a3 k, LeO (scarfjointref07_merged.f k a0 a1 a2 a3) (scarfjointref07_merged.f (k + 1) a0 a1 a2 a3) := by
 intro a0 a1 a2 a3 k
 obtain ⟨ih0, ih1⟩ := scarfjointref07_merged.mono_l k
 unfold scarfjointref07_merged.f
 repeat' first
   | (with_reducible exact ih0 _ _ _ _ _ _)
   | (with_reducible exact ih1 _ _ _ _ _ _ _)
   | (with_reducible exact scarfjointref07_has.mono _ _ _)
   | (with_reducible exact LeO.refl _)
   | (with_reducible exact LeO.none _)
   | (with_reducible refine LeO.ite ?_ ?_)
   | (with_reducible refine LeO.bind ?_ (fun _ => ?_))
   | exact ih0 _ _ _ _ _ _
   | exact ih1 _ _ _ _ _ _ _
   | exact scarfjointref07_has.mono _ _ _
   | exact LeO.none _
   | refine LeO.ite ?_ ?_
   | refine LeO.bind ?_ (fun _ => ?_)
set_option maxHeartbeats 8000000 in
set_option maxRecDepth 100000 in
theorem scarfjointref07_merged.calls (k : Nat) (a0 : Int) (A1 : Option Addr) (c1 : Nat) (l1 : List Int) (A2 : Option Addr) (c2 : Nat) (l2 : List Int) (a3 : Bool) (r : List Int) (w : World) (hr1 : Kd.C (Kd.int .i64) w A1 l1.length l1) (hc1 : l1.length ≤ c1) (hr2 : Kd.C (Kd.int .i64) w A2 l2.length l2) (hc2 : l2.length ≤ c2) (h : scarfjointref07_merged.f k a0 l1 l2 a3 = some r) :
  Calls Try.prog 58 #[.int .i64 a0, .slice A1 l1.length c1, .slice A2 l2.length c2, .bool a3] w fun e w' => ∃ v0_ : Value, e = .returned (v0_) ∧ Kd.R (Kd.int .i64) 3 w' w.heap.size (fun _ => True) v0_ r ∧ Below w.heap.size w w' := by
 have HR1 := Aside0.mk hr1
 have HC1 := Aside0.mk hc1
 clear hr1 hc1
 have HR2 := Aside0.mk hr2
 have HC2 := Aside0.mk hc2
 clear hr2 hc2
 have HB := Aside0.mk (Below.refl w.heap.size w)
 have H : (scarfjointref07_merged.l0 k a0 l1 l2 a3 ([] : List Int) 0) = some r := h
 clear h
 have H' := Aside0.mk H
 clear H
 go_enter Try.func58, Try.ntmps58
 go_wp2
 go_loopg [9, 10] k (fun kq v9 v10 w' => ∃ (x9_1 : List Int) (x10_1 : Int), v10 = .int .i64 x10_1 ∧ Aside0 (scarfjointref07_merged.l0 kq a0 l1 l2 a3 x9_1 x10_1 = some r) ∧ Aside0 (kq ≤ k) ∧ Aside0 (Kd.R (Kd.int .i64) 3 w' w.heap.size (fun _ => True) v9 x9_1) ∧ Aside0 (Below w.heap.size w w'))
 case atStart => exact ⟨(([] : List Int)), (0), rS, H', ⟨Nat.le_refl _⟩, ⟨by first | exact Kd.R_nil _ _ _ _ _ | exact Kd.N_nil _ _ _ _ _ | exact Kd.V_nil _ _ _ _ _ | exact Kd.Q_nil _ _ _ _ _ | exact Kd.S_nil _ _ _ _ _⟩, ⟨pH HB⟩⟩
 case round =>
  clear H'
  try clear c1; try clear c2; try clear p2
  obtain ⟨x9_1, x10_1, rfl, HA, HK1, Q00, HB⟩ := hrel
  cases gk with
  | zero => exact absurd HA.out (by simp [scarfjointref07_merged.l0])
  | succ k1 =>
   have H := HA.out
   clear HA
   simp only [scarfjointref07_merged.l0] at H
   by_cases c5 : x10_1 < a0
   ·rw [if_pos c5] at H
    have c5b0 : decide (x10_1 < a0) = true := decide_eq_true c5
    clear c5
    replace H := Option.bind_eq_some_iff.mp H
    obtain ⟨t101, A60, H⟩ := H
    replace H : ((scarfjointref07_has.f k1 l2 x10_1).bind fun t102 => (if t101 = true then (if t102 = true then (scarfjointref07_merged.j1 k1 a0 l1 l2 a3 x9_1 x10_1 true) else (if a3 = true then (scarfjointref07_merged.j1 k1 a0 l1 l2 a3 x9_1 x10_1 false) else (scarfjointref07_merged.j1 k1 a0 l1 l2 a3 x9_1 x10_1 true))) else (if a3 = true then (scarfjointref07_merged.j1 k1 a0 l1 l2 a3 x9_1 x10_1 false) else (scarfjointref07_merged.j1 k1 a0 l1 l2 a3 x9_1 x10_1 t102)))) = some r := H
    have A6 := Aside0.mk A60
    clear A60
    replace H := Option.bind_eq_some_iff.mp H
    obtain ⟨t102, A70, H⟩ := H
    replace H : (if t101 = true then (if t102 = true then (scarfjointref07_merged.j1 k1 a0 l1 l2 a3 x9_1 x10_1 true) else (if a3 = true then (scarfjointref07_merged.j1 k1 a0 l1 l2 a3 x9_1 x10_1 false) else (scarfjointref07_merged.j1 k1 a0 l1 l2 a3 x9_1 x10_1 true))) else (if a3 = true then (scarfjointref07_merged.j1 k1 a0 l1 l2 a3 x9_1 x10_1 false) else (scarfjointref07_merged.j1 k1 a0 l1 l2 a3 x9_1 x10_1 t102))) = some r := H
    have A7 := Aside0.mk A70
    clear A70
    have HC8 := Aside0.mk H
    clear H
    go_upto_region 6 with (first | ((with_reducible refine gate_callee (f := 79) rfl ?_); refine goesL_ (some 20) rfl rfl Try.func79 (by kernel_rfl) rfl #[.slice A1 l1.length c1, .int .i64 x10_1] rfl aM ?_; (with_reducible refine (scarfjointref07_has.calls k1 _ _ l1 x10_1 t101 _ ?side1 ?side2 A6.out).mono ?_); (case side1 => exact cX (cB HR1.out HB.out)); (case side2 => exact HC1.out); rintro e w' ⟨rfl, ⟨nd, rfl⟩⟩; refine ⟨_, rfl, ?_⟩) | ((with_reducible refine gate_callee (f := 79) rfl ?_); refine goesL_ (some 23) rfl rfl Try.func79 (by kernel_rfl) rfl #[.slice A2 l2.length c2, .int .i64 x10_1] rfl aM ?_; (with_reducible refine (scarfjointref07_has.calls k1 _ _ l2 x10_1 t102 _ ?side1 ?side2 A7.out).mono ?_); (case side1 => exact cX (cB HR2.out hB)); (case side2 => exact HC2.out); rintro e w' ⟨rfl, ⟨nd, rfl⟩⟩; refine ⟨_, rfl, ?_⟩))
    (try simp only [Act.put, List.setIfInBounds_toArray, List.set_cons_zero, List.set_cons_succ])
    go_cut [37] (fun v37 wc => ∃ (kq : Nat) (x37_7 : Bool), v37 = .bool x37_7 ∧ Aside0 (scarfjointref07_merged.j1 kq a0 l1 l2 a3 x9_1 x10_1 x37_7 = some r) ∧ Aside0 (kq ≤ k1) ∧ Aside0 (Kd.R (Kd.int .i64) 3 wc w.heap.size (fun _ => True) u9 x9_1) ∧ Aside0 (Below w.heap.size w wc))
    case first =>
     have H := HC8.out
     clear HC8
     by_cases c9 : t101 = true
     ·subst c9
      have H1 : (if t102 = true then (scarfjointref07_merged.j1 k1 a0 l1 l2 a3 x9_1 x10_1 true) else (if a3 = true then (scarfjointref07_merged.j1 k1 a0 l1 l2 a3 x9_1 x10_1 false) else (scarfjointref07_merged.j1 k1 a0 l1 l2 a3 x9_1 x10_1 true))) = some r := by rw [if_pos rfl] at H; exact H
      clear H
      have H := H1
      clear H1
      by_cases c10 : t102 = true
      ·subst c10
       have H1 : (scarfjointref07_merged.j1 k1 a0 l1 l2 a3 x9_1 x10_1 true) = some r := by rw [if_pos rfl] at H; exact H
       clear H
       have H := H1
       clear H1
       have H' := Aside0.mk H
       clear H
       go_wp2
       go_meet
       case rel => exact ⟨_, (true), rS, H', ⟨by have := HK1.out; first | omega | exact Nat.le_refl _⟩, ⟨pR Q00⟩, ⟨pH HB⟩⟩
      ·replace c10 := Bool.eq_false_iff.mpr c10
       subst c10
       have H1 : (if a3 = true then (scarfjointref07_merged.j1 k1 a0 l1 l2 a3 x9_1 x10_1 false) else (scarfjointref07_merged.j1 k1 a0 l1 l2 a3 x9_1 x10_1 true)) = some r := by rw [if_neg (show ¬ (false = true) by decide)] at H; exact H
       clear H
       have H := H1
       clear H1
       by_cases c11 : a3 = true
       ·subst c11
        have H1 : (scarfjointref07_merged.j1 k1 a0 l1 l2 true x9_1 x10_1 false) = some r := by rw [if_pos rfl] at H; exact H
        clear H
        have H := H1
        clear H1
        have H' := Aside0.mk H
        clear H
        go_wp2
        go_meet
        case rel => exact ⟨_, (false), rS, H', ⟨by have := HK1.out; first | omega | exact Nat.le_refl _⟩, ⟨pR Q00⟩, ⟨pH HB⟩⟩
       ·replace c11 := Bool.eq_false_iff.mpr c11
        subst c11
        have H1 : (scarfjointref07_merged.j1 k1 a0 l1 l2 false x9_1 x10_1 true) = some r := by rw [if_neg (show ¬ (false = true) by decide)] at H; exact H
        clear H
        have H := H1
        clear H1
        have H' := Aside0.mk H
        clear H
        go_wp2
        go_meet
        case rel => exact ⟨_, (true), rS, H', ⟨by have := HK1.out; first | omega | exact Nat.le_refl _⟩, ⟨pR Q00⟩, ⟨pH HB⟩⟩
     ·replace c9 := Bool.eq_false_iff.mpr c9
      subst c9
      have H1 : (if a3 = true then (scarfjointref07_merged.j1 k1 a0 l1 l2 a3 x9_1 x10_1 false) else (scarfjointref07_merged.j1 k1 a0 l1 l2 a3 x9_1 x10_1 t102)) = some r := by rw [if_neg (show ¬ (false = true) by decide)] at H; exact H
      clear H
      have H := H1
      clear H1
      by_cases c12 : a3 = true
      ·subst c12
       have H1 : (scarfjointref07_merged.j1 k1 a0 l1 l2 true x9_1 x10_1 false) = some r := by rw [if_pos rfl] at H; exact H
       clear H
       have H := H1
       clear H1
       have H' := Aside0.mk H
       clear H
       go_wp2
       go_meet
       case rel => exact ⟨_, (false), rS, H', ⟨by have := HK1.out; first | omega | exact Nat.le_refl _⟩, ⟨pR Q00⟩, ⟨pH HB⟩⟩
      ·replace c12 := Bool.eq_false_iff.mpr c12
       subst c12
       have H1 : (scarfjointref07_merged.j1 k1 a0 l1 l2 false x9_1 x10_1 t102) = some r := by rw [if_neg (show ¬ (false = true) by decide)] at H; exact H
       clear H
       have H := H1
       clear H1
       have H' := Aside0.mk H
       clear H
       go_wp2
       go_meet
       case rel => exact ⟨_, (t102), rS, H', ⟨by have := HK1.out; first | omega | exact Nat.le_refl _⟩, ⟨pR Q00⟩, ⟨pH HB⟩⟩
    case rest =>
     clear HC8
     try clear c1; try clear c2; try clear p2; try clear c5; try clear c5b0; try clear c7; try clear c9; try clear c10; try clear c11; try clear c12; try clear p2
     obtain ⟨kq, x37_7, rfl, HA, HJ7, Q00, HB⟩ := hcut
     cases kq with
     | zero => exact absurd HA.out (by simp [scarfjointref07_merged.j1])
     | succ kj7 =>
      have H := HA.out
      clear HA
      simp only [scarfjointref07_merged.j1] at H
      by_cases c13 : x37_7 = true
      ·subst c13
       have H1 : (if x9_1.length < 17592186044416 then (scarfjointref07_merged.l0 kj7 a0 l1 l2 a3 (x9_1 ++ [x10_1]) (wrap64 (x10_1 + 1))) else (none)) = some r := by rw [if_pos rfl] at H; exact H
       clear H
       have H := H1
       clear H1
       by_cases c14 : x9_1.length < 17592186044416
       ·rw [if_pos c14] at H
        have LMc14 := Aside0.mk c14
        clear c14
        obtain ⟨y103, hy103⟩ : ∃ y_ : List Int, y_ = (x9_1 ++ [x10_1]) := ⟨_, rfl⟩
        replace H : (scarfjointref07_merged.l0 kj7 a0 l1 l2 a3 y103 (wrap64 (x10_1 + 1))) = some r := by first | (rw [hy103]; with_reducible exact H) | (have H2_ := (Option.bind_some _ _).symm.trans H; rw [hy103]; with_reducible exact H2_) | (have H2_ := (Option.bind_some _ _).symm.trans H; with_reducible exact H2_) | with_reducible exact H | (rw [hy103]; exact H) | exact H
        have Ny103 := Aside0.mk hy103
        clear hy103
        have H' := Aside0.mk H
        clear H
        go_wp2_with (first | ((with_reducible refine gate_builtin (b := .append) (xs := #[.tmp 38, .tmp 40]) rfl ?_); at_builtin; refine Kd.R_append (Kd.int .i64) (w0 := w) w.heap.size rfl (.tmp 38) (.tmp 40) 22 3 (.int .i64 0) 8 rfl Try.underlying22 info3 rfl (by decide) (by omega) u9 x9_1 x10_1 [.int .i64 x10_1] (fun _ => True) (fun _ => False) rfl rfl ?aP (fun _ hk => hk.elim) ?aF ?aO ?aB ?aS ?aL ?_; (case aP => exact rfl); (case aB => exact hB); (case aF => exact (fun _ _ => trivial)); (case aO => exact (pR Q00)); (case aS => exact (below_size hB)); (case aL => have := LMc14.out; omega); intro v104 w15 ho hb hg hat; rw [← Ny103.out] at ho; replace HB := Aside0.mk (hb); have Q01 := Aside0.mk (ho); clear Q00; clear ho hb hg hat))
        go_roundg kj7
        case measure => have := HK1.out; have := HJ7.out; omega
        case rel => exact ⟨(y103), (wrap64 (x10_1 + 1)), rS, H', ⟨by have := HK1.out; have := HJ7.out; omega⟩, ⟨pR Q01⟩, ⟨pH HB⟩⟩
       ·rw [if_neg c14] at H
        exact absurd H (by simp)
      ·replace c13 := Bool.eq_false_iff.mpr c13
       subst c13
       have H1 : (scarfjointref07_merged.l0 kj7 a0 l1 l2 a3 x9_1 (wrap64 (x10_1 + 1))) = some r := by rw [if_neg (show ¬ (false = true) by decide)] at H; exact H
       clear H
       have H := H1
       clear H1
       have H' := Aside0.mk H
       clear H
       go_wp2
       go_roundg kj7
       case measure => have := HK1.out; have := HJ7.out; omega
       case rel => exact ⟨(x9_1), (wrap64 (x10_1 + 1)), rS, H', ⟨by have := HK1.out; have := HJ7.out; omega⟩, ⟨pR Q00⟩, ⟨pH HB⟩⟩
   ·rw [if_neg c5] at H
    have c5b0 : decide (x10_1 < a0) = false := decide_eq_false c5
    clear c5
    obtain rfl := Option.some.inj H
    go_wp2
    go_ret
    exact ⟨_, by first | rfl | (simp [errW_none, errW_some] <;> rfl) | (simp [*, errW_none, errW_some] <;> rfl), by (with_reducible repeat (first | apply rA | apply rN | apply rD)); exact Q00.out, by repeat (first | (with_reducible first | exact HB.out | apply wA | apply wN | apply wD) | exact HB.out)⟩
end Go.Proofs.Ytillofiphkmjjaa.X
