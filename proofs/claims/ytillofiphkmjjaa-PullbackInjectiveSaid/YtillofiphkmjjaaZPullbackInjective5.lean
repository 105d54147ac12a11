/- The law PullbackInjective returns true at every input, and its arguments read afterwards as they read before. No condition. -/
import Derived.Test.YtillofiphkmjjaaZPullbackInjective4
import Derived.Test.YtillofiphkmjjaaRows
namespace Go.Proofs.Ytillofiphkmjjaa.X
open Go.RowKit Go.Proofs.YtillofiphkmjjaaW.PrintWords Go.Proofs.YtillofiphkmjjaaW.PrintLast Go.Proofs.YtillofiphkmjjaaW.PrintMore
open Go.Proofs.YtillofiphkmjjaaW.PrintWords renaming blk_drewN → bN, blk_drew → bD, blk_alloc → bA, below_alloc → wA, pw_below_drewN → wN, below_drew1 → wD, blk_below → bB, below_step → wS, blk_at → bT, blk_grown → bG
open Go.Proofs.YtillofiphkmjjaaW.PrintWords.Kd renaming R_alloc → rA, R_drewN → rN, R_drew → rD, R_below → rB, R_grown → rG, C_below → cB, C_alloc → cA, C_drewN → cN, C_drew → cD
attribute [local go_sem] max2_int min2_int max_two min_two max_three min_three max_four min_four
set_option linter.unusedVariables false
set_option linter.unusedSimpArgs false
/-! ### scarfjointref07_Image: function 26 -/
def scarfjointref07_Image.f (k : Nat) (l0_0 : List Int) (l0_1 : List (S94)) (l1_0 : List Int) (l1_1 : List (S94)) (l2_0 : List Int) (l2_1 : List Int) : Option (List Int × List Int × Int) := (scarfjointref06_Valid.f l0_0 l0_1 l1_0 l1_1 l2_0 l2_1).bind fun t105 => (if t105 = 0 then ((scarfjointref07_merged.f k (l1_0.length : Int) l2_0 l2_0 false).bind fun t106 => ((scarfjointref07_merged.f k (l1_1.length : Int) l2_1 l2_1 false).bind fun t109 => (some (t106, t109, 0)))) else (some (([] : List Int), ([] : List Int), t105)))
theorem scarfjointref07_Image.mono : ∀ a0 a1 a2 a3 a4 a5 k, LeO (scarfjointref07_Image.f k a0 a1 a2 a3 a4 a5) (scarfjointref07_Image.f (k + 1) a0 a1 a2 a3 a4 a5) := by
 intro a0 a1 a2 a3 a4 a5 k
 unfold scarfjointref07_Image.f
 repeat' first
   | (with_reducible exact scarfjointref07_merged.mono _ _ _ _ _)
   | (with_reducible exact LeO.refl _)
   | (with_reducible exact LeO.none _)
   | (with_reducible refine LeO.ite ?_ ?_)
   | (with_reducible refine LeO.bind ?_ (fun _ => ?_))
   | exact scarfjointref07_merged.mono _ _ _ _ _
   | exact LeO.none _
   | refine LeO.ite ?_ ?_
   | refine LeO.bind ?_ (fun _ => ?_)
def scarfjointref07_Image.T4 : Bool × List (List Nat × List Nat) := (true, [([], []), ([0], [0]), ([1], [1]), ([], []), ([3], [3]), ([], []), ([5], [5]), ([2, 4, 6], [2, 4, 6]), ([], []), ([8], [8]), ([9], [9]), ([], []), ([11], [11]), ([], []), ([13], [13]), ([10, 12, 14, 7], [10, 12, 14]), ([7, 15], [7, 15]), ([16, 15, 0, 1, 2, 3, 4, 5, 6, 7, 8, 9, 10, 11, 12, 13, 14, 15, 16], [16]), ([17, 0, 1, 2, 3, 4, 5, 6, 7, 8, 9, 10, 11, 12, 13, 14, 15, 16, 17], [])])
def scarfjointref07_Image.B4 : List Nat := [0, 1, 3, 0, 8, 0, 32, 127, 0, 256, 768, 0, 2048, 0, 8192, 32767, 65535, 131071, 262143]
theorem scarfjointref07_Image.tab4 : rtab .any (opsOf Try.f26 4) = scarfjointref07_Image.T4 := by kernel_rfl
theorem scarfjointref07_Image.bits4 : waitsOk scarfjointref07_Image.T4.2 scarfjointref07_Image.B4 = true := by kernel_rfl
set_option maxHeartbeats 8000000 in
set_option maxRecDepth 100000 in
theorem scarfjointref07_Image.calls (k : Nat) (A0_0 : Option Addr) (c0_0 : Nat) (l0_0 : List Int) (A0_1 : Option Addr) (c0_1 : Nat) (l0_1 : List (S94)) (A1_0 : Option Addr) (c1_0 : Nat) (l1_0 : List Int) (A1_1 : Option Addr) (c1_1 : Nat) (l1_1 : List (S94)) (A2_0 : Option Addr) (c2_0 : Nat) (l2_0 : List Int) (A2_1 : Option Addr) (c2_1 : Nat) (l2_1 : List Int) (r1 : List Int) (r2 : List Int) (r3 : Int) (w : World) (hr0_0 : Kd.C (Kd.int .i64) w A0_0 l0_0.length l0_0) (hc0_0 : l0_0.length ≤ c0_0) (hr0_1 : Kd.C k94 w A0_1 l0_1.length l0_1) (hc0_1 : l0_1.length ≤ c0_1) (hr1_0 : Kd.C (Kd.int .i64) w A1_0 l1_0.length l1_0) (hc1_0 : l1_0.length ≤ c1_0) (hr1_1 : Kd.C k94 w A1_1 l1_1.length l1_1) (hc1_1 : l1_1.length ≤ c1_1) (hr2_0 : Kd.C (Kd.int .i64) w A2_0 l2_0.length l2_0) (hc2_0 : l2_0.length ≤ c2_0) (hr2_1 : Kd.C (Kd.int .i64) w A2_1 l2_1.length l2_1) (hc2_1 : l2_1.length ≤ c2_1) (h : scarfjointref07_Image.f k l0_0 l0_1 l1_0 l1_1 l2_0 l2_1 = some (r1, r2, r3)) :
  Calls Try.prog 26 #[.agg #[.slice A0_0 l0_0.length c0_0, .slice A0_1 l0_1.length c0_1], .agg #[.slice A1_0 l1_0.length c1_0, .slice A1_1 l1_1.length c1_1], .agg #[.slice A2_0 l2_0.length c2_0, .slice A2_1 l2_1.length c2_1]] w fun e w' => ∃ v0_ v1_ : Value, e = .returned (.tuple #[.agg #[v0_, v1_], .int .i64 r3]) ∧ Kd.R (Kd.int .i64) 3 w' w.heap.size (fun k_ => some k_ ≠ (v1_ : Value).ownBlock) v0_ r1 ∧ Kd.R (Kd.int .i64) 3 w' w.heap.size (fun k_ => some k_ ≠ (v0_ : Value).ownBlock) v1_ r2 ∧ Below w.heap.size w w' := by
 have hu25 := Try.underlying25
 have hu27 := Try.underlying27
 have hu60 := Try.underlying60
 have HR0_0 := Aside0.mk hr0_0
 have HC0_0 := Aside0.mk hc0_0
 clear hr0_0 hc0_0
 have HR0_1 := Aside0.mk hr0_1
 have HC0_1 := Aside0.mk hc0_1
 clear hr0_1 hc0_1
 have HR1_0 := Aside0.mk hr1_0
 have HC1_0 := Aside0.mk hc1_0
 clear hr1_0 hc1_0
 have HR1_1 := Aside0.mk hr1_1
 have HC1_1 := Aside0.mk hc1_1
 clear hr1_1 hc1_1
 have HR2_0 := Aside0.mk hr2_0
 have HC2_0 := Aside0.mk hc2_0
 clear hr2_0 hc2_0
 have HR2_1 := Aside0.mk hr2_1
 have HC2_1 := Aside0.mk hc2_1
 clear hr2_1 hc2_1
 have HB := Aside0.mk (Below.refl w.heap.size w)
 have H : ((scarfjointref06_Valid.f l0_0 l0_1 l1_0 l1_1 l2_0 l2_1).bind fun t105 => (if t105 = 0 then ((scarfjointref07_merged.f k (l1_0.length : Int) l2_0 l2_0 false).bind fun t106 => ((scarfjointref07_merged.f k (l1_1.length : Int) l2_1 l2_1 false).bind fun t109 => (some (t106, t109, 0)))) else (some (([] : List Int), ([] : List Int), t105)))) = some (r1, r2, r3) := h
 clear h
 replace H := Option.bind_eq_some_iff.mp H
 obtain ⟨t105, A40, H⟩ := H
 replace H : (if t105 = 0 then ((scarfjointref07_merged.f k (l1_0.length : Int) l2_0 l2_0 false).bind fun t106 => ((scarfjointref07_merged.f k (l1_1.length : Int) l2_1 l2_1 false).bind fun t109 => (some (t106, t109, 0)))) else (some (([] : List Int), ([] : List Int), t105))) = some (r1, r2, r3) := H
 have A4 := Aside0.mk A40
 clear A40
 by_cases c5 : t105 = 0
 ·rw [if_pos c5] at H
  have c5b0 : (t105 == 0) = true := beq_iff_eq.mpr c5
  have c5b1 : (t105 != 0) = false := bne_eq_false_iff_eq.mpr c5
  clear c5
  replace H := Option.bind_eq_some_iff.mp H
  obtain ⟨t106, A60, H⟩ := H
  replace H : ((scarfjointref07_merged.f k (l1_1.length : Int) l2_1 l2_1 false).bind fun t109 => (some (t106, t109, 0))) = some (r1, r2, r3) := H
  have A6 := Aside0.mk A60
  clear A60
  replace H := Option.bind_eq_some_iff.mp H
  obtain ⟨t109, A70, H⟩ := H
  replace H : (some (t106, t109, 0)) = some (r1, r2, r3) := H
  have A7 := Aside0.mk A70
  clear A70
  simp only [Option.some.injEq, Prod.mk.injEq] at H
  obtain ⟨rfl, rfl, rfl⟩ := H
  go_enter Try.func26, Try.ntmps26
  try go_wp2_with (first | ((with_reducible refine gate_dst (N := 3) rfl ?_); refine box_event ?hg (N := 3) ?hd (cs := #[.slice A0_0 l0_0.length c0_0, .slice A0_1 l0_1.length c0_1]) (t := 25) ?hr ?_; (case hd => rfl); (case hg => rfl); (case hr => first | (go_simp; done) | (go_simp; rfl)); intro Q05 hg w8 hbox hb; have Q00 := Aside0.mk (hbox); have Q0w := Aside0.mk ((by rw [hg]; exact (below_size hB) : w.heap.size ≤ Q05)); have Q0h := Aside0.mk ((by rw [hg]; exact (below_size hB) : w.heap.size ≤ Q05)); replace HB := uH HB hb; clear hb hbox hg) | ((with_reducible refine gate_dst (N := 4) rfl ?_); refine box_event ?hg (N := 4) ?hd (cs := #[.slice A1_0 l1_0.length c1_0, .slice A1_1 l1_1.length c1_1]) (t := 25) ?hr ?_; (case hd => rfl); (case hg => rfl); (case hr => first | (go_simp; done) | (go_simp; rfl)); intro Q08 hg w9 hbox hb; have Q01 := Aside0.mk (hbox); have Q0x := uS HB hg; have Q0i := uS HB hg; replace HB := uH HB hb; have Q0j := uL Q00 hg; have Q0k := uG Q00 hg; replace Q00 := uB Q00 hb; clear hb hbox hg) | ((with_reducible refine gate_dst (N := 5) rfl ?_); refine box_event ?hg (N := 5) ?hd (cs := #[.slice A2_0 l2_0.length c2_0, .slice A2_1 l2_1.length c2_1]) (t := 27) ?hr ?_; (case hd => rfl); (case hg => rfl); (case hr => first | (go_simp; done) | (go_simp; rfl)); intro Q09 hg w10 hbox hb; have Q02 := Aside0.mk (hbox); have Q0y := uS HB hg; have Q0l := uS HB hg; replace HB := uH HB hb; have Q0m := uL Q00 hg; have Q0n := uG Q00 hg; replace Q00 := uB Q00 hb; have Q0o := uL Q01 hg; have Q0p := uG Q01 hg; replace Q01 := uB Q01 hb; clear hb hbox hg) | ((with_reducible refine gate_dst (N := 6) rfl ?_); refine box_event ?hg (N := 6) ?hd (cs := #[.slice none 0 0, .slice none 0 0]) (t := 60) ?hr ?_; (case hd => rfl); (case hg => rfl); (case hr => first | (go_simp; done) | (go_simp; rfl)); intro Q04 hg w11 hbox hb; have Q03 := Aside0.mk (hbox); have Q0z := uS HB hg; have Q0q := uS HB hg; replace HB := uH HB hb; have Q0a := uL Q00 hg; have Q0b := uG Q00 hg; replace Q00 := uB Q00 hb; have Q06 := uL Q01 hg; have Q0c := uG Q01 hg; replace Q01 := uB Q01 hb; have Q07 := uL Q02 hg; have Q0d := uG Q02 hg; replace Q02 := uB Q02 hb; clear hb hbox hg; have Q10 := Q0j.out; have Q11 := Q0k.out; have Q12 := Q0m.out; have Q13 := Q0n.out; have Q14 := Q0a.out; have Q15 := Q0b.out; have Q16 : w11.cell? ⟨Q05, 0, none⟩ = some (.slice A0_0 l0_0.length c0_0) := bC Q00 0; have Q17 : w11.cell? ⟨Q05, 1, none⟩ = some (.slice A0_1 l0_1.length c0_1) := bC Q00 1; have Q18 := blk_frozen Q00.out 0; have Q19 := blk_frozen Q00.out 1; have Q1a := Q0o.out; have Q1b := Q0p.out; have Q1c := Q06.out; have Q1d := Q0c.out; have Q1e : w11.cell? ⟨Q08, 0, none⟩ = some (.slice A1_0 l1_0.length c1_0) := bC Q01 0; have Q1f : w11.cell? ⟨Q08, 1, none⟩ = some (.slice A1_1 l1_1.length c1_1) := bC Q01 1; have Q1g := blk_frozen Q01.out 0; have Q1h := blk_frozen Q01.out 1; have Q1i := Q07.out; have Q1j := Q0d.out; have Q1k : w11.cell? ⟨Q09, 0, none⟩ = some (.slice A2_0 l2_0.length c2_0) := bC Q02 0; have Q1l : w11.cell? ⟨Q09, 1, none⟩ = some (.slice A2_1 l2_1.length c2_1) := bC Q02 1; have Q1m := blk_frozen Q02.out 0; have Q1n := blk_frozen Q02.out 1) | ((with_reducible refine gate_callee (f := 44) rfl ?_); refine goesL_ (some 12) rfl rfl Try.func44 (by kernel_rfl) rfl #[.agg #[.slice A0_0 l0_0.length c0_0, .slice A0_1 l0_1.length c0_1], .agg #[.slice A1_0 l1_0.length c1_0, .slice A1_1 l1_1.length c1_1], .agg #[.slice A2_0 l2_0.length c2_0, .slice A2_1 l2_1.length c2_1]] rfl aM ?_; (with_reducible refine (scarfjointref06_Valid.calls _ _ l0_0 _ _ l0_1 _ _ l1_0 _ _ l1_1 _ _ l2_0 _ _ l2_1 t105 _ ?side1 ?side2 ?side3 ?side4 ?side5 ?side6 ?side7 ?side8 ?side9 ?side10 ?side11 ?side12 A4.out).mono ?_); (case side1 => exact cX (cB HR0_0.out HB.out)); (case side2 => exact HC0_0.out); (case side3 => exact cX (cB HR0_1.out HB.out)); (case side4 => exact HC0_1.out); (case side5 => exact cX (cB HR1_0.out HB.out)); (case side6 => exact HC1_0.out); (case side7 => exact cX (cB HR1_1.out HB.out)); (case side8 => exact HC1_1.out); (case side9 => exact cX (cB HR2_0.out HB.out)); (case side10 => exact HC2_0.out); (case side11 => exact cX (cB HR2_1.out HB.out)); (case side12 => exact HC2_1.out); rintro e w21 ⟨rfl, hb⟩; refine ⟨_, rfl, ?_⟩; replace Q00 := uB Q00 hb; replace Q01 := uB Q01 hb; replace Q02 := uB Q02 hb; replace Q03 := uB Q03 hb; replace HB := uH HB hb; (try clear hb); (try clear hb2); (try clear hk); (try clear hi)))
  replace Q00 := Aside0.mk (bD Q00.out)
  replace Q01 := Aside0.mk (bD Q01.out)
  replace Q02 := Aside0.mk (bD Q02.out)
  replace Q03 := Aside0.mk (bD Q03.out)
  replace HB := Aside0.mk (wD HB.out)
  refine start_ (n := 19) (S := fun w' => w'.cell? ⟨Q08, 0, none⟩ = some (.slice A1_0 l1_0.length c1_0) ∧ w'.cell? ⟨Q08, 1, none⟩ = some (.slice A1_1 l1_1.length c1_1) ∧ w'.cell? ⟨Q09, 0, none⟩ = some (.slice A2_0 l2_0.length c2_0) ∧ w'.cell? ⟨Q09, 1, none⟩ = some (.slice A2_1 l2_1.length c2_1)) (ds := []) #[false, false, false, false, false, false, false, false, false, false, false, false, false, false, false, false, false, false, false] (by kernel_rfl) rfl rfl ⟨bC Q01 0, bC Q01 1, bC Q02 0, bC Q02 1⟩ (fun hHeld => ?_); refine with_tabW scarfjointref07_Image.tab4 scarfjointref07_Image.bits4 (fun HT_ HW_ => ?_)
  generalize w21.drew = w22 at Q00 Q01 Q02 Q03 HB hHeld ⊢
  refine pure_ (i := 0) (N := some 17) (v := ?_) (a' := ?_) #[true, false, false, false, false, false, false, false, false, false, false, false, false, false, false, false, false, false, false] rfl rfl (any_of HT_.out (by kernel_rfl)) (fun _ _ _ h => h) (Or.inl ⟨by rfl, ?_⟩) ?_ ?_
  rotate_left
  ·intro w'
   go_simp
   with_reducible rfl
  rotate_left
  ·simp only [Act.put, List.setIfInBounds_toArray, List.set_cons_zero, List.set_cons_succ, i64_w, i32_w]
   rfl
  refine pure_ (i := 3) (N := some 20) (v := ?_) (a' := ?_) #[true, false, false, true, false, false, false, false, false, false, false, false, false, false, false, false, false, false, false] rfl rfl (any_of HT_.out (by kernel_rfl)) (fun _ _ _ h => h) (Or.inl ⟨by rfl, ?_⟩) ?_ ?_
  rotate_left
  ·intro w'
   go_simp
   with_reducible rfl
  rotate_left
  ·simp only [Act.put, List.setIfInBounds_toArray, List.set_cons_zero, List.set_cons_succ, i64_w, i32_w]
   rfl
  refine pure_ (i := 5) (N := some 22) (v := ?_) (a' := ?_) #[true, false, false, true, false, true, false, false, false, false, false, false, false, false, false, false, false, false, false] rfl rfl (any_of HT_.out (by kernel_rfl)) (fun _ _ _ h => h) (Or.inl ⟨by rfl, ?_⟩) ?_ ?_
  rotate_left
  ·intro w'
   go_simp
   with_reducible rfl
  rotate_left
  ·simp only [Act.put, List.setIfInBounds_toArray, List.set_cons_zero, List.set_cons_succ, i64_w, i32_w]
   rfl
  refine pure_ (i := 8) (N := some 25) (v := ?_) (a' := ?_) #[true, false, false, true, false, true, false, false, true, false, false, false, false, false, false, false, false, false, false] rfl rfl (any_of HT_.out (by kernel_rfl)) (fun _ _ _ h => h) (Or.inl ⟨by rfl, ?_⟩) ?_ ?_
  rotate_left
  ·intro w'
   go_simp
   with_reducible rfl
  rotate_left
  ·simp only [Act.put, List.setIfInBounds_toArray, List.set_cons_zero, List.set_cons_succ, i64_w, i32_w]
   rfl
  refine pure_ (i := 11) (N := some 28) (v := ?_) (a' := ?_) #[true, false, false, true, false, true, false, false, true, false, false, true, false, false, false, false, false, false, false] rfl rfl (any_of HT_.out (by kernel_rfl)) (fun _ _ _ h => h) (Or.inl ⟨by rfl, ?_⟩) ?_ ?_
  rotate_left
  ·intro w'
   go_simp
   with_reducible rfl
  rotate_left
  ·simp only [Act.put, List.setIfInBounds_toArray, List.set_cons_zero, List.set_cons_succ, i64_w, i32_w]
   rfl
  refine pure_ (i := 13) (N := some 30) (v := ?_) (a' := ?_) #[true, false, false, true, false, true, false, false, true, false, false, true, false, true, false, false, false, false, false] rfl rfl (any_of HT_.out (by kernel_rfl)) (fun _ _ _ h => h) (Or.inl ⟨by rfl, ?_⟩) ?_ ?_
  rotate_left
  ·intro w'
   go_simp
   with_reducible rfl
  rotate_left
  ·simp only [Act.put, List.setIfInBounds_toArray, List.set_cons_zero, List.set_cons_succ, i64_w, i32_w]
   rfl
  refine take_ (i := 1) (N := some 18) (v := ?_) (a' := ?_) #[true, true, false, true, false, true, false, false, true, false, false, true, false, true, false, false, false, false, false] rfl rfl (take_ofW HT_.out HW_.out (by kernel_rfl)) (fun _ _ _ h => h) (Or.inl ⟨by rfl, ?_⟩) hHeld ?_ ?_
  rotate_left
  ·rintro w' ⟨s0, s1, s2, s3⟩
   go_simp
   with_reducible rfl
  rotate_left
  ·simp only [Act.put, List.setIfInBounds_toArray, List.set_cons_zero, List.set_cons_succ, i64_w, i32_w]
   rfl
  refine pure_ (i := 2) (N := some 19) (v := ?_) (a' := ?_) #[true, true, true, true, false, true, false, false, true, false, false, true, false, true, false, false, false, false, false] rfl rfl (any_of HT_.out (by kernel_rfl)) (fun _ _ _ h => h) (Or.inl ⟨by rfl, ?_⟩) ?_ ?_
  rotate_left
  ·intro w'
   go_simp
   with_reducible rfl
  rotate_left
  ·simp only [Act.put, List.setIfInBounds_toArray, List.set_cons_zero, List.set_cons_succ, i64_w, i32_w]
   rfl
  refine take_ (i := 4) (N := some 21) (v := ?_) (a' := ?_) #[true, true, true, true, true, true, false, false, true, false, false, true, false, true, false, false, false, false, false] rfl rfl (take_ofW HT_.out HW_.out (by kernel_rfl)) (fun _ _ _ h => h) (Or.inl ⟨by rfl, ?_⟩) hHeld ?_ ?_
  rotate_left
  ·rintro w' ⟨s0, s1, s2, s3⟩
   go_simp
   with_reducible rfl
  rotate_left
  ·simp only [Act.put, List.setIfInBounds_toArray, List.set_cons_zero, List.set_cons_succ, i64_w, i32_w]
   rfl
  refine take_ (i := 6) (N := some 23) (v := ?_) (a' := ?_) #[true, true, true, true, true, true, true, false, true, false, false, true, false, true, false, false, false, false, false] rfl rfl (take_ofW HT_.out HW_.out (by kernel_rfl)) (fun _ _ _ h => h) (Or.inl ⟨by rfl, ?_⟩) hHeld ?_ ?_
  rotate_left
  ·rintro w' ⟨s0, s1, s2, s3⟩
   go_simp
   with_reducible rfl
  rotate_left
  ·simp only [Act.put, List.setIfInBounds_toArray, List.set_cons_zero, List.set_cons_succ, i64_w, i32_w]
   rfl
  refine take_ (i := 9) (N := some 26) (v := ?_) (a' := ?_) #[true, true, true, true, true, true, true, false, true, true, false, true, false, true, false, false, false, false, false] rfl rfl (take_ofW HT_.out HW_.out (by kernel_rfl)) (fun _ _ _ h => h) (Or.inl ⟨by rfl, ?_⟩) hHeld ?_ ?_
  rotate_left
  ·rintro w' ⟨s0, s1, s2, s3⟩
   go_simp
   with_reducible rfl
  rotate_left
  ·simp only [Act.put, List.setIfInBounds_toArray, List.set_cons_zero, List.set_cons_succ, i64_w, i32_w]
   rfl
  refine pure_ (i := 10) (N := some 27) (v := ?_) (a' := ?_) #[true, true, true, true, true, true, true, false, true, true, true, true, false, true, false, false, false, false, false] rfl rfl (any_of HT_.out (by kernel_rfl)) (fun _ _ _ h => h) (Or.inl ⟨by rfl, ?_⟩) ?_ ?_
  rotate_left
  ·intro w'
   go_simp
   with_reducible rfl
  rotate_left
  ·simp only [Act.put, List.setIfInBounds_toArray, List.set_cons_zero, List.set_cons_succ, i64_w, i32_w]
   rfl
  refine take_ (i := 12) (N := some 29) (v := ?_) (a' := ?_) #[true, true, true, true, true, true, true, false, true, true, true, true, true, true, false, false, false, false, false] rfl rfl (take_ofW HT_.out HW_.out (by kernel_rfl)) (fun _ _ _ h => h) (Or.inl ⟨by rfl, ?_⟩) hHeld ?_ ?_
  rotate_left
  ·rintro w' ⟨s0, s1, s2, s3⟩
   go_simp
   with_reducible rfl
  rotate_left
  ·simp only [Act.put, List.setIfInBounds_toArray, List.set_cons_zero, List.set_cons_succ, i64_w, i32_w]
   rfl
  refine take_ (i := 14) (N := some 31) (v := ?_) (a' := ?_) #[true, true, true, true, true, true, true, false, true, true, true, true, true, true, true, false, false, false, false] rfl rfl (take_ofW HT_.out HW_.out (by kernel_rfl)) (fun _ _ _ h => h) (Or.inl ⟨by rfl, ?_⟩) hHeld ?_ ?_
  rotate_left
  ·rintro w' ⟨s0, s1, s2, s3⟩
   go_simp
   with_reducible rfl
  rotate_left
  ·simp only [Act.put, List.setIfInBounds_toArray, List.set_cons_zero, List.set_cons_succ, i64_w, i32_w]
   rfl
  refine one_ (i := 7) (N := some 24) #[true, true, true, true, true, true, true, true, true, true, true, true, true, true, true, false, false, false, false] rfl rfl (one_of HT_.out (by kernel_rfl)) (by decide) (fun K hK => ?_)
  refine goes_ Try.func58 (by kernel_rfl) rfl #[.int .i64 (l1_0.length : Int), .slice A2_0 l2_0.length c2_0, .slice A2_0 l2_0.length c2_0, .bool false] (by rfl) rfl rfl aM ?_
  with_reducible refine (scarfjointref07_merged.calls k (l1_0.length : Int) _ _ l2_0 _ _ l2_0 false t106 _ ?side1 ?side2 ?side3 ?side4 A6.out).mono ?_
  (case side1 => exact cX (cB HR2_0.out HB.out))
  (case side2 => exact HC2_0.out)
  (case side3 => exact cX (cB HR2_0.out HB.out))
  (case side4 => exact HC2_0.out)
  rintro e w23 ⟨v107, rfl, ho0, hb⟩
  refine ⟨_, rfl, ?_⟩
  have Q0e := Aside0.mk (Kd.R_lower ho0 (below_size (pH HB)))
  replace Q00 := uB Q00 hb
  replace Q01 := uB Q01 hb
  replace Q02 := uB Q02 hb
  replace Q03 := uB Q03 hb
  replace HB := uH HB hb
  (try clear hb)
  (try clear hb2)
  (try clear hk)
  (try clear hi)
  (try clear ho0)
  refine hK.out _ _ ⟨bC Q01 0, bC Q01 1, bC Q02 0, bC Q02 1⟩ (fun hHeld => ?_)
  clear hK K
  refine norm_ (a' := ?_) ?_ ?_
  rotate_left
  ·show Act.put _ (some 24) _ = _
   simp only [Act.put, List.setIfInBounds_toArray, List.set_cons_zero, List.set_cons_succ, i64_w, i32_w]
   rfl
  refine one_ (i := 15) (N := some 32) #[true, true, true, true, true, true, true, true, true, true, true, true, true, true, true, true, false, false, false] rfl rfl (one_of HT_.out (by kernel_rfl)) (by decide) (fun K hK => ?_)
  refine goes_ Try.func58 (by kernel_rfl) rfl #[.int .i64 (l1_1.length : Int), .slice A2_1 l2_1.length c2_1, .slice A2_1 l2_1.length c2_1, .bool false] (by rfl) rfl rfl aM ?_
  with_reducible refine (scarfjointref07_merged.calls k (l1_1.length : Int) _ _ l2_1 _ _ l2_1 false t109 _ ?side1 ?side2 ?side3 ?side4 A7.out).mono ?_
  (case side1 => exact cX (cB HR2_1.out HB.out))
  (case side2 => exact HC2_1.out)
  (case side3 => exact cX (cB HR2_1.out HB.out))
  (case side4 => exact HC2_1.out)
  rintro e w24 ⟨v110, rfl, ho0, hb⟩
  refine ⟨_, rfl, ?_⟩
  have Q0t := Aside0.mk (Kd.R_lower (Kd.R_new' ho0 (Kd.R_lt (pR Q0e))) (below_size (pH HB)))
  replace Q0e := eR Q0e (Kd.R_base ho0) hb
  replace Q00 := uB Q00 hb
  replace Q01 := uB Q01 hb
  replace Q02 := uB Q02 hb
  replace Q03 := uB Q03 hb
  replace HB := uH HB hb
  (try clear hb)
  (try clear hb2)
  (try clear hk)
  (try clear hi)
  (try clear ho0)
  obtain ⟨Q0r, Q0s, Q0u⟩ := Kd.R_slice Q0t.out
  (first | subst Q0u | (injection Q0u with f1_ f2_ f3_; have f4_ := f1_.symm; have f5_ := f3_.symm; clear f1_ f2_ f3_; subst f4_; subst f5_))
  obtain ⟨Q0f, Q0g, Q0v⟩ := Kd.R_slice Q0e.out
  (first | subst Q0v | (injection Q0v with f1_ f2_ f3_; have f4_ := f1_.symm; have f5_ := f3_.symm; clear f1_ f2_ f3_; subst f4_; subst f5_))
  refine hK.out _ _ ⟨bC Q01 0, bC Q01 1, bC Q02 0, bC Q02 1⟩ (fun hHeld => ?_)
  clear hK K
  refine norm_ (a' := ?_) ?_ ?_
  rotate_left
  ·show Act.put _ (some 32) _ = _
   simp only [Act.put, List.setIfInBounds_toArray, List.set_cons_zero, List.set_cons_succ, i64_w, i32_w]
   rfl
  refine pure_ (i := 16) (N := some 33) (v := ?_) (a' := ?_) #[true, true, true, true, true, true, true, true, true, true, true, true, true, true, true, true, true, false, false] rfl rfl (any_of HT_.out (by kernel_rfl)) (fun _ _ _ h => h) (Or.inl ⟨by rfl, ?_⟩) ?_ ?_
  rotate_left
  ·intro w'
   go_simp
   with_reducible rfl
  rotate_left
  ·simp only [Act.put, List.setIfInBounds_toArray, List.set_cons_zero, List.set_cons_succ, i64_w, i32_w]
   rfl
  refine one_ (i := 17) (N := none) #[true, true, true, true, true, true, true, true, true, true, true, true, true, true, true, true, true, true, false] rfl rfl (one_of HT_.out (by kernel_rfl)) (by decide) (fun K hK => ?_)
  have Q1o : w24.cell? ⟨Q04, 0, none⟩ = some (.slice none 0 0) := bC Q03 0
  have Q1p := blk_frozen Q03.out 0
  have Q1q := Q0a.out
  have Q1r := Q06.out
  have Q1s := Q07.out
  have Q1t := Q0b.out
  have Q1u := Q0c.out
  have Q1v := Q0d.out
  have Q1w : w24.cell? ⟨Q04, 1, none⟩ = some (.slice none 0 0) := bC Q03 1
  have Q1x := blk_frozen Q03.out 1
  have Q1y := Q0a.out
  have Q1z := Q06.out
  have Q20 := Q07.out
  have Q21 := Q0b.out
  have Q22 := Q0c.out
  have Q23 := Q0d.out
  refine skip_ (w1 := ?_) (by rfl) rfl ?_ ?_
  rotate_left
  ·go_simp
   rfl
  refine hK.out _ _ ⟨(cG Q06.out (cG Q06.out hHeld.1)), (cG Q06.out (cG Q06.out hHeld.2.1)), (cG Q07.out (cG Q07.out hHeld.2.2.1)), (cG Q07.out (cG Q07.out hHeld.2.2.2))⟩ (fun hHeld => ?_)
  clear hK K
  refine pure_ (i := 18) (N := some 7) (v := ?_) (a' := ?_) #[true, true, true, true, true, true, true, true, true, true, true, true, true, true, true, true, true, true, true] rfl rfl (any_of HT_.out (by kernel_rfl)) (fun _ _ _ h => h) (Or.inl ⟨by rfl, ?_⟩) ?_ ?_
  rotate_left
  ·intro w'
   go_simp
   with_reducible rfl
  rotate_left
  ·simp only [Act.put, List.setIfInBounds_toArray, List.set_cons_zero, List.set_cons_succ, i64_w, i32_w]
   rfl
  refine done_ (done_of HT_.out (by kernel_rfl)) ?_
  try go_wp2
  refine bodyPost_ret (results_ct rfl _ _ Q04 60 #[.slice Q0f t106.length Q0g, .slice Q0r t109.length Q0s] (0, 0) _ rfl (by (with_reducible repeat (first | refine bN ?_ _ | refine bD ?_ | refine bA ?_ _)); refine blk_put (cs := #[.slice Q0f t106.length Q0g, .slice none 0 0]) ?_ 1 _ rfl; (with_reducible repeat (first | refine bN ?_ _ | refine bD ?_ | refine bA ?_ _)); refine blk_put (cs := #[.slice none 0 0, .slice none 0 0]) ?_ 0 _ rfl; (with_reducible repeat (first | refine bN ?_ _ | refine bD ?_ | refine bA ?_ _)); exact Q03.out) Try.underlying60 rfl (by kernel_rfl)) rfl ?_
  exact ⟨_, _, by first | rfl | (simp [errW_none, errW_some] <;> rfl) | (simp [*, errW_none, errW_some] <;> rfl), by (with_reducible repeat (first | apply rA | apply rN | apply rD)); exact Kd.R_mono (Kd.R_far (p := ⟨Q04, 1, none⟩) (Kd.R_far (p := ⟨Q04, 0, none⟩) (Kd.R_types Q0e.out Q03.out (by decide)) (fun _ hk => hk.2) (.slice Q0f t106.length Q0g)) (fun _ hk => hk.2) (.slice Q0r t109.length Q0s)) (fun _ hk => hk.1.2), by (with_reducible repeat (first | apply rA | apply rN | apply rD)); exact Kd.R_mono (Kd.R_far (p := ⟨Q04, 1, none⟩) (Kd.R_far (p := ⟨Q04, 0, none⟩) (Kd.R_types Q0t.out Q03.out (by decide)) (fun _ hk => hk.2) (.slice Q0f t106.length Q0g)) (fun _ hk => hk.2) (.slice Q0r t109.length Q0s)) (fun _ hk => hk.1.2), by repeat (first | (with_reducible first | exact HB.out | apply wA | apply wN | apply wD | refine below_set ?_ Q0h.out | refine below_set ?_ Q0i.out | refine below_set ?_ Q0l.out | refine below_set ?_ Q0q.out) | exact HB.out)⟩
 ·rw [if_neg c5] at H
  have c5b0 : (t105 == 0) = false := beq_eq_false_iff_ne.mpr c5
  have c5b1 : (t105 != 0) = true := bne_iff_ne.mpr c5
  simp only [Option.some.injEq, Prod.mk.injEq] at H
  obtain ⟨rfl, rfl, rfl⟩ := H
  go_enter Try.func26, Try.ntmps26
  go_wp2_with (first | ((with_reducible refine gate_dst (N := 3) rfl ?_); refine box_event ?hg (N := 3) ?hd (cs := #[.slice A0_0 l0_0.length c0_0, .slice A0_1 l0_1.length c0_1]) (t := 25) ?hr ?_; (case hd => rfl); (case hg => rfl); (case hr => first | (go_simp; done) | (go_simp; rfl)); intro Q05 hg w29 hbox hb; have Q00 := Aside0.mk (hbox); have Q0w := Aside0.mk ((by rw [hg]; exact (below_size hB) : w.heap.size ≤ Q05)); have Q0h := Aside0.mk ((by rw [hg]; exact (below_size hB) : w.heap.size ≤ Q05)); replace HB := uH HB hb; clear hb hbox hg) | ((with_reducible refine gate_dst (N := 4) rfl ?_); refine box_event ?hg (N := 4) ?hd (cs := #[.slice A1_0 l1_0.length c1_0, .slice A1_1 l1_1.length c1_1]) (t := 25) ?hr ?_; (case hd => rfl); (case hg => rfl); (case hr => first | (go_simp; done) | (go_simp; rfl)); intro Q08 hg w30 hbox hb; have Q01 := Aside0.mk (hbox); have Q0x := uS HB hg; have Q0i := uS HB hg; replace HB := uH HB hb; have Q0j := uL Q00 hg; have Q0k := uG Q00 hg; replace Q00 := uB Q00 hb; clear hb hbox hg) | ((with_reducible refine gate_dst (N := 5) rfl ?_); refine box_event ?hg (N := 5) ?hd (cs := #[.slice A2_0 l2_0.length c2_0, .slice A2_1 l2_1.length c2_1]) (t := 27) ?hr ?_; (case hd => rfl); (case hg => rfl); (case hr => first | (go_simp; done) | (go_simp; rfl)); intro Q09 hg w31 hbox hb; have Q02 := Aside0.mk (hbox); have Q0y := uS HB hg; have Q0l := uS HB hg; replace HB := uH HB hb; have Q0m := uL Q00 hg; have Q0n := uG Q00 hg; replace Q00 := uB Q00 hb; have Q0o := uL Q01 hg; have Q0p := uG Q01 hg; replace Q01 := uB Q01 hb; clear hb hbox hg) | ((with_reducible refine gate_dst (N := 6) rfl ?_); refine box_event ?hg (N := 6) ?hd (cs := #[.slice none 0 0, .slice none 0 0]) (t := 60) ?hr ?_; (case hd => rfl); (case hg => rfl); (case hr => first | (go_simp; done) | (go_simp; rfl)); intro Q04 hg w32 hbox hb; have Q03 := Aside0.mk (hbox); have Q0z := uS HB hg; have Q0q := uS HB hg; replace HB := uH HB hb; have Q0a := uL Q00 hg; have Q0b := uG Q00 hg; replace Q00 := uB Q00 hb; have Q06 := uL Q01 hg; have Q0c := uG Q01 hg; replace Q01 := uB Q01 hb; have Q07 := uL Q02 hg; have Q0d := uG Q02 hg; replace Q02 := uB Q02 hb; clear hb hbox hg; have Q24 := Q0j.out; have Q25 := Q0k.out; have Q26 := Q0m.out; have Q27 := Q0n.out; have Q28 := Q0a.out; have Q29 := Q0b.out; have Q2a : w32.cell? ⟨Q05, 0, none⟩ = some (.slice A0_0 l0_0.length c0_0) := bC Q00 0; have Q2b : w32.cell? ⟨Q05, 1, none⟩ = some (.slice A0_1 l0_1.length c0_1) := bC Q00 1; have Q2c := blk_frozen Q00.out 0; have Q2d := blk_frozen Q00.out 1; have Q2e := Q0o.out; have Q2f := Q0p.out; have Q2g := Q06.out; have Q2h := Q0c.out; have Q2i : w32.cell? ⟨Q08, 0, none⟩ = some (.slice A1_0 l1_0.length c1_0) := bC Q01 0; have Q2j : w32.cell? ⟨Q08, 1, none⟩ = some (.slice A1_1 l1_1.length c1_1) := bC Q01 1; have Q2k := blk_frozen Q01.out 0; have Q2l := blk_frozen Q01.out 1; have Q2m := Q07.out; have Q2n := Q0d.out; have Q2o : w32.cell? ⟨Q09, 0, none⟩ = some (.slice A2_0 l2_0.length c2_0) := bC Q02 0; have Q2p : w32.cell? ⟨Q09, 1, none⟩ = some (.slice A2_1 l2_1.length c2_1) := bC Q02 1; have Q2q := blk_frozen Q02.out 0; have Q2r := blk_frozen Q02.out 1) | ((with_reducible refine gate_callee (f := 44) rfl ?_); refine goesL_ (some 12) rfl rfl Try.func44 (by kernel_rfl) rfl #[.agg #[.slice A0_0 l0_0.length c0_0, .slice A0_1 l0_1.length c0_1], .agg #[.slice A1_0 l1_0.length c1_0, .slice A1_1 l1_1.length c1_1], .agg #[.slice A2_0 l2_0.length c2_0, .slice A2_1 l2_1.length c2_1]] rfl aM ?_; (with_reducible refine (scarfjointref06_Valid.calls _ _ l0_0 _ _ l0_1 _ _ l1_0 _ _ l1_1 _ _ l2_0 _ _ l2_1 t105 _ ?side1 ?side2 ?side3 ?side4 ?side5 ?side6 ?side7 ?side8 ?side9 ?side10 ?side11 ?side12 A4.out).mono ?_); (case side1 => exact cX (cB HR0_0.out HB.out)); (case side2 => exact HC0_0.out); (case side3 => exact cX (cB HR0_1.out HB.out)); (case side4 => exact HC0_1.out); (case side5 => exact cX (cB HR1_0.out HB.out)); (case side6 => exact HC1_0.out); (case side7 => exact cX (cB HR1_1.out HB.out)); (case side8 => exact HC1_1.out); (case side9 => exact cX (cB HR2_0.out HB.out)); (case side10 => exact HC2_0.out); (case side11 => exact cX (cB HR2_1.out HB.out)); (case side12 => exact HC2_1.out); rintro e w42 ⟨rfl, hb⟩; refine ⟨_, rfl, ?_⟩; replace Q00 := uB Q00 hb; replace Q01 := uB Q01 hb; replace Q02 := uB Q02 hb; replace Q03 := uB Q03 hb; replace HB := uH HB hb; (try clear hb); (try clear hb2); (try clear hk); (try clear hi); have Q2s : w42.cell? ⟨Q04, 0, none⟩ = some (.slice none 0 0) := bC Q03 0; have Q2t : w42.cell? ⟨Q04, 1, none⟩ = some (.slice none 0 0) := bC Q03 1; have Q2u := blk_frozen Q03.out 0; have Q2v := blk_frozen Q03.out 1))
  refine bodyPost_ret (results_ct rfl _ _ Q04 60 #[.slice none 0 0, .slice none 0 0] (0, 0) _ rfl (by (with_reducible repeat (first | refine bN ?_ _ | refine bD ?_ | refine bA ?_ _)); refine blk_put (cs := #[.slice none 0 0, .slice none 0 0]) ?_ 1 _ rfl; (with_reducible repeat (first | refine bN ?_ _ | refine bD ?_ | refine bA ?_ _)); refine blk_put (cs := #[.slice none 0 0, .slice none 0 0]) ?_ 0 _ rfl; (with_reducible repeat (first | refine bN ?_ _ | refine bD ?_ | refine bA ?_ _)); exact Q03.out) Try.underlying60 rfl (by kernel_rfl)) rfl ?_
  exact ⟨_, _, by first | rfl | (simp [errW_none, errW_some] <;> rfl) | (simp [*, errW_none, errW_some] <;> rfl), by first | exact Kd.R_nil _ _ _ _ _ | exact Kd.N_nil _ _ _ _ _ | exact Kd.V_nil _ _ _ _ _ | exact Kd.Q_nil _ _ _ _ _ | exact Kd.S_nil _ _ _ _ _, by first | exact Kd.R_nil _ _ _ _ _ | exact Kd.N_nil _ _ _ _ _ | exact Kd.V_nil _ _ _ _ _ | exact Kd.Q_nil _ _ _ _ _ | exact Kd.S_nil _ _ _ _ _, by repeat (first | (with_reducible first | exact HB.out | apply wA | apply wN | apply wD | refine below_set ?_ Q0h.out | refine below_set ?_ Q0i.out | refine below_set ?_ Q0l.out | refine below_set ?_ Q0q.out) | exact HB.out)⟩
/-! ### scarfjointref07_ascending: function 80 -/
mutual
def scarfjointref07_ascending.l0 : Nat → List Int → Int → Int → Option (Int)
 | 0, _, _, _ => none
 | k + 1, x0, x1, x5 => if x5 < (x0.length : Int) then (if 0 ≤ x5 then (if (rd x0 x5) < 0 then (scarfjointref07_ascending.j1 k x0 x1 x5 true) else (scarfjointref07_ascending.j1 k x0 x1 x5 (decide ((rd x0 x5) ≥ x1)))) else (none)) else (some 0)
def scarfjointref07_ascending.j1 : Nat → List Int → Int → Int → Bool → Option (Int)
 | 0, _, _, _, _ => none
 | k + 1, x0, x1, x5, x24 => if x24 = true then (some 6) else (if x5 > 0 then (if 0 ≤ x5 then (if x5 < (x0.length : Int) then (if 0 ≤ (wrap64 (x5 - 1)) then (if (wrap64 (x5 - 1)) < (x0.length : Int) then (scarfjointref07_ascending.j2 k x0 x1 x5 (decide ((rd x0 x5) ≤ (rd x0 (wrap64 (x5 - 1)))))) else (none)) else (none)) else (none)) else (none)) else (scarfjointref07_ascending.j2 k x0 x1 x5 false))
def scarfjointref07_ascending.j2 : Nat → List Int → Int → Int → Bool → Option (Int)
 | 0, _, _, _, _ => none
 | k + 1, x0, x1, x5, x38 => if x38 = true then (some 12) else (scarfjointref07_ascending.l0 k x0 x1 (wrap64 (x5 + 1)))
end
def scarfjointref07_ascending.f (k : Nat) (l0 : List Int) (a1 : Int) : Option (Int) := scarfjointref07_ascending.l0 k l0 a1 0
theorem scarfjointref07_ascending.mono_l : ∀ k, (∀ y0 y1 y2, LeO (scarfjointref07_ascending.l0 k y0 y1 y2) (scarfjointref07_ascending.l0 (k + 1) y0 y1 y2)) ∧ (∀ y0 y1 y2 y3, LeO (scarfjointref07_ascending.j1 k y0 y1 y2 y3) (scarfjointref07_ascending.j1 (k + 1) y0 y1 y2 y3)) ∧ (∀ y0 y1 y2 y3, LeO (scarfjointref07_ascending.j2 k y0 y1 y2 y3) (scarfjointref07_ascending.j2 (k + 1) y0 y1 y2 y3))
 | 0 => ⟨fun _ _ _ r h => by simp [scarfjointref07_ascending.l0] at h, fun _ _ _ _ r h => by simp [scarfjointref07_ascending.j1] at h, fun _ _ _ _ r h => by simp [scarfjointref07_ascending.j2] at h⟩
 | k + 1 => by
  obtain ⟨ih0, ih1, ih2⟩ := scarfjointref07_ascending.mono_l k
  refine ⟨?_, ?_, ?_⟩
  ·intro y0 y1 y2
   unfold scarfjointref07_ascending.l0
   repeat' first
   | (with_reducible exact ih0 _ _ _)
   | (with_reducible exact ih1 _ _ _ _)
   | (with_reducible exact ih2 _ _ _ _)
   | (with_reducible exact LeO.refl _)
   | (with_reducible exact LeO.none _)
   | (with_reducible refine LeO.ite ?_ ?_)
   | (with_reducible refine LeO.bind ?_ (fun _ => ?_))
   | exact ih0 _ _ _
   | exact ih1 _ _ _ _
   | exact ih2 _ _ _ _
   | exact LeO.none _
   | refine LeO.ite ?_ ?_
   | refine LeO.bind ?_ (fun _ => ?_)
  ·intro y0 y1 y2 y3
   unfold scarfjointref07_ascending.j1
   repeat' first
   | (with_reducible exact ih0 _ _ _)
   | (with_reducible exact ih1 _ _ _ _)
   | (with_reducible exact ih2 _ _ _ _)
   | (with_reducible exact LeO.refl _)
   | (with_reducible exact LeO.none _)
   | (with_reducible refine LeO.ite ?_ ?_)
   | (with_reducible refine LeO.bind ?_ (fun _ => ?_))
   | exact ih0 _ _ _
   | exact ih1 _ _ _ _
   | exact ih2 _ _ _ _
   | exact LeO.none _
   | refine LeO.ite ?_ ?_
   | refine LeO.bind ?_ (fun _ => ?_)
  ·intro y0 y1 y2 y3
   unfold scarfjointref07_ascending.j2
   repeat' first
   | (with_reducible exact ih0 _ _ _)
   | (with_reducible exact ih1 _ _ _ _)
   | (with_reducible exact ih2 _ _ _ _)
   | (with_reducible exact LeO.refl _)
   | (with_reducible exact LeO.none _)
   | (with_reducible refine LeO.ite ?_ ?_)
   | (with_reducible refine LeO.bind ?_ (fun _ => ?_))
   | exact ih0 _ _ _
   | exact ih1 _ _ _ _
   | exact ih2 _ _ _ _
   | exact LeO.none _
   | refine LeO.ite ?_ ?_
   | refine LeO.bind ?_ (fun _ => ?_)
theorem scarfjointref07_ascending.mono : ∀ a0 a1 k, LeO (scarfjointref07_ascending.f k a0 a1) (scarfjointref07_ascending.f (k + 1) a0 a1) := by
 intro a0 a1 k
 obtain ⟨ih0, ih1, ih2⟩ := scarfjointref07_ascending.mono_l k
 unfold scarfjointref07_ascending.f
 repeat' first
   | (with_reducible exact ih0 _ _ _)
   | (with_reducible exact ih1 _ _ _ _)
   | (with_reducible exact ih2 _ _ _ _)
   | (with_reducible exact LeO.refl _)
   | (with_reducible exact LeO.none _)
   | (with_reducible refine LeO.ite ?_ ?_)
   | (with_reducible refine LeO.bind ?_ (fun _ => ?_))
   | exact ih0 _ _ _
   | exact ih1 _ _ _ _
   | exact ih2 _ _ _ _
   | exact LeO.none _
   | refine LeO.ite ?_ ?_
   | refine LeO.bind ?_ (fun _ => ?_)
set_option maxHeartbeats 8000000 in
set_option maxRecDepth 100000 in
theorem scarfjointref07_ascending.calls (k : Nat) (A0 : Option Addr) (c0 : Nat) (l0 : List Int) (a1 : Int) (r : Int) (w : World) (hr0 : Kd.C (Kd.int .i64) w A0 l0.length l0) (hc0 : l0.length ≤ c0) (h : scarfjointref07_ascending.f k l0 a1 = some r) :
  Calls Try.prog 80 #[.slice A0 l0.length c0, .int .i64 a1] w fun e w' => e = .returned (.int .i64 r) ∧ Drawn0 w w' := by
 have HR0 := Aside0.mk hr0
 have HC0 := Aside0.mk hc0
 clear hr0 hc0
 have H : (scarfjointref07_ascending.l0 k l0 a1 0) = some r := h
 clear h
 have H' := Aside0.mk H
 clear H
 go_enter Try.func80, Try.ntmps80
 go_wp2
 repeat (go_quiet (fail); try go_wp2)
 go_loopg [5] k (fun kq v5 w' => ∃ (x5_1 : Int), v5 = .int .i64 x5_1 ∧ Aside0 (scarfjointref07_ascending.l0 kq l0 a1 x5_1 = some r) ∧ Aside0 (kq ≤ k) ∧ Drawn0 w w')
 case atStart => exact ⟨(0), rS, H', ⟨Nat.le_refl _⟩, by repeat (first | exact Drawn0.refl _ | apply Drawn0.step)⟩
 case round =>
  clear H'
  try clear p2
  obtain ⟨x5_1, rfl, HA, HK1, ⟨m1, rfl⟩⟩ := hrel
  cases gk with
  | zero => exact absurd HA.out (by simp [scarfjointref07_ascending.l0])
  | succ k1 =>
   have H := HA.out
   clear HA
   simp only [scarfjointref07_ascending.l0] at H
   by_cases c3 : x5_1 < (l0.length : Int)
   ·rw [if_pos c3] at H
    have c3b0 : decide (x5_1 < (l0.length : Int)) = true := decide_eq_true c3
    clear c3
    have HC4 := Aside0.mk H
    clear H
    go_upto_region 4 with (fail)
    repeat (go_quiet (fail); go_upto_region 4 with (fail))
    go_cut [24] (fun v24 wc => ∃ (kq : Nat) (x24_3 : Bool), v24 = .bool x24_3 ∧ Aside0 (scarfjointref07_ascending.j1 kq l0 a1 x5_1 x24_3 = some r) ∧ Aside0 (kq ≤ k1) ∧ Drawn0 w wc)
    case first =>
     have H := HC4.out
     clear HC4
     by_cases c5 : 0 ≤ x5_1
     ·rw [if_pos c5] at H
      have c5b0 : decide (0 ≤ x5_1) = true := decide_eq_true c5
      clear c5
      (first | rw [c5b0] | (simp only [i64_w, i32_w]; rw [c5b0]) | skip)
      by_cases c6 : (rd l0 x5_1) < 0
      ·rw [if_pos c6] at H
       have c6b0 : decide ((rd l0 x5_1) < 0) = true := decide_eq_true c6
       clear c6
       have H' := Aside0.mk H
       clear H
       have p101 : 0 ≤ (x5_1 : Int) := oT
       have q101 : x5_1 < (l0.length : Int) := oT
       obtain ⟨ad101, e101, hx101_0⟩ := Kd.at_int HR0.out x5_1 p101 q101
       cases e101
       replace p101 := eq_true p101
       replace q101 := eq_true q101
       go_wp2
       repeat (go_quiet (fail); try go_wp2)
       go_meet
       case rel => exact ⟨_, (true), rS, H', ⟨by have := HK1.out; first | omega | exact Nat.le_refl _⟩, by repeat (first | exact Drawn0.refl _ | apply Drawn0.step)⟩
      ·rw [if_neg c6] at H
       have c6b0 : decide ((rd l0 x5_1) < 0) = false := decide_eq_false c6
       clear c6
       have H' := Aside0.mk H
       clear H
       have p101 : 0 ≤ (x5_1 : Int) := oT
       have q101 : x5_1 < (l0.length : Int) := oT
       obtain ⟨ad101, e101, hx101_0⟩ := Kd.at_int HR0.out x5_1 p101 q101
       cases e101
       replace p101 := eq_true p101
       replace q101 := eq_true q101
       have p102 : 0 ≤ (x5_1 : Int) := oT
       have q102 : x5_1 < (l0.length : Int) := oT
       obtain ⟨ad102, e102, hx102_0⟩ := Kd.at_int HR0.out x5_1 p102 q102
       obtain rfl : ad101 = ad102 := (by injection e102)
       replace p102 := eq_true p102
       replace q102 := eq_true q102
       go_wp2
       repeat (go_quiet (fail); try go_wp2)
       go_meet
       case rel => exact ⟨_, (decide ((rd l0 x5_1) ≥ a1)), rS, H', ⟨by have := HK1.out; first | omega | exact Nat.le_refl _⟩, by repeat (first | exact Drawn0.refl _ | apply Drawn0.step)⟩
     ·rw [if_neg c5] at H
      exact absurd H (by simp)
    case rest =>
     clear HC4
     try clear p2; try clear c3; try clear c3b0; try clear c5; try clear c5b0; try clear c6; try clear c6b0; try clear hx101_0; try clear hx102_0; try clear p2; try clear p101; try clear p102; try clear q101; try clear q102
     obtain ⟨kq, x24_3, rfl, HA, HJ3, ⟨mc3, rfl⟩⟩ := hcut
     cases kq with
     | zero => exact absurd HA.out (by simp [scarfjointref07_ascending.j1])
     | succ kj3 =>
      have H := HA.out
      clear HA
      simp only [scarfjointref07_ascending.j1] at H
      by_cases c7 : x24_3 = true
      ·subst c7
       have H1 : (some 6) = some r := by rw [if_pos rfl] at H; exact H
       clear H
       have H := H1
       clear H1
       obtain rfl := Option.some.inj H
       go_wp2
       repeat (go_quiet (fail); try go_wp2)
       go_ret
       exact ⟨by first | rfl | (simp; done) | (simp [*]; done), by repeat (first | exact Drawn0.refl _ | apply Drawn0.step)⟩
      ·replace c7 := Bool.eq_false_iff.mpr c7
       subst c7
       have H1 : (if x5_1 > 0 then (if 0 ≤ x5_1 then (if x5_1 < (l0.length : Int) then (if 0 ≤ (wrap64 (x5_1 - 1)) then (if (wrap64 (x5_1 - 1)) < (l0.length : Int) then (scarfjointref07_ascending.j2 kj3 l0 a1 x5_1 (decide ((rd l0 x5_1) ≤ (rd l0 (wrap64 (x5_1 - 1)))))) else (none)) else (none)) else (none)) else (none)) else (scarfjointref07_ascending.j2 kj3 l0 a1 x5_1 false)) = some r := by rw [if_neg (show ¬ (false = true) by decide)] at H; exact H
       clear H
       have H := H1
       clear H1
       have HC8 := Aside0.mk H
       clear H
       go_upto_region 6 with (fail)
       repeat (go_quiet (fail); go_upto_region 6 with (fail))
       go_cut [38] (fun v38 wc => ∃ (kq : Nat) (x38_7 : Bool), v38 = .bool x38_7 ∧ Aside0 (scarfjointref07_ascending.j2 kq l0 a1 x5_1 x38_7 = some r) ∧ Aside0 (kq ≤ kj3) ∧ Drawn0 w wc)
       case first =>
        have H := HC8.out
        clear HC8
        by_cases c9 : x5_1 > 0
        ·rw [if_pos c9] at H
         have c9b0 : decide (0 < x5_1) = true := decide_eq_true c9
         clear c9
         (first | rw [c9b0] | (simp only [i64_w, i32_w]; rw [c9b0]) | skip)
         by_cases c10 : 0 ≤ x5_1
         ·rw [if_pos c10] at H
          have c10b0 : decide (0 ≤ x5_1) = true := decide_eq_true c10
          clear c10
          by_cases c11 : x5_1 < (l0.length : Int)
          ·rw [if_pos c11] at H
           have c11b0 : decide (x5_1 < (l0.length : Int)) = true := decide_eq_true c11
           clear c11
           obtain ⟨ji12, hji12⟩ : ∃ j_ : Int, (wrap64 (x5_1 - 1)) = j_ := ⟨_, rfl⟩
           replace H : (if 0 ≤ (ji12) then (if (ji12) < (l0.length : Int) then (scarfjointref07_ascending.j2 kj3 l0 a1 x5_1 (decide ((rd l0 x5_1) ≤ (rd l0 (ji12))))) else (none)) else (none)) = some r := by first | (rw [hji12] at H; exact H) | (simp only [hji12] at H ⊢; exact H)
           have hji12w : (IntKind.i64.wrap (x5_1 - 1)) = ji12 := (i64_w _).trans hji12
           by_cases c13 : 0 ≤ (ji12)
           ·rw [if_pos c13] at H
            have c13b0 : decide (0 ≤ (ji12)) = true := decide_eq_true c13
            clear c13
            by_cases c14 : (ji12) < (l0.length : Int)
            ·rw [if_pos c14] at H
             have c14b0 : decide ((ji12) < (l0.length : Int)) = true := decide_eq_true c14
             clear c14
             have H' := Aside0.mk H
             clear H
             have p103 : 0 ≤ (x5_1 : Int) := oT
             have q103 : x5_1 < (l0.length : Int) := oT
             obtain ⟨ad103, e103, hx103_0⟩ := Kd.at_int HR0.out x5_1 p103 q103
             cases e103
             replace p103 := eq_true p103
             replace q103 := eq_true q103
             have p104 : 0 ≤ ((ji12) : Int) := oT
             have q104 : (ji12) < (l0.length : Int) := oT
             obtain ⟨ad104, e104, hx104_0⟩ := Kd.at_int HR0.out (ji12) p104 q104
             obtain rfl : ad103 = ad104 := (by injection e104)
             replace p104 := eq_true p104
             replace q104 := eq_true q104
             go_wp2
             repeat (go_quiet (fail); try go_wp2)
             go_meet
             case rel => exact ⟨_, (decide ((rd l0 x5_1) ≤ (rd l0 (ji12)))), (by first | rfl | (simp; done) | (simp only [← hji12] <;> (first | rfl | simp)) | (simp [*]; done)), H', ⟨by have := HK1.out; have := HJ3.out; first | omega | exact Nat.le_refl _⟩, by repeat (first | exact Drawn0.refl _ | apply Drawn0.step)⟩
            ·rw [if_neg c14] at H
             exact absurd H (by simp)
           ·rw [if_neg c13] at H
            exact absurd H (by simp)
          ·rw [if_neg c11] at H
           exact absurd H (by simp)
         ·rw [if_neg c10] at H
          exact absurd H (by simp)
        ·rw [if_neg c9] at H
         have c9b0 : decide (0 < x5_1) = false := decide_eq_false c9
         clear c9
         (first | rw [c9b0] | (simp only [i64_w, i32_w]; rw [c9b0]) | skip)
         have H' := Aside0.mk H
         clear H
         go_wp2
         repeat (go_quiet (fail); try go_wp2)
         go_meet
         case rel => exact ⟨_, (false), rS, H', ⟨by have := HK1.out; have := HJ3.out; first | omega | exact Nat.le_refl _⟩, by repeat (first | exact Drawn0.refl _ | apply Drawn0.step)⟩
       case rest =>
        clear HC8
        try clear c1; try clear p2; try clear c3; try clear c3b0; try clear c5; try clear c5b0; try clear c6; try clear c6b0; try clear p6; try clear c7; try clear c8; try clear p8; try clear q8; try clear hx8; try clear c9; try clear c9b0; try clear c10; try clear c10b0; try clear c11; try clear c11b0; try clear c13; try clear c13b0; try clear c14; try clear c14b0; try clear hx101_0; try clear hx102_0; try clear hx103_0; try clear hx104_0; try clear p2; try clear p101; try clear p102; try clear p103; try clear p104; try clear q101; try clear q102; try clear q103; try clear q104
        obtain ⟨kq, x38_7, rfl, HA, HJ7, ⟨mc7, rfl⟩⟩ := hcut
        cases kq with
        | zero => exact absurd HA.out (by simp [scarfjointref07_ascending.j2])
        | succ kj7 =>
         have H := HA.out
         clear HA
         simp only [scarfjointref07_ascending.j2] at H
         by_cases c15 : x38_7 = true
         ·subst c15
          have H1 : (some 12) = some r := by rw [if_pos rfl] at H; exact H
          clear H
          have H := H1
          clear H1
          obtain rfl := Option.some.inj H
          go_wp2
          repeat (go_quiet (fail); try go_wp2)
          go_ret
          exact ⟨by first | rfl | (simp; done) | (simp [*]; done), by repeat (first | exact Drawn0.refl _ | apply Drawn0.step)⟩
         ·replace c15 := Bool.eq_false_iff.mpr c15
          subst c15
          have H1 : (scarfjointref07_ascending.l0 kj7 l0 a1 (wrap64 (x5_1 + 1))) = some r := by rw [if_neg (show ¬ (false = true) by decide)] at H; exact H
          clear H
          have H := H1
          clear H1
          have H' := Aside0.mk H
          clear H
          go_wp2
          repeat (go_quiet (fail); try go_wp2)
          go_roundg kj7
          case measure => have := HK1.out; have := HJ3.out; have := HJ7.out; omega
          case rel => exact ⟨(wrap64 (x5_1 + 1)), rS, H', ⟨by have := HK1.out; have := HJ3.out; have := HJ7.out; omega⟩, by repeat (first | exact Drawn0.refl _ | apply Drawn0.step)⟩
   ·rw [if_neg c3] at H
    have c3b0 : decide (x5_1 < (l0.length : Int)) = false := decide_eq_false c3
    clear c3
    obtain rfl := Option.some.inj H
    go_wp2
    repeat (go_quiet (fail); try go_wp2)
    go_ret
    exact ⟨by first | rfl | (simp; done) | (simp [*]; done), by repeat (first | exact Drawn0.refl _ | apply Drawn0.step)⟩
/-! ### scarfjointref07_Right: function 59 -/
mutual
def scarfjointref07_Right.l0 : Nat → Int → List Int → List (S94) → List Int → List Int → Option (Int)
 | 0, _, _, _, _, _ => none
 | k + 1, x7, x102000, x102001, x103000, x103001 => if x7 < (x103001.length : Int) then (if 0 ≤ x7 then (if 0 ≤ (rd x103001 x7) then (if (rd x103001 x7) < (x102001.length : Int) then ((scarfjointref07_has.f k x103000 ((rd_T94 x102001 (rd x103001 x7)).f1)).bind fun t108 => (if t108 = true then ((scarfjointref07_has.f k x103000 ((rd_T94 x102001 (rd x103001 x7)).f2)).bind fun t109 => (scarfjointref07_Right.j1 k x7 (!t109) x102000 x102001 x103000 x103001)) else (scarfjointref07_Right.j1 k x7 true x102000 x102001 x103000 x103001))) else (none)) else (none)) else (none)) else (some 0)
def scarfjointref07_Right.j1 : Nat → Int → Bool → List Int → List (S94) → List Int → List Int → Option (Int)
 | 0, _, _, _, _, _, _ => none
 | k + 1, x7, x56, x102000, x102001, x103000, x103001 => if x56 = true then (some 14) else (scarfjointref07_Right.l0 k (wrap64 (x7 + 1)) x102000 x102001 x103000 x103001)
end
def scarfjointref07_Right.f (k : Nat) (l0_0 : List Int) (l0_1 : List (S94)) (l1_0 : List Int) (l1_1 : List Int) : Option (Int) := (scarfjointref07_ascending.f k l1_0 (l0_0.length : Int)).bind fun t103 => (if t103 = 0 then ((scarfjointref07_ascending.f k l1_1 (l0_1.length : Int)).bind fun t104 => (if t104 = 0 then (scarfjointref07_Right.l0 k 0 l0_0 l0_1 l1_0 l1_1) else (some t104))) else (some t103))
theorem scarfjointref07_Right.mono_l : ∀ k, (∀ y0 y1 y2 y3 y4, LeO (scarfjointref07_Right.l0 k y0 y1 y2 y3 y4) (scarfjointref07_Right.l0 (k + 1) y0 y1 y2 y3 y4)) ∧ (∀ y0 y1 y2 y3 y4 y5, LeO (scarfjointref07_Right.j1 k y0 y1 y2 y3 y4 y5) (scarfjointref07_Right.j1 (k + 1) y0 y1 y2 y3 y4 y5))
 | 0 => ⟨fun _ _ _ _ _ r h => by simp [scarfjointref07_Right.l0] at h, fun _ _ _ _ _ _ r h => by simp [scarfjointref07_Right.j1] at h⟩
 | k + 1 => by
  obtain ⟨ih0, ih1⟩ := scarfjointref07_Right.mono_l k
  refine ⟨?_, ?_⟩
  ·intro y0 y1 y2 y3 y4
   unfold scarfjointref07_Right.l0
   repeat' first
   | (with_reducible exact ih0 _ _ _ _ _)
   | (with_reducible exact ih1 _ _ _ _ _ _)
   | (with_reducible exact scarfjointref07_ascending.mono _ _ _)
   | (with_reducible exact scarfjointref07_has.mono _ _ _)
   | (with_reducible exact LeO.refl _)
   | (with_reducible exact LeO.none _)
   | (with_reducible refine LeO.ite ?_ ?_)
   | (with_reducible refine LeO.bind ?_ (fun _ => ?_))
   | exact ih0 _ _ _ _ _
   | exact ih1 _ _ _ _ _ _
   | exact scarfjointref07_ascending.mono _ _ _
   | exact scarfjointref07_has.mono _ _ _
   | exact LeO.none _
   | refine LeO.ite ?_ ?_
   | refine LeO.bind ?_ (fun _ => ?_)
  ·intro y0 y1 y2 y3 y4 y5
   unfold scarfjointref07_Right.j1
   repeat' first
   | (with_reducible exact ih0 _ _ _ _ _)
   | (with_reducible exact ih1 _ _ _ _ _ _)
   | (with_reducible exact scarfjointref07_ascending.mono _ _ _)
   | (with_reducible exact scarfjointref07_has.mono _ _ _)
   | (with_reducible exact LeO.refl _)
   | (with_reducible exact LeO.none _)
   | (with_reducible refine LeO.ite ?_ ?_)
   | (with_reducible refine LeO.bind ?_ (fun _ => ?_))
   | exact ih0 _ _ _ _ _
   | exact ih1 _ _ _ _ _ _
   | exact scarfjointref07_ascending.mono _ _ _
   | exact scarfjointref07_has.mono _ _ _
   | exact LeO.none _
   | refine LeO.ite ?_ ?_
   | refine LeO.bind ?_ (fun _ => ?_)
theorem scarfjointref07_Right.mono : ∀ a0 a1 a2 a3 k, LeO (scarfjointref07_Right.f k a0 a1 a2 a3) (scarfjointref07_Right.f (k + 1) a0 a1 a2 a3) := by
 intro a0 a1 a2 a3 k
 obtain ⟨ih0, ih1⟩ := scarfjointref07_Right.mono_l k
 unfold scarfjointref07_Right.f
 repeat' first
   | (with_reducible exact ih0 _ _ _ _ _)
   | (with_reducible exact ih1 _ _ _ _ _ _)
   | (with_reducible exact scarfjointref07_ascending.mono _ _ _)
   | (with_reducible exact scarfjointref07_has.mono _ _ _)
   | (with_reducible exact LeO.refl _)
   | (with_reducible exact LeO.none _)
   | (with_reducible refine LeO.ite ?_ ?_)
   | (with_reducible refine LeO.bind ?_ (fun _ => ?_))
   | exact ih0 _ _ _ _ _
   | exact ih1 _ _ _ _ _ _
   | exact scarfjointref07_ascending.mono _ _ _
   | exact scarfjointref07_has.mono _ _ _
   | exact LeO.none _
   | refine LeO.ite ?_ ?_
   | refine LeO.bind ?_ (fun _ => ?_)
def scarfjointref07_Right.T10 : Bool × List (List Nat × List Nat) := (true, [([], []), ([0], [0]), ([], []), ([2], [2]), ([], []), ([3, 4], [3, 4]), ([5], [5]), ([1, 6], [1, 6]), ([7], [7]), ([], []), ([9, 8, 0, 1, 2, 3, 4, 5, 6, 7, 8, 9], [8, 9])])
def scarfjointref07_Right.B10 : List Nat := [0, 1, 0, 4, 0, 28, 60, 127, 255, 0, 1023]
theorem scarfjointref07_Right.tab10 : rtab .any (opsOf Try.f59 10) = scarfjointref07_Right.T10 := by kernel_rfl
theorem scarfjointref07_Right.bits10 : waitsOk scarfjointref07_Right.T10.2 scarfjointref07_Right.B10 = true := by kernel_rfl
set_option maxHeartbeats 8000000 in
set_option maxRecDepth 100000 in
theorem scarfjointref07_Right.calls (k : Nat) (A0_0 : Option Addr) (c0_0 : Nat) (l0_0 : List Int) (A0_1 : Option Addr) (c0_1 : Nat) (l0_1 : List (S94)) (A1_0 : Option Addr) (c1_0 : Nat) (l1_0 : List Int) (A1_1 : Option Addr) (c1_1 : Nat) (l1_1 : List Int) (r : Int) (w : World) (hr0_0 : Kd.C (Kd.int .i64) w A0_0 l0_0.length l0_0) (hc0_0 : l0_0.length ≤ c0_0) (hr0_1 : Kd.C k94 w A0_1 l0_1.length l0_1) (hc0_1 : l0_1.length ≤ c0_1) (hr1_0 : Kd.C (Kd.int .i64) w A1_0 l1_0.length l1_0) (hc1_0 : l1_0.length ≤ c1_0) (hr1_1 : Kd.C (Kd.int .i64) w A1_1 l1_1.length l1_1) (hc1_1 : l1_1.length ≤ c1_1) (h : scarfjointref07_Right.f k l0_0 l0_1 l1_0 l1_1 = some r) :
  Calls Try.prog 59 #[.agg #[.slice A0_0 l0_0.length c0_0, .slice A0_1 l0_1.length c0_1], .agg #[.slice A1_0 l1_0.length c1_0, .slice A1_1 l1_1.length c1_1]] w fun e w' => e = .returned (.int .i64 r) ∧ Below w.heap.size w w' := by
 have hu25 := Try.underlying25
 have hu60 := Try.underlying60
 have hu94 := Try.underlying94
 have HR0_0 := Aside0.mk hr0_0
 have HC0_0 := Aside0.mk hc0_0
 clear hr0_0 hc0_0
 have HR0_1 := Aside0.mk hr0_1
 have HC0_1 := Aside0.mk hc0_1
 clear hr0_1 hc0_1
 have HR1_0 := Aside0.mk hr1_0
 have HC1_0 := Aside0.mk hc1_0
 clear hr1_0 hc1_0
 have HR1_1 := Aside0.mk hr1_1
 have HC1_1 := Aside0.mk hc1_1
 clear hr1_1 hc1_1
 have HB := Aside0.mk (Below.refl w.heap.size w)
 have H : ((scarfjointref07_ascending.f k l1_0 (l0_0.length : Int)).bind fun t103 => (if t103 = 0 then ((scarfjointref07_ascending.f k l1_1 (l0_1.length : Int)).bind fun t104 => (if t104 = 0 then (scarfjointref07_Right.l0 k 0 l0_0 l0_1 l1_0 l1_1) else (some t104))) else (some t103))) = some r := h
 clear h
 replace H := Option.bind_eq_some_iff.mp H
 obtain ⟨t103, A30, H⟩ := H
 replace H : (if t103 = 0 then ((scarfjointref07_ascending.f k l1_1 (l0_1.length : Int)).bind fun t104 => (if t104 = 0 then (scarfjointref07_Right.l0 k 0 l0_0 l0_1 l1_0 l1_1) else (some t104))) else (some t103)) = some r := H
 have A3 := Aside0.mk A30
 clear A30
 by_cases c4 : t103 = 0
 ·rw [if_pos c4] at H
  have c4b0 : (t103 == 0) = true := beq_iff_eq.mpr c4
  have c4b1 : (t103 != 0) = false := bne_eq_false_iff_eq.mpr c4
  clear c4
  replace H := Option.bind_eq_some_iff.mp H
  obtain ⟨t104, A50, H⟩ := H
  replace H : (if t104 = 0 then (scarfjointref07_Right.l0 k 0 l0_0 l0_1 l1_0 l1_1) else (some t104)) = some r := H
  have A5 := Aside0.mk A50
  clear A50
  by_cases c6 : t104 = 0
  ·rw [if_pos c6] at H
   have c6b0 : (t104 == 0) = true := beq_iff_eq.mpr c6
   have c6b1 : (t104 != 0) = false := bne_eq_false_iff_eq.mpr c6
   clear c6
   have H' := Aside0.mk H
   clear H
   go_enter Try.func59, Try.ntmps59
   go_wp2_with (first | ((with_reducible refine gate_dst (N := 2) rfl ?_); refine box_event ?hg (N := 2) ?hd (cs := #[.slice A0_0 l0_0.length c0_0, .slice A0_1 l0_1.length c0_1]) (t := 25) ?hr ?_; (case hd => rfl); (case hg => rfl); (case hr => first | (go_simp; done) | (go_simp; rfl)); intro Q04 hg w7 hbox hb; have Q01 := Aside0.mk (hbox); have Q0f := Aside0.mk ((by rw [hg]; exact (below_size hB) : w.heap.size ≤ Q04)); have Q0b := Aside0.mk ((by rw [hg]; exact (below_size hB) : w.heap.size ≤ Q04)); replace HB := uH HB hb; clear hb hbox hg) | ((with_reducible refine gate_dst (N := 3) rfl ?_); refine box_event ?hg (N := 3) ?hd (cs := #[.slice A1_0 l1_0.length c1_0, .slice A1_1 l1_1.length c1_1]) (t := 60) ?hr ?_; (case hd => rfl); (case hg => rfl); (case hr => first | (go_simp; done) | (go_simp; rfl)); intro Q03 hg w8 hbox hb; have Q00 := Aside0.mk (hbox); have Q0g := uS HB hg; have Q0c := uS HB hg; replace HB := uH HB hb; have Q09 := uL Q01 hg; have Q0a := uG Q01 hg; replace Q01 := uB Q01 hb; clear hb hbox hg; have Q1e := Q0a.out; have Q1f := Q09.out; have Q0h : w8.cell? ⟨Q03, 0, none⟩ = some (.slice A1_0 l1_0.length c1_0) := bC Q00 0; have Q0i : w8.cell? ⟨Q03, 1, none⟩ = some (.slice A1_1 l1_1.length c1_1) := bC Q00 1; have Q0j := blk_frozen Q00.out 0; have Q0k := blk_frozen Q00.out 1; have Q0l : w8.cell? ⟨Q04, 0, none⟩ = some (.slice A0_0 l0_0.length c0_0) := bC Q01 0; have Q0m : w8.cell? ⟨Q04, 1, none⟩ = some (.slice A0_1 l0_1.length c0_1) := bC Q01 1; have Q0n := blk_frozen Q01.out 0; have Q0o := blk_frozen Q01.out 1) | ((with_reducible refine gate_callee (f := 80) rfl ?_); refine goesL_ (some 14) rfl rfl Try.func80 (by kernel_rfl) rfl #[.slice A1_0 l1_0.length c1_0, .int .i64 (l0_0.length : Int)] rfl aM ?_; (with_reducible refine (scarfjointref07_ascending.calls k _ _ l1_0 (l0_0.length : Int) t103 _ ?side1 ?side2 A3.out).mono ?_); (case side1 => exact cX (cB HR1_0.out HB.out)); (case side2 => exact HC1_0.out); rintro e w' ⟨rfl, ⟨nd, rfl⟩⟩; refine ⟨_, rfl, ?_⟩) | ((with_reducible refine gate_callee (f := 80) rfl ?_); refine goesL_ (some 23) rfl rfl Try.func80 (by kernel_rfl) rfl #[.slice A1_1 l1_1.length c1_1, .int .i64 (l0_1.length : Int)] rfl aM ?_; (with_reducible refine (scarfjointref07_ascending.calls k _ _ l1_1 (l0_1.length : Int) t104 _ ?side1 ?side2 A5.out).mono ?_); (case side1 => repeat (first | exact (cB HR1_1.out (pH HB)) | (with_reducible refine cA ?_ _) | (with_reducible refine cN ?_ _) | (with_reducible refine cD ?_))); (case side2 => exact HC1_1.out); rintro e w' ⟨rfl, ⟨nd, rfl⟩⟩; refine ⟨_, rfl, ?_⟩))
   go_loopg [7] k (fun kq v7 w' => ∃ (x7_1 : Int), v7 = .int .i64 x7_1 ∧ Aside0 (scarfjointref07_Right.l0 kq x7_1 l0_0 l0_1 l1_0 l1_1 = some r) ∧ Aside0 (kq ≤ k) ∧ Aside0 (w'.heap[Q04]? = some (.cells #[(.slice A0_0 l0_0.length c0_0), (.slice A0_1 l0_1.length c0_1)] 25 (0, 0))) ∧ Aside0 (w'.heap[Q03]? = some (.cells #[(.slice A1_0 l1_0.length c1_0), (.slice A1_1 l1_1.length c1_1)] 60 (0, 0))) ∧ Aside0 (Below w.heap.size w w'))
   case atStart => exact ⟨(0), rS, H', ⟨Nat.le_refl _⟩, ⟨pB Q01⟩, ⟨pB Q00⟩, ⟨pH HB⟩⟩
   case round =>
    clear H'
    try clear c1; try clear p2; try clear c4; try clear c4b0; try clear c4b1; try clear c5; try clear c6; try clear c6b0; try clear c6b1; try clear c8; try clear c9; try clear Q0h; try clear Q0i; try clear Q0l; try clear Q0m; try clear Q0j; try clear Q0k; try clear Q0n; try clear Q0o
    obtain ⟨x7_1, rfl, HA, HK1, Q01, Q00, HB⟩ := hrel
    cases gk with
    | zero => exact absurd HA.out (by simp [scarfjointref07_Right.l0])
    | succ k1 =>
     have H := HA.out
     clear HA
     simp only [scarfjointref07_Right.l0] at H
     by_cases c12 : x7_1 < (l1_1.length : Int)
     ·rw [if_pos c12] at H
      have c12b0 : decide (x7_1 < (l1_1.length : Int)) = true := decide_eq_true c12
      clear c12
      by_cases c13 : 0 ≤ x7_1
      ·rw [if_pos c13] at H
       have c13b0 : decide (0 ≤ x7_1) = true := decide_eq_true c13
       clear c13
       by_cases c14 : 0 ≤ (rd l1_1 x7_1)
       ·rw [if_pos c14] at H
        have c14b0 : decide (0 ≤ (rd l1_1 x7_1)) = true := decide_eq_true c14
        clear c14
        by_cases c15 : (rd l1_1 x7_1) < (l0_1.length : Int)
        ·rw [if_pos c15] at H
         have c15b0 : decide ((rd l1_1 x7_1) < (l0_1.length : Int)) = true := decide_eq_true c15
         clear c15
         have HC16 := Aside0.mk H
         clear H
         have Q1g := Q0a.out
         have Q1h := Q09.out
         have Q0p : wr.cell? ⟨Q03, 0, none⟩ = some (.slice A1_0 l1_0.length c1_0) := bC Q00 0
         have Q0q : wr.cell? ⟨Q03, 1, none⟩ = some (.slice A1_1 l1_1.length c1_1) := bC Q00 1
         have Q0r := blk_frozen Q00.out 0
         have Q0s := blk_frozen Q00.out 1
         try go_wp2
         replace Q01 := Aside0.mk (bD Q01.out)
         replace Q00 := Aside0.mk (bD Q00.out)
         replace HB := Aside0.mk (wD HB.out)
         have p105 : 0 ≤ (x7_1 : Int) := oT
         have q105 : x7_1 < (l1_1.length : Int) := oT
         obtain ⟨ad105, e105, hx105_0⟩ := Kd.at_int HR1_1.out x7_1 p105 q105
         have hw105_0 := hx105_0
         cases e105
         replace hx105_0 := (HB.out.cell (World.block_lt_of_cell? w _ hx105_0)).trans hx105_0
         replace p105 := eq_true p105
         replace q105 := eq_true q105
         have p106 : 0 ≤ ((rd l1_1 x7_1) : Int) := oT
         have q106 : (rd l1_1 x7_1) < (l0_1.length : Int) := oT
         obtain ⟨ad106, e106, hx106_0, hx106_1, hx106_2⟩ := at_T94 HR0_1.out (rd l1_1 x7_1) p106 q106
         have hw106_2 := hx106_2
         have hw106_1 := hx106_1
         have hw106_0 := hx106_0
         cases e106
         replace hx106_0 := (HB.out.cell (World.block_lt_of_cell? w _ hx106_0)).trans hx106_0
         replace hx106_1 := (HB.out.cell (World.block_lt_of_cell? w _ hx106_1)).trans hx106_1
         replace hx106_2 := (HB.out.cell (World.block_lt_of_cell? w _ hx106_2)).trans hx106_2
         replace p106 := eq_true p106
         replace q106 := eq_true q106
         refine start_ (n := 11) (S := fun w' => w'.cell? ⟨Q04, 0, none⟩ = some (.slice A0_0 l0_0.length c0_0) ∧ w'.cell? ⟨Q04, 1, none⟩ = some (.slice (some ad106) l0_1.length c0_1) ∧ w'.cell? ⟨Q03, 0, none⟩ = some (.slice A1_0 l1_0.length c1_0) ∧ w'.cell? ⟨Q03, 1, none⟩ = some (.slice (some ad105) l1_1.length c1_1) ∧ w'.cell? (ad105.add (x7_1).toNat) = some (.int .i64 (rd l1_1 x7_1)) ∧ w'.cell? (ad106.add (((rd l1_1 x7_1)).toNat * 3)) = some (.int .i64 ((rd_T94 l0_1 (rd l1_1 x7_1)).f0)) ∧ w'.cell? ⟨(ad106.add (((rd l1_1 x7_1)).toNat * 3)).block, (ad106.add (((rd l1_1 x7_1)).toNat * 3)).off + 1, none⟩ = some (.int .i64 ((rd_T94 l0_1 (rd l1_1 x7_1)).f1)) ∧ w'.cell? ⟨(ad106.add (((rd l1_1 x7_1)).toNat * 3)).block, (ad106.add (((rd l1_1 x7_1)).toNat * 3)).off + 2, none⟩ = some (.int .i64 ((rd_T94 l0_1 (rd l1_1 x7_1)).f2))) (ds := []) #[false, false, false, false, false, false, false, false, false, false, false] (by kernel_rfl) rfl rfl ⟨bC Q01 0, bC Q01 1, bC Q00 0, bC Q00 1, ((HB.out.cell (World.block_lt_of_cell? w _ hw105_0)).trans hw105_0), ((HB.out.cell (World.block_lt_of_cell? w _ hw106_0)).trans hw106_0), ((HB.out.cell (World.block_lt_of_cell? w _ hw106_1)).trans hw106_1), ((HB.out.cell (World.block_lt_of_cell? w _ hw106_2)).trans hw106_2)⟩ (fun hHeld => ?_); refine with_tabW scarfjointref07_Right.tab10 scarfjointref07_Right.bits10 (fun HT_ HW_ => ?_)
         generalize wr.drew = w19 at Q01 Q00 HB hx105_0 hx106_0 hx106_1 hx106_2 hHeld ⊢
         refine pure_ (i := 0) (N := some 34) (v := ?_) (a' := ?_) #[true, false, false, false, false, false, false, false, false, false, false] rfl rfl (any_of HT_.out (by kernel_rfl)) (fun _ _ _ h => h) (Or.inl ⟨by rfl, ?_⟩) ?_ ?_
         rotate_left
         ·intro w'
          go_simp
          with_reducible rfl
         rotate_left
         ·simp only [Act.put, List.setIfInBounds_toArray, List.set_cons_zero, List.set_cons_succ, i64_w, i32_w]
          rfl
         refine pure_ (i := 2) (N := some 36) (v := ?_) (a' := ?_) #[true, false, true, false, false, false, false, false, false, false, false] rfl rfl (any_of HT_.out (by kernel_rfl)) (fun _ _ _ h => h) (Or.inl ⟨by rfl, ?_⟩) ?_ ?_
         rotate_left
         ·intro w'
          go_simp
          with_reducible rfl
         rotate_left
         ·simp only [Act.put, List.setIfInBounds_toArray, List.set_cons_zero, List.set_cons_succ, i64_w, i32_w]
          rfl
         refine pure_ (i := 4) (N := some 38) (v := ?_) (a' := ?_) #[true, false, true, false, true, false, false, false, false, false, false] rfl rfl (any_of HT_.out (by kernel_rfl)) (fun _ _ _ h => h) (Or.inl ⟨by rfl, ?_⟩) ?_ ?_
         rotate_left
         ·intro w'
          go_simp
          with_reducible rfl
         rotate_left
         ·simp only [Act.put, List.setIfInBounds_toArray, List.set_cons_zero, List.set_cons_succ, i64_w, i32_w]
          rfl
         refine take_ (i := 1) (N := some 35) (v := ?_) (a' := ?_) #[true, true, true, false, true, false, false, false, false, false, false] rfl rfl (take_ofW HT_.out HW_.out (by kernel_rfl)) (fun _ _ _ h => h) (Or.inl ⟨by rfl, ?_⟩) hHeld ?_ ?_
         rotate_left
         ·rintro w' ⟨s0, s1, s2, s3, s4, s5, s6, s7⟩
          go_simp
          with_reducible rfl
         rotate_left
         ·simp only [Act.put, List.setIfInBounds_toArray, List.set_cons_zero, List.set_cons_succ, i64_w, i32_w]
          rfl
         refine take_ (i := 3) (N := some 37) (v := ?_) (a' := ?_) #[true, true, true, true, true, false, false, false, false, false, false] rfl rfl (take_ofW HT_.out HW_.out (by kernel_rfl)) (fun _ _ _ h => h) (Or.inl ⟨by rfl, ?_⟩) hHeld ?_ ?_
         rotate_left
         ·rintro w' ⟨s0, s1, s2, s3, s4, s5, s6, s7⟩
          go_simp
          with_reducible rfl
         rotate_left
         ·simp only [Act.put, List.setIfInBounds_toArray, List.set_cons_zero, List.set_cons_succ, i64_w, i32_w]
          rfl
         refine pure_ (i := 5) (N := some 39) (v := ?_) (a' := ?_) #[true, true, true, true, true, true, false, false, false, false, false] rfl rfl (any_of HT_.out (by kernel_rfl)) (fun _ _ _ h => h) (Or.inl ⟨by rfl, ?_⟩) ?_ ?_
         rotate_left
         ·intro w'
          go_simp
          with_reducible rfl
         rotate_left
         ·simp only [Act.put, List.setIfInBounds_toArray, List.set_cons_zero, List.set_cons_succ, i64_w, i32_w]
          rfl
         refine take_ (i := 6) (N := some 40) (v := ?_) (a' := ?_) #[true, true, true, true, true, true, true, false, false, false, false] rfl rfl (take_ofW HT_.out HW_.out (by kernel_rfl)) (fun _ _ _ h => h) (Or.inl ⟨by rfl, ?_⟩) hHeld ?_ ?_
         rotate_left
         ·rintro w' ⟨s0, s1, s2, s3, s4, s5, s6, s7⟩
          go_simp
          with_reducible rfl
         rotate_left
         ·simp only [Act.put, List.setIfInBounds_toArray, List.set_cons_zero, List.set_cons_succ, i64_w, i32_w]
          rfl
         refine pure_ (i := 7) (N := some 41) (v := ?_) (a' := ?_) #[true, true, true, true, true, true, true, true, false, false, false] rfl rfl (any_of HT_.out (by kernel_rfl)) (fun _ _ _ h => h) (Or.inl ⟨by rfl, ?_⟩) ?_ ?_
         rotate_left
         ·intro w'
          go_simp
          with_reducible rfl
         rotate_left
         ·simp only [Act.put, List.setIfInBounds_toArray, List.set_cons_zero, List.set_cons_succ, i64_w, i32_w]
          rfl
         refine take_ (i := 8) (N := some 42) (v := ?_) (a' := ?_) #[true, true, true, true, true, true, true, true, true, false, false] rfl rfl (take_ofW HT_.out HW_.out (by kernel_rfl)) (fun _ _ _ h => h) (Or.inl ⟨by rfl, ?_⟩) hHeld ?_ ?_
         rotate_left
         ·rintro w' ⟨s0, s1, s2, s3, s4, s5, s6, s7⟩
          go_simp
          with_reducible rfl
         rotate_left
         ·simp only [Act.put, List.setIfInBounds_toArray, List.set_cons_zero, List.set_cons_succ, i64_w, i32_w]
          rfl
         refine one_ (i := 9) (N := some 8) #[true, true, true, true, true, true, true, true, true, true, false] rfl rfl (one_of HT_.out (by kernel_rfl)) (by decide) (fun K hK => ?_)
         refine box_step ?hg (N := 8) ?hd (cs := #[.int .i64 0, .int .i64 0, .int .i64 0]) (t := 94) ?hr ?_; (case hd => rfl); (case hg => rfl); (case hr => first | (go_simp; done) | (go_simp; rfl))
         intro Q08 hg w20 hbox hb
         have Q02 := Aside0.mk (hbox)
         have Q07 := uS HB hg
         have Q0t := uS HB hg
         replace HB := uH HB hb
         have Q05 := uL Q01 hg
         have Q0d := uG Q01 hg
         replace Q01 := uB Q01 hb
         have Q06 := uL Q00 hg
         have Q0e := uG Q00 hg
         replace Q00 := uB Q00 hb
         clear hb hbox hg
         refine hK.out _ _ ⟨bC Q01 0, bC Q01 1, bC Q00 0, bC Q00 1, ((HB.out.cell (World.block_lt_of_cell? w _ hw105_0)).trans hw105_0), ((HB.out.cell (World.block_lt_of_cell? w _ hw106_0)).trans hw106_0), ((HB.out.cell (World.block_lt_of_cell? w _ hw106_1)).trans hw106_1), ((HB.out.cell (World.block_lt_of_cell? w _ hw106_2)).trans hw106_2)⟩ (fun hHeld => ?_)
         clear hK K
         refine norm_ (a' := ?_) ?_ ?_
         rotate_left
         ·show Act.put _ (some 8) _ = _
          simp only [Act.put, List.setIfInBounds_toArray, List.set_cons_zero, List.set_cons_succ, i64_w, i32_w]
          rfl
         refine one_ (i := 10) (N := none) #[true, true, true, true, true, true, true, true, true, true, true] rfl rfl (one_of HT_.out (by kernel_rfl)) (by decide) (fun K hK => ?_)
         have Q1i : w20.cell? ⟨Q08, 0, none⟩ = some (.int .i64 0) := bC Q02 0
         have Q1j := blk_frozen Q02.out 0
         have Q1k := Q05.out
         have Q1l := Q06.out
         have Q1m := Q0d.out
         have Q1n := Q0e.out
         have Q1o : w20.cell? ⟨Q08, 1, none⟩ = some (.int .i64 0) := bC Q02 1
         have Q1p := blk_frozen Q02.out 1
         have Q1q := Q05.out
         have Q1r := Q06.out
         have Q1s := Q0d.out
         have Q1t := Q0e.out
         have Q1u : w20.cell? ⟨Q08, 2, none⟩ = some (.int .i64 0) := bC Q02 2
         have Q1v := blk_frozen Q02.out 2
         have Q1w := Q05.out
         have Q1x := Q06.out
         have Q1y := Q0d.out
         have Q1z := Q0e.out
         refine skip_ (w1 := ?_) (by rfl) rfl ?_ ?_
         rotate_left
         ·go_simp
          rfl
         refine hK.out _ _ ⟨(cG Q05.out (cG Q05.out (cG Q05.out hHeld.1))), (cG Q05.out (cG Q05.out (cG Q05.out hHeld.2.1))), (cG Q06.out (cG Q06.out (cG Q06.out hHeld.2.2.1))), (cG Q06.out (cG Q06.out (cG Q06.out hHeld.2.2.2.1))), (cG (aB (bL hw105_0 Q07.out)) (cG (aB (bL hw105_0 Q07.out)) (cG (aB (bL hw105_0 Q07.out)) hHeld.2.2.2.2.1))), (cG (aB (bL hw106_0 Q07.out)) (cG (aB (bL hw106_0 Q07.out)) (cG (aB (bL hw106_0 Q07.out)) hHeld.2.2.2.2.2.1))), (cG (aB (bL hw106_1 Q07.out)) (cG (aB (bL hw106_1 Q07.out)) (cG (aB (bL hw106_1 Q07.out)) hHeld.2.2.2.2.2.2.1))), (cG (aB (bL hw106_2 Q07.out)) (cG (aB (bL hw106_2 Q07.out)) (cG (aB (bL hw106_2 Q07.out)) hHeld.2.2.2.2.2.2.2)))⟩ (fun hHeld => ?_)
         clear hK K
         refine done_ (done_of HT_.out (by kernel_rfl)) ?_
         go_upto_region 11 with (fail)
         go_cut [56] (fun v56 wc => ∃ (kq : Nat) (x56_15 : Bool), v56 = .bool x56_15 ∧ Aside0 (scarfjointref07_Right.j1 kq x7_1 x56_15 l0_0 l0_1 l1_0 l1_1 = some r) ∧ Aside0 (kq ≤ k1) ∧ Aside0 (wc.heap[Q04]? = some (.cells #[(.slice A0_0 l0_0.length c0_0), (.slice (some ad106) l0_1.length c0_1)] 25 (0, 0))) ∧ Aside0 (wc.heap[Q03]? = some (.cells #[(.slice A1_0 l1_0.length c1_0), (.slice (some ad105) l1_1.length c1_1)] 60 (0, 0))) ∧ Aside0 (wc.heap[Q08]? = some (.cells #[.int .i64 ((rd_T94 l0_1 (rd l1_1 x7_1)).f0), .int .i64 ((rd_T94 l0_1 (rd l1_1 x7_1)).f1), .int .i64 ((rd_T94 l0_1 (rd l1_1 x7_1)).f2)] 94 (0, 0))) ∧ Aside0 (Below w.heap.size w wc))
         case first =>
          have H := HC16.out
          clear HC16
          replace H := Option.bind_eq_some_iff.mp H
          obtain ⟨t108, A240, H⟩ := H
          replace H : (if t108 = true then ((scarfjointref07_has.f k1 l1_0 ((rd_T94 l0_1 (rd l1_1 x7_1)).f2)).bind fun t109 => (scarfjointref07_Right.j1 k1 x7_1 (!t109) l0_0 l0_1 l1_0 l1_1)) else (scarfjointref07_Right.j1 k1 x7_1 true l0_0 l0_1 l1_0 l1_1)) = some r := H
          have A24 := Aside0.mk A240
          clear A240
          by_cases c25 : t108 = true
          ·subst c25
           have H1 : ((scarfjointref07_has.f k1 l1_0 ((rd_T94 l0_1 (rd l1_1 x7_1)).f2)).bind fun t109 => (scarfjointref07_Right.j1 k1 x7_1 (!t109) l0_0 l0_1 l1_0 l1_1)) = some r := by rw [if_pos rfl] at H; exact H
           clear H
           have H := H1
           clear H1
           replace H := Option.bind_eq_some_iff.mp H
           obtain ⟨t109, A260, H⟩ := H
           replace H : (scarfjointref07_Right.j1 k1 x7_1 (!t109) l0_0 l0_1 l1_0 l1_1) = some r := H
           have A26 := Aside0.mk A260
           clear A260
           have H' := Aside0.mk H
           clear H
           have Q20 := Q0a.out
           have Q21 := Q09.out
           have Q22 := Q06.out
           have Q23 := Q0e.out
           have Q0u : w20.cell? ⟨Q03, 0, none⟩ = some (.slice A1_0 l1_0.length c1_0) := bC Q00 0
           have Q0v : w20.cell? ⟨Q03, 1, none⟩ = some (.slice (some ad105) l1_1.length c1_1) := bC Q00 1
           have Q0w := blk_frozen Q00.out 0
           have Q0x := blk_frozen Q00.out 1
           have Q24 := Q0d.out
           have Q25 := Q05.out
           have Q0y : w20.cell? ⟨Q08, 0, none⟩ = some (.int .i64 0) := bC Q02 0
           have Q0z : w20.cell? ⟨Q08, 1, none⟩ = some (.int .i64 0) := bC Q02 1
           have Q10 : w20.cell? ⟨Q08, 2, none⟩ = some (.int .i64 0) := bC Q02 2
           have Q11 := blk_frozen Q02.out 0
           have Q12 := blk_frozen Q02.out 1
           have Q13 := blk_frozen Q02.out 2
           go_wp2_with (first | ((with_reducible refine gate_callee (f := 79) rfl ?_); refine goesL_ (some 47) rfl rfl Try.func79 (by kernel_rfl) rfl #[.slice A1_0 l1_0.length c1_0, .int .i64 ((rd_T94 l0_1 (rd l1_1 x7_1)).f1)] rfl aM ?_; (with_reducible refine (scarfjointref07_has.calls k1 _ _ l1_0 ((rd_T94 l0_1 (rd l1_1 x7_1)).f1) true _ ?side1 ?side2 A24.out).mono ?_); (case side1 => exact cB HR1_0.out (pH HB)); (case side2 => exact HC1_0.out); rintro e w' ⟨rfl, ⟨nd, rfl⟩⟩; refine ⟨_, rfl, ?_⟩) | (go_at_call 79; (with_reducible refine (scarfjointref07_has.calls k1 _ _ l1_0 ((rd_T94 l0_1 (rd l1_1 x7_1)).f2) t109 _ ?side1 ?side2 A26.out).mono ?_); (case side1 => exact cB HR1_0.out (pH HB)); (case side2 => exact HC1_0.out); rintro e w' ⟨rfl, ⟨nd, rfl⟩⟩))
           go_meet
           case rel => exact ⟨_, (!t109), rS, H', ⟨by have := HK1.out; first | omega | exact Nat.le_refl _⟩, ⟨by (with_reducible repeat (first | refine bN ?_ _ | refine bD ?_ | refine bA ?_ _)); refine blk_far ?_ Q05.out _; (with_reducible repeat (first | refine bN ?_ _ | refine bD ?_ | refine bA ?_ _)); refine blk_far ?_ Q05.out _; (with_reducible repeat (first | refine bN ?_ _ | refine bD ?_ | refine bA ?_ _)); refine blk_far ?_ Q05.out _; (with_reducible repeat (first | refine bN ?_ _ | refine bD ?_ | refine bA ?_ _)); exact Q01.out⟩, ⟨by (with_reducible repeat (first | refine bN ?_ _ | refine bD ?_ | refine bA ?_ _)); refine blk_far ?_ Q06.out _; (with_reducible repeat (first | refine bN ?_ _ | refine bD ?_ | refine bA ?_ _)); refine blk_far ?_ Q06.out _; (with_reducible repeat (first | refine bN ?_ _ | refine bD ?_ | refine bA ?_ _)); refine blk_far ?_ Q06.out _; (with_reducible repeat (first | refine bN ?_ _ | refine bD ?_ | refine bA ?_ _)); exact Q00.out⟩, ⟨by (with_reducible repeat (first | refine bN ?_ _ | refine bD ?_ | refine bA ?_ _)); refine blk_put (cs := #[.int .i64 ((rd_T94 l0_1 (rd l1_1 x7_1)).f0), .int .i64 ((rd_T94 l0_1 (rd l1_1 x7_1)).f1), .int .i64 0]) ?_ 2 _ rfl; (with_reducible repeat (first | refine bN ?_ _ | refine bD ?_ | refine bA ?_ _)); refine blk_put (cs := #[.int .i64 ((rd_T94 l0_1 (rd l1_1 x7_1)).f0), .int .i64 0, .int .i64 0]) ?_ 1 _ rfl; (with_reducible repeat (first | refine bN ?_ _ | refine bD ?_ | refine bA ?_ _)); refine blk_put (cs := #[.int .i64 0, .int .i64 0, .int .i64 0]) ?_ 0 _ rfl; (with_reducible repeat (first | refine bN ?_ _ | refine bD ?_ | refine bA ?_ _)); exact Q02.out⟩, ⟨pH HB⟩⟩
          ·replace c25 := Bool.eq_false_iff.mpr c25
           subst c25
           have H1 : (scarfjointref07_Right.j1 k1 x7_1 true l0_0 l0_1 l1_0 l1_1) = some r := by rw [if_neg (show ¬ (false = true) by decide)] at H; exact H
           clear H
           have H := H1
           clear H1
           have H' := Aside0.mk H
           clear H
           have Q26 := Q0a.out
           have Q27 := Q09.out
           have Q28 := Q06.out
           have Q29 := Q0e.out
           have Q14 : w20.cell? ⟨Q03, 0, none⟩ = some (.slice A1_0 l1_0.length c1_0) := bC Q00 0
           have Q15 : w20.cell? ⟨Q03, 1, none⟩ = some (.slice (some ad105) l1_1.length c1_1) := bC Q00 1
           have Q16 := blk_frozen Q00.out 0
           have Q17 := blk_frozen Q00.out 1
           have Q2a := Q0d.out
           have Q2b := Q05.out
           have Q18 : w20.cell? ⟨Q08, 0, none⟩ = some (.int .i64 0) := bC Q02 0
           have Q19 : w20.cell? ⟨Q08, 1, none⟩ = some (.int .i64 0) := bC Q02 1
           have Q1a : w20.cell? ⟨Q08, 2, none⟩ = some (.int .i64 0) := bC Q02 2
           have Q1b := blk_frozen Q02.out 0
           have Q1c := blk_frozen Q02.out 1
           have Q1d := blk_frozen Q02.out 2
           go_wp2_with (first | ((with_reducible refine gate_callee (f := 79) rfl ?_); refine goesL_ (some 47) rfl rfl Try.func79 (by kernel_rfl) rfl #[.slice A1_0 l1_0.length c1_0, .int .i64 ((rd_T94 l0_1 (rd l1_1 x7_1)).f1)] rfl aM ?_; (with_reducible refine (scarfjointref07_has.calls k1 _ _ l1_0 ((rd_T94 l0_1 (rd l1_1 x7_1)).f1) false _ ?side1 ?side2 A24.out).mono ?_); (case side1 => exact cB HR1_0.out (pH HB)); (case side2 => exact HC1_0.out); rintro e w' ⟨rfl, ⟨nd, rfl⟩⟩; refine ⟨_, rfl, ?_⟩))
           go_meet
           case rel => exact ⟨_, (true), rS, H', ⟨by have := HK1.out; first | omega | exact Nat.le_refl _⟩, ⟨by (with_reducible repeat (first | refine bN ?_ _ | refine bD ?_ | refine bA ?_ _)); refine blk_far ?_ Q05.out _; (with_reducible repeat (first | refine bN ?_ _ | refine bD ?_ | refine bA ?_ _)); refine blk_far ?_ Q05.out _; (with_reducible repeat (first | refine bN ?_ _ | refine bD ?_ | refine bA ?_ _)); refine blk_far ?_ Q05.out _; (with_reducible repeat (first | refine bN ?_ _ | refine bD ?_ | refine bA ?_ _)); exact Q01.out⟩, ⟨by (with_reducible repeat (first | refine bN ?_ _ | refine bD ?_ | refine bA ?_ _)); refine blk_far ?_ Q06.out _; (with_reducible repeat (first | refine bN ?_ _ | refine bD ?_ | refine bA ?_ _)); refine blk_far ?_ Q06.out _; (with_reducible repeat (first | refine bN ?_ _ | refine bD ?_ | refine bA ?_ _)); refine blk_far ?_ Q06.out _; (with_reducible repeat (first | refine bN ?_ _ | refine bD ?_ | refine bA ?_ _)); exact Q00.out⟩, ⟨by (with_reducible repeat (first | refine bN ?_ _ | refine bD ?_ | refine bA ?_ _)); refine blk_put (cs := #[.int .i64 ((rd_T94 l0_1 (rd l1_1 x7_1)).f0), .int .i64 ((rd_T94 l0_1 (rd l1_1 x7_1)).f1), .int .i64 0]) ?_ 2 _ rfl; (with_reducible repeat (first | refine bN ?_ _ | refine bD ?_ | refine bA ?_ _)); refine blk_put (cs := #[.int .i64 ((rd_T94 l0_1 (rd l1_1 x7_1)).f0), .int .i64 0, .int .i64 0]) ?_ 1 _ rfl; (with_reducible repeat (first | refine bN ?_ _ | refine bD ?_ | refine bA ?_ _)); refine blk_put (cs := #[.int .i64 0, .int .i64 0, .int .i64 0]) ?_ 0 _ rfl; (with_reducible repeat (first | refine bN ?_ _ | refine bD ?_ | refine bA ?_ _)); exact Q02.out⟩, ⟨pH HB⟩⟩
         case rest =>
          clear HC16
          try clear c1; try clear c2; try clear p2; try clear c3; try clear c4; try clear c4b0; try clear c4b1; try clear c5; try clear p5; try clear q5; try clear hx5; try clear c6; try clear c6b0; try clear c6b1; try clear c7; try clear c8; try clear c9; try clear c12; try clear c12b0; try clear c13; try clear c13b0; try clear c14; try clear c14b0; try clear c15; try clear c15b0; try clear c17; try clear c25; try clear c27; try clear c28; try clear c30; try clear c32; try clear c33; try clear c35; try clear Q0h; try clear Q0i; try clear Q0l; try clear Q0m; try clear Q0p; try clear Q0q; try clear Q0u; try clear Q0v; try clear Q0y; try clear Q0z; try clear Q10; try clear Q14; try clear Q15; try clear Q18; try clear Q19; try clear Q1a; try clear Q0j; try clear Q0k; try clear Q0n; try clear Q0o; try clear Q0r; try clear Q0s; try clear Q0w; try clear Q0x; try clear Q11; try clear Q12; try clear Q13; try clear Q16; try clear Q17; try clear Q1b; try clear Q1c; try clear Q1d; try clear hx105_0; try clear hx106_0; try clear hx106_1; try clear hx106_2; try clear p2; try clear p105; try clear p106; try clear q105; try clear q106
          obtain ⟨kq, x56_15, rfl, HA, HJ15, Q01, Q00, Q02, HB⟩ := hcut
          cases kq with
          | zero => exact absurd HA.out (by simp [scarfjointref07_Right.j1])
          | succ kj15 =>
           have H := HA.out
           clear HA
           simp only [scarfjointref07_Right.j1] at H
           by_cases c37 : x56_15 = true
           ·subst c37
            have H1 : (some 14) = some r := by rw [if_pos rfl] at H; exact H
            clear H
            have H := H1
            clear H1
            obtain rfl := Option.some.inj H
            go_wp2
            go_ret
            exact ⟨by first | rfl | (simp [errW_none, errW_some] <;> rfl) | (simp [*, errW_none, errW_some] <;> rfl), by repeat (first | (with_reducible first | exact HB.out | apply wA | apply wN | apply wD | refine below_set ?_ Q0b.out | refine below_set ?_ Q0c.out | refine below_set ?_ Q0t.out) | exact HB.out)⟩
           ·replace c37 := Bool.eq_false_iff.mpr c37
            subst c37
            have H1 : (scarfjointref07_Right.l0 kj15 (wrap64 (x7_1 + 1)) l0_0 l0_1 l1_0 l1_1) = some r := by rw [if_neg (show ¬ (false = true) by decide)] at H; exact H
            clear H
            have H := H1
            clear H1
            have H' := Aside0.mk H
            clear H
            go_wp2
            go_roundg kj15
            case measure => have := HK1.out; have := HJ15.out; omega
            case rel => exact ⟨(wrap64 (x7_1 + 1)), rS, H', ⟨by have := HK1.out; have := HJ15.out; omega⟩, ⟨pB Q01⟩, ⟨pB Q00⟩, ⟨pH HB⟩⟩
        ·rw [if_neg c15] at H
         exact absurd H (by simp)
       ·rw [if_neg c14] at H
        exact absurd H (by simp)
      ·rw [if_neg c13] at H
       exact absurd H (by simp)
     ·rw [if_neg c12] at H
      have c12b0 : decide (x7_1 < (l1_1.length : Int)) = false := decide_eq_false c12
      clear c12
      obtain rfl := Option.some.inj H
      have Q2c := Q0a.out
      have Q2d := Q09.out
      have Q2e : wr.cell? ⟨Q03, 0, none⟩ = some (.slice A1_0 l1_0.length c1_0) := bC Q00 0
      have Q2f : wr.cell? ⟨Q03, 1, none⟩ = some (.slice A1_1 l1_1.length c1_1) := bC Q00 1
      have Q2g := blk_frozen Q00.out 0
      have Q2h := blk_frozen Q00.out 1
      go_wp2
      go_ret
      exact ⟨by first | rfl | (simp [errW_none, errW_some] <;> rfl) | (simp [*, errW_none, errW_some] <;> rfl), by repeat (first | (with_reducible first | exact HB.out | apply wA | apply wN | apply wD | refine below_set ?_ Q0b.out | refine below_set ?_ Q0c.out) | exact HB.out)⟩
  ·rw [if_neg c6] at H
   have c6b0 : (t104 == 0) = false := beq_eq_false_iff_ne.mpr c6
   have c6b1 : (t104 != 0) = true := bne_iff_ne.mpr c6
   obtain rfl := Option.some.inj H
   go_enter Try.func59, Try.ntmps59
   go_wp2_with (first | ((with_reducible refine gate_dst (N := 2) rfl ?_); refine box_event ?hg (N := 2) ?hd (cs := #[.slice A0_0 l0_0.length c0_0, .slice A0_1 l0_1.length c0_1]) (t := 25) ?hr ?_; (case hd => rfl); (case hg => rfl); (case hr => first | (go_simp; done) | (go_simp; rfl)); intro Q04 hg w40 hbox hb; have Q01 := Aside0.mk (hbox); have Q0f := Aside0.mk ((by rw [hg]; exact (below_size hB) : w.heap.size ≤ Q04)); have Q0b := Aside0.mk ((by rw [hg]; exact (below_size hB) : w.heap.size ≤ Q04)); replace HB := uH HB hb; clear hb hbox hg) | ((with_reducible refine gate_dst (N := 3) rfl ?_); refine box_event ?hg (N := 3) ?hd (cs := #[.slice A1_0 l1_0.length c1_0, .slice A1_1 l1_1.length c1_1]) (t := 60) ?hr ?_; (case hd => rfl); (case hg => rfl); (case hr => first | (go_simp; done) | (go_simp; rfl)); intro Q03 hg w41 hbox hb; have Q00 := Aside0.mk (hbox); have Q0g := uS HB hg; have Q0c := uS HB hg; replace HB := uH HB hb; have Q09 := uL Q01 hg; have Q0a := uG Q01 hg; replace Q01 := uB Q01 hb; clear hb hbox hg; have Q2i := Q0a.out; have Q2j := Q09.out; have Q2k : w41.cell? ⟨Q03, 0, none⟩ = some (.slice A1_0 l1_0.length c1_0) := bC Q00 0; have Q2l : w41.cell? ⟨Q03, 1, none⟩ = some (.slice A1_1 l1_1.length c1_1) := bC Q00 1; have Q2m := blk_frozen Q00.out 0; have Q2n := blk_frozen Q00.out 1; have Q2o : w41.cell? ⟨Q04, 0, none⟩ = some (.slice A0_0 l0_0.length c0_0) := bC Q01 0; have Q2p : w41.cell? ⟨Q04, 1, none⟩ = some (.slice A0_1 l0_1.length c0_1) := bC Q01 1; have Q2q := blk_frozen Q01.out 0; have Q2r := blk_frozen Q01.out 1) | ((with_reducible refine gate_callee (f := 80) rfl ?_); refine goesL_ (some 14) rfl rfl Try.func80 (by kernel_rfl) rfl #[.slice A1_0 l1_0.length c1_0, .int .i64 (l0_0.length : Int)] rfl aM ?_; (with_reducible refine (scarfjointref07_ascending.calls k _ _ l1_0 (l0_0.length : Int) t103 _ ?side1 ?side2 A3.out).mono ?_); (case side1 => exact cX (cB HR1_0.out HB.out)); (case side2 => exact HC1_0.out); rintro e w' ⟨rfl, ⟨nd, rfl⟩⟩; refine ⟨_, rfl, ?_⟩) | ((with_reducible refine gate_callee (f := 80) rfl ?_); refine goesL_ (some 23) rfl rfl Try.func80 (by kernel_rfl) rfl #[.slice A1_1 l1_1.length c1_1, .int .i64 (l0_1.length : Int)] rfl aM ?_; (with_reducible refine (scarfjointref07_ascending.calls k _ _ l1_1 (l0_1.length : Int) t104 _ ?side1 ?side2 A5.out).mono ?_); (case side1 => repeat (first | exact (cB HR1_1.out (pH HB)) | (with_reducible refine cA ?_ _) | (with_reducible refine cN ?_ _) | (with_reducible refine cD ?_))); (case side2 => exact HC1_1.out); rintro e w' ⟨rfl, ⟨nd, rfl⟩⟩; refine ⟨_, rfl, ?_⟩))
   go_ret
   exact ⟨by first | rfl | (simp [errW_none, errW_some] <;> rfl) | (simp [*, errW_none, errW_some] <;> rfl), by repeat (first | (with_reducible first | exact HB.out | apply wA | apply wN | apply wD | refine below_set ?_ Q0b.out | refine below_set ?_ Q0c.out) | exact HB.out)⟩
 ·rw [if_neg c4] at H
  have c4b0 : (t103 == 0) = false := beq_eq_false_iff_ne.mpr c4
  have c4b1 : (t103 != 0) = true := bne_iff_ne.mpr c4
  obtain rfl := Option.some.inj H
  go_enter Try.func59, Try.ntmps59
  go_wp2_with (first | ((with_reducible refine gate_dst (N := 2) rfl ?_); refine box_event ?hg (N := 2) ?hd (cs := #[.slice A0_0 l0_0.length c0_0, .slice A0_1 l0_1.length c0_1]) (t := 25) ?hr ?_; (case hd => rfl); (case hg => rfl); (case hr => first | (go_simp; done) | (go_simp; rfl)); intro Q04 hg w45 hbox hb; have Q01 := Aside0.mk (hbox); have Q0f := Aside0.mk ((by rw [hg]; exact (below_size hB) : w.heap.size ≤ Q04)); have Q0b := Aside0.mk ((by rw [hg]; exact (below_size hB) : w.heap.size ≤ Q04)); replace HB := uH HB hb; clear hb hbox hg) | ((with_reducible refine gate_dst (N := 3) rfl ?_); refine box_event ?hg (N := 3) ?hd (cs := #[.slice A1_0 l1_0.length c1_0, .slice A1_1 l1_1.length c1_1]) (t := 60) ?hr ?_; (case hd => rfl); (case hg => rfl); (case hr => first | (go_simp; done) | (go_simp; rfl)); intro Q03 hg w46 hbox hb; have Q00 := Aside0.mk (hbox); have Q0g := uS HB hg; have Q0c := uS HB hg; replace HB := uH HB hb; have Q09 := uL Q01 hg; have Q0a := uG Q01 hg; replace Q01 := uB Q01 hb; clear hb hbox hg; have Q2s := Q0a.out; have Q2t := Q09.out; have Q2u : w46.cell? ⟨Q03, 0, none⟩ = some (.slice A1_0 l1_0.length c1_0) := bC Q00 0; have Q2v : w46.cell? ⟨Q03, 1, none⟩ = some (.slice A1_1 l1_1.length c1_1) := bC Q00 1; have Q2w := blk_frozen Q00.out 0; have Q2x := blk_frozen Q00.out 1; have Q2y : w46.cell? ⟨Q04, 0, none⟩ = some (.slice A0_0 l0_0.length c0_0) := bC Q01 0; have Q2z : w46.cell? ⟨Q04, 1, none⟩ = some (.slice A0_1 l0_1.length c0_1) := bC Q01 1; have Q30 := blk_frozen Q01.out 0; have Q31 := blk_frozen Q01.out 1) | ((with_reducible refine gate_callee (f := 80) rfl ?_); refine goesL_ (some 14) rfl rfl Try.func80 (by kernel_rfl) rfl #[.slice A1_0 l1_0.length c1_0, .int .i64 (l0_0.length : Int)] rfl aM ?_; (with_reducible refine (scarfjointref07_ascending.calls k _ _ l1_0 (l0_0.length : Int) t103 _ ?side1 ?side2 A3.out).mono ?_); (case side1 => exact cX (cB HR1_0.out HB.out)); (case side2 => exact HC1_0.out); rintro e w' ⟨rfl, ⟨nd, rfl⟩⟩; refine ⟨_, rfl, ?_⟩))
  go_ret
  exact ⟨by first | rfl | (simp [errW_none, errW_some] <;> rfl) | (simp [*, errW_none, errW_some] <;> rfl), by repeat (first | (with_reducible first | exact HB.out | apply wA | apply wN | apply wD | refine below_set ?_ Q0b.out | refine below_set ?_ Q0c.out) | exact HB.out)⟩
/-! ### scarfjointref07_into: function 60 -/
def scarfjointref07_into.l0 : Nat → List Int → List Int → List Int → Int → Option (List Int)
 | 0, _, _, _, _ => none
 | k + 1, x0, x1, x5, x6 => if x6 < (x0.length : Int) then (if 0 ≤ x6 then ((scarfjointref07_has.f k x1 (rd x0 x6)).bind fun t102 => (if t102 = true then (if x5.length < 17592186044416 then (scarfjointref07_into.l0 k x0 x1 (x5 ++ [x6]) (wrap64 (x6 + 1))) else (none)) else (scarfjointref07_into.l0 k x0 x1 x5 (wrap64 (x6 + 1))))) else (none)) else (some x5)
def scarfjointref07_into.f (k : Nat) (l0 : List Int) (l1 : List Int) : Option (List Int) := scarfjointref07_into.l0 k l0 l1 ([] : List Int) 0
theorem scarfjointref07_into.mono_l : ∀ k, (∀ y0 y1 y2 y3, LeO (scarfjointref07_into.l0 k y0 y1 y2 y3) (scarfjointref07_into.l0 (k + 1) y0 y1 y2 y3))
 | 0 => fun _ _ _ _ r h => by simp [scarfjointref07_into.l0] at h
 | k + 1 => by
  have ih0 := scarfjointref07_into.mono_l k
  ·intro y0 y1 y2 y3
   unfold scarfjointref07_into.l0
   repeat' first
   | (with_reducible exact ih0 _ _ _ _)
   | (with_reducible exact scarfjointref07_has.mono _ _ _)
   | (with_reducible exact LeO.refl _)
   | (with_reducible exact LeO.none _)
   | (with_reducible refine LeO.ite ?_ ?_)
   | (with_reducible refine LeO.bind ?_ (fun _ => ?_))
   | exact ih0 _ _ _ _
   | exact scarfjointref07_has.mono _ _ _
   | exact LeO.none _
   | refine LeO.ite ?_ ?_
   | refine LeO.bind ?_ (fun _ => ?_)
theorem scarfjointref07_into.mono : ∀ a0 a1 k, LeO (scarfjointref07_into.f k a0 a1) (scarfjointref07_into.f (k + 1) a0 a1) := by
 intro a0 a1 k
 have ih0 := scarfjointref07_into.mono_l k
 unfold scarfjointref07_into.f
 repeat' first
   | (with_reducible exact ih0 _ _ _ _)
   | (with_reducible exact scarfjointref07_has.mono _ _ _)
   | (with_reducible exact LeO.refl _)
   | (with_reducible exact LeO.none _)
   | (with_reducible refine LeO.ite ?_ ?_)
   | (with_reducible refine LeO.bind ?_ (fun _ => ?_))
   | exact ih0 _ _ _ _
   | exact scarfjointref07_has.mono _ _ _
   | exact LeO.none _
   | refine LeO.ite ?_ ?_
   | refine LeO.bind ?_ (fun _ => ?_)
set_option maxHeartbeats 8000000 in
set_option maxRecDepth 100000 in
theorem scarfjointref07_into.calls (k : Nat) (A0 : Option Addr) (c0 : Nat) (l0 : List Int) (A1 : Option Addr) (c1 : Nat) (l1 : List Int) (r : List Int) (w : World) (hr0 : Kd.C (Kd.int .i64) w A0 l0.length l0) (hc0 : l0.length ≤ c0) (hr1 : Kd.C (Kd.int .i64) w A1 l1.length l1) (hc1 : l1.length ≤ c1) (h : scarfjointref07_into.f k l0 l1 = some r) :
  Calls Try.prog 60 #[.slice A0 l0.length c0, .slice A1 l1.length c1] w fun e w' => ∃ v0_ : Value, e = .returned (v0_) ∧ Kd.R (Kd.int .i64) 3 w' w.heap.size (fun _ => True) v0_ r ∧ Below w.heap.size w w' := by
 have HR0 := Aside0.mk hr0
 have HC0 := Aside0.mk hc0
 clear hr0 hc0
 have HR1 := Aside0.mk hr1
 have HC1 := Aside0.mk hc1
 clear hr1 hc1
 have HB := Aside0.mk (Below.refl w.heap.size w)
 have H : (scarfjointref07_into.l0 k l0 l1 ([] : List Int) 0) = some r := h
 clear h
 have H' := Aside0.mk H
 clear H
 go_enter Try.func60, Try.ntmps60
 go_wp2
 go_loopg [5, 6] k (fun kq v5 v6 w' => ∃ (x5_1 : List Int) (x6_1 : Int), v6 = .int .i64 x6_1 ∧ Aside0 (scarfjointref07_into.l0 kq l0 l1 x5_1 x6_1 = some r) ∧ Aside0 (kq ≤ k) ∧ Aside0 (Kd.R (Kd.int .i64) 3 w' w.heap.size (fun _ => True) v5 x5_1) ∧ Aside0 (Below w.heap.size w w'))
 case atStart => exact ⟨(([] : List Int)), (0), rS, H', ⟨Nat.le_refl _⟩, ⟨by first | exact Kd.R_nil _ _ _ _ _ | exact Kd.N_nil _ _ _ _ _ | exact Kd.V_nil _ _ _ _ _ | exact Kd.Q_nil _ _ _ _ _ | exact Kd.S_nil _ _ _ _ _⟩, ⟨pH HB⟩⟩
 case round =>
  clear H'
  try clear c1; try clear p2
  obtain ⟨x5_1, x6_1, rfl, HA, HK1, Q00, HB⟩ := hrel
  cases gk with
  | zero => exact absurd HA.out (by simp [scarfjointref07_into.l0])
  | succ k1 =>
   have H := HA.out
   clear HA
   simp only [scarfjointref07_into.l0] at H
   by_cases c3 : x6_1 < (l0.length : Int)
   ·rw [if_pos c3] at H
    have c3b0 : decide (x6_1 < (l0.length : Int)) = true := decide_eq_true c3
    clear c3
    by_cases c4 : 0 ≤ x6_1
    ·rw [if_pos c4] at H
     have c4b0 : decide (0 ≤ x6_1) = true := decide_eq_true c4
     clear c4
     replace H := Option.bind_eq_some_iff.mp H
     obtain ⟨t102, A50, H⟩ := H
     replace H : (if t102 = true then (if x5_1.length < 17592186044416 then (scarfjointref07_into.l0 k1 l0 l1 (x5_1 ++ [x6_1]) (wrap64 (x6_1 + 1))) else (none)) else (scarfjointref07_into.l0 k1 l0 l1 x5_1 (wrap64 (x6_1 + 1)))) = some r := H
     have A5 := Aside0.mk A50
     clear A50
     by_cases c6 : t102 = true
     ·subst c6
      have H1 : (if x5_1.length < 17592186044416 then (scarfjointref07_into.l0 k1 l0 l1 (x5_1 ++ [x6_1]) (wrap64 (x6_1 + 1))) else (none)) = some r := by rw [if_pos rfl] at H; exact H
      clear H
      have H := H1
      clear H1
      by_cases c7 : x5_1.length < 17592186044416
      ·rw [if_pos c7] at H
       have LMc7 := Aside0.mk c7
       clear c7
       obtain ⟨y103, hy103⟩ : ∃ y_ : List Int, y_ = (x5_1 ++ [x6_1]) := ⟨_, rfl⟩
       replace H : (scarfjointref07_into.l0 k1 l0 l1 y103 (wrap64 (x6_1 + 1))) = some r := by first | (rw [hy103]; with_reducible exact H) | (have H2_ := (Option.bind_some _ _).symm.trans H; rw [hy103]; with_reducible exact H2_) | (have H2_ := (Option.bind_some _ _).symm.trans H; with_reducible exact H2_) | with_reducible exact H | (rw [hy103]; exact H) | exact H
       have Ny103 := Aside0.mk hy103
       clear hy103
       have H' := Aside0.mk H
       clear H
       have p101 : 0 ≤ (x6_1 : Int) := oT
       have q101 : x6_1 < (l0.length : Int) := oT
       obtain ⟨ad101, e101, hx101_0⟩ := Kd.at_int HR0.out x6_1 p101 q101
       cases e101
       replace hx101_0 := (HB.out.cell (World.block_lt_of_cell? w _ hx101_0)).trans hx101_0
       replace p101 := eq_true p101
       replace q101 := eq_true q101
       go_wp2_with (first | ((with_reducible refine gate_callee (f := 79) rfl ?_); refine goesL_ (some 18) rfl rfl Try.func79 (by kernel_rfl) rfl #[.slice A1 l1.length c1, .int .i64 (rd l0 x6_1)] rfl aM ?_; (with_reducible refine (scarfjointref07_has.calls k1 _ _ l1 (rd l0 x6_1) true _ ?side1 ?side2 A5.out).mono ?_); (case side1 => exact cX (cB HR1.out HB.out)); (case side2 => exact HC1.out); rintro e w' ⟨rfl, ⟨nd, rfl⟩⟩; refine ⟨_, rfl, ?_⟩) | ((with_reducible refine gate_builtin (b := .append) (xs := #[.tmp 19, .tmp 21]) rfl ?_); at_builtin; refine Kd.R_append (Kd.int .i64) (w0 := w) w.heap.size rfl (.tmp 19) (.tmp 21) 22 3 (.int .i64 0) 8 rfl Try.underlying22 info3 rfl (by decide) (by omega) u5 x5_1 x6_1 [.int .i64 x6_1] (fun _ => True) (fun _ => False) rfl rfl ?aP (fun _ hk => hk.elim) ?aF ?aO ?aB ?aS ?aL ?_; (case aP => exact rfl); (case aB => exact hB); (case aF => exact (fun _ _ => trivial)); (case aO => exact (pR Q00)); (case aS => exact (below_size hB)); (case aL => have := LMc7.out; omega); intro v104 w8 ho hb hg hat; rw [← Ny103.out] at ho; replace HB := Aside0.mk (hb); have Q01 := Aside0.mk (ho); clear Q00; clear ho hb hg hat))
       go_roundg k1
       case measure => have := HK1.out; omega
       case rel => exact ⟨(y103), (wrap64 (x6_1 + 1)), rS, H', ⟨by have := HK1.out; omega⟩, ⟨pR Q01⟩, ⟨pH HB⟩⟩
      ·rw [if_neg c7] at H
       exact absurd H (by simp)
     ·replace c6 := Bool.eq_false_iff.mpr c6
      subst c6
      have H1 : (scarfjointref07_into.l0 k1 l0 l1 x5_1 (wrap64 (x6_1 + 1))) = some r := by rw [if_neg (show ¬ (false = true) by decide)] at H; exact H
      clear H
      have H := H1
      clear H1
      have H' := Aside0.mk H
      clear H
      have p101 : 0 ≤ (x6_1 : Int) := oT
      have q101 : x6_1 < (l0.length : Int) := oT
      obtain ⟨ad101, e101, hx101_0⟩ := Kd.at_int HR0.out x6_1 p101 q101
      cases e101
      replace hx101_0 := (HB.out.cell (World.block_lt_of_cell? w _ hx101_0)).trans hx101_0
      replace p101 := eq_true p101
      replace q101 := eq_true q101
      go_wp2_with (first | ((with_reducible refine gate_callee (f := 79) rfl ?_); refine goesL_ (some 18) rfl rfl Try.func79 (by kernel_rfl) rfl #[.slice A1 l1.length c1, .int .i64 (rd l0 x6_1)] rfl aM ?_; (with_reducible refine (scarfjointref07_has.calls k1 _ _ l1 (rd l0 x6_1) false _ ?side1 ?side2 A5.out).mono ?_); (case side1 => exact cX (cB HR1.out HB.out)); (case side2 => exact HC1.out); rintro e w' ⟨rfl, ⟨nd, rfl⟩⟩; refine ⟨_, rfl, ?_⟩))
      go_roundg k1
      case measure => have := HK1.out; omega
      case rel => exact ⟨(x5_1), (wrap64 (x6_1 + 1)), rS, H', ⟨by have := HK1.out; omega⟩, ⟨pR Q00⟩, ⟨pH HB⟩⟩
    ·rw [if_neg c4] at H
     exact absurd H (by simp)
   ·rw [if_neg c3] at H
    have c3b0 : decide (x6_1 < (l0.length : Int)) = false := decide_eq_false c3
    clear c3
    obtain rfl := Option.some.inj H
    go_wp2
    go_ret
    exact ⟨_, by first | rfl | (simp [errW_none, errW_some] <;> rfl) | (simp [*, errW_none, errW_some] <;> rfl), by (with_reducible repeat (first | apply rA | apply rN | apply rD)); exact Q00.out, by repeat (first | (with_reducible first | exact HB.out | apply wA | apply wN | apply wD) | exact HB.out)⟩
/-! ### scarfjointref07_Preimage: function 27 -/
def scarfjointref07_Preimage.f (k : Nat) (l0_0 : List Int) (l0_1 : List (S94)) (l1_0 : List Int) (l1_1 : List (S94)) (l2_0 : List Int) (l2_1 : List Int) (l3_0 : List Int) (l3_1 : List Int) : Option (List Int × List Int × Int) := (scarfjointref06_Valid.f l0_0 l0_1 l1_0 l1_1 l2_0 l2_1).bind fun t106 => (if t106 = 0 then ((scarfjointref07_Right.f k l1_0 l1_1 l3_0 l3_1).bind fun t107 => (if t107 = 0 then ((scarfjointref07_into.f k l2_0 l3_0).bind fun t108 => ((scarfjointref07_into.f k l2_1 l3_1).bind fun t111 => (some (t108, t111, 0)))) else (some (([] : List Int), ([] : List Int), t107)))) else (some (([] : List Int), ([] : List Int), t106)))
theorem scarfjointref07_Preimage.mono : ∀ a0 a1 a2 a3 a4 a5 a6 a7 k, LeO (scarfjointref07_Preimage.f k a0 a1 a2 a3 a4 a5 a6 a7) (scarfjointref07_Preimage.f (k + 1) a0 a1 a2 a3 a4 a5 a6 a7) := by
 intro a0 a1 a2 a3 a4 a5 a6 a7 k
 unfold scarfjointref07_Preimage.f
 repeat' first
   | (with_reducible exact scarfjointref07_Right.mono _ _ _ _ _)
   | (with_reducible exact scarfjointref07_into.mono _ _ _)
   | (with_reducible exact LeO.refl _)
   | (with_reducible exact LeO.none _)
   | (with_reducible refine LeO.ite ?_ ?_)
   | (with_reducible refine LeO.bind ?_ (fun _ => ?_))
   | exact scarfjointref07_Right.mono _ _ _ _ _
   | exact scarfjointref07_into.mono _ _ _
   | exact LeO.none _
   | refine LeO.ite ?_ ?_
   | refine LeO.bind ?_ (fun _ => ?_)
def scarfjointref07_Preimage.T7 : Bool × List (List Nat × List Nat) := (true, [([], []), ([0], [0]), ([], []), ([2], [2]), ([1, 3], [1, 3]), ([], []), ([5], [5]), ([], []), ([7], [7]), ([6, 8, 4], [6, 8]), ([4, 9], [4, 9]), ([10, 9, 0, 1, 2, 3, 4, 5, 6, 7, 8, 9, 10], [10]), ([11, 0, 1, 2, 3, 4, 5, 6, 7, 8, 9, 10, 11], [])])
def scarfjointref07_Preimage.B7 : List Nat := [0, 1, 0, 4, 15, 0, 32, 0, 128, 511, 1023, 2047, 4095]
theorem scarfjointref07_Preimage.tab7 : rtab .any (opsOf Try.f27 7) = scarfjointref07_Preimage.T7 := by kernel_rfl
theorem scarfjointref07_Preimage.bits7 : waitsOk scarfjointref07_Preimage.T7.2 scarfjointref07_Preimage.B7 = true := by kernel_rfl
set_option maxHeartbeats 8000000 in
set_option maxRecDepth 100000 in
theorem scarfjointref07_Preimage.calls (k : Nat) (A0_0 : Option Addr) (c0_0 : Nat) (l0_0 : List Int) (A0_1 : Option Addr) (c0_1 : Nat) (l0_1 : List (S94)) (A1_0 : Option Addr) (c1_0 : Nat) (l1_0 : List Int) (A1_1 : Option Addr) (c1_1 : Nat) (l1_1 : List (S94)) (A2_0 : Option Addr) (c2_0 : Nat) (l2_0 : List Int) (A2_1 : Option Addr) (c2_1 : Nat) (l2_1 : List Int) (A3_0 : Option Addr) (c3_0 : Nat) (l3_0 : List Int) (A3_1 : Option Addr) (c3_1 : Nat) (l3_1 : List Int) (r1 : List Int) (r2 : List Int) (r3 : Int) (w : World) (hr0_0 : Kd.C (Kd.int .i64) w A0_0 l0_0.length l0_0) (hc0_0 : l0_0.length ≤ c0_0) (hr0_1 : Kd.C k94 w A0_1 l0_1.length l0_1) (hc0_1 : l0_1.length ≤ c0_1) (hr1_0 : Kd.C (Kd.int .i64) w A1_0 l1_0.length l1_0) (hc1_0 : l1_0.length ≤ c1_0) (hr1_1 : Kd.C k94 w A1_1 l1_1.length l1_1) (hc1_1 : l1_1.length ≤ c1_1) (hr2_0 : Kd.C (Kd.int .i64) w A2_0 l2_0.length l2_0) (hc2_0 : l2_0.length ≤ c2_0) (hr2_1 : Kd.C (Kd.int .i64) w A2_1 l2_1.length l2_1) (hc2_1 : l2_1.length ≤ c2_1) (hr3_0 : Kd.C (Kd.int .i64) w A3_0 l3_0.length l3_0) (hc3_0 : l3_0.length ≤ c3_0) (hr3_1 : Kd.C (Kd.int .i64) w A3_1 l3_1.length l3_1) (hc3_1 : l3_1.length ≤ c3_1) (h : scarfjointref07_Preimage.f k l0_0 l0_1 l1_0 l1_1 l2_0 l2_1 l3_0 l3_1 = some (r1, r2, r3)) :
  Calls Try.prog 27 #[.agg #[.slice A0_0 l0_0.length c0_0, .slice A0_1 l0_1.length c0_1], .agg #[.slice A1_0 l1_0.length c1_0, .slice A1_1 l1_1.length c1_1], .agg #[.slice A2_0 l2_0.length c2_0, .slice A2_1 l2_1.length c2_1], .agg #[.slice A3_0 l3_0.length c3_0, .slice A3_1 l3_1.length c3_1]] w fun e w' => ∃ v0_ v1_ : Value, e = .returned (.tuple #[.agg #[v0_, v1_], .int .i64 r3]) ∧ Kd.R (Kd.int .i64) 3 w' w.heap.size (fun k_ => some k_ ≠ (v1_ : Value).ownBlock) v0_ r1 ∧ Kd.R (Kd.int .i64) 3 w' w.heap.size (fun k_ => some k_ ≠ (v0_ : Value).ownBlock) v1_ r2 ∧ Below w.heap.size w w' := by
 have hu25 := Try.underlying25
 have hu27 := Try.underlying27
 have hu60 := Try.underlying60
 have HR0_0 := Aside0.mk hr0_0
 have HC0_0 := Aside0.mk hc0_0
 clear hr0_0 hc0_0
 have HR0_1 := Aside0.mk hr0_1
 have HC0_1 := Aside0.mk hc0_1
 clear hr0_1 hc0_1
 have HR1_0 := Aside0.mk hr1_0
 have HC1_0 := Aside0.mk hc1_0
 clear hr1_0 hc1_0
 have HR1_1 := Aside0.mk hr1_1
 have HC1_1 := Aside0.mk hc1_1
 clear hr1_1 hc1_1
 have HR2_0 := Aside0.mk hr2_0
 have HC2_0 := Aside0.mk hc2_0
 clear hr2_0 hc2_0
 have HR2_1 := Aside0.mk hr2_1
 have HC2_1 := Aside0.mk hc2_1
 clear hr2_1 hc2_1
 have HR3_0 := Aside0.mk hr3_0
 have HC3_0 := Aside0.mk hc3_0
 clear hr3_0 hc3_0
 have HR3_1 := Aside0.mk hr3_1
 have HC3_1 := Aside0.mk hc3_1
 clear hr3_1 hc3_1
 have HB := Aside0.mk (Below.refl w.heap.size w)
 have H : ((scarfjointref06_Valid.f l0_0 l0_1 l1_0 l1_1 l2_0 l2_1).bind fun t106 => (if t106 = 0 then ((scarfjointref07_Right.f k l1_0 l1_1 l3_0 l3_1).bind fun t107 => (if t107 = 0 then ((scarfjointref07_into.f k l2_0 l3_0).bind fun t108 => ((scarfjointref07_into.f k l2_1 l3_1).bind fun t111 => (some (t108, t111, 0)))) else (some (([] : List Int), ([] : List Int), t107)))) else (some (([] : List Int), ([] : List Int), t106)))) = some (r1, r2, r3) := h
 clear h
 replace H := Option.bind_eq_some_iff.mp H
 obtain ⟨t106, A50, H⟩ := H
 replace H : (if t106 = 0 then ((scarfjointref07_Right.f k l1_0 l1_1 l3_0 l3_1).bind fun t107 => (if t107 = 0 then ((scarfjointref07_into.f k l2_0 l3_0).bind fun t108 => ((scarfjointref07_into.f k l2_1 l3_1).bind fun t111 => (some (t108, t111, 0)))) else (some (([] : List Int), ([] : List Int), t107)))) else (some (([] : List Int), ([] : List Int), t106))) = some (r1, r2, r3) := H
 have A5 := Aside0.mk A50
 clear A50
 by_cases c6 : t106 = 0
 ·rw [if_pos c6] at H
  have c6b0 : (t106 == 0) = true := beq_iff_eq.mpr c6
  have c6b1 : (t106 != 0) = false := bne_eq_false_iff_eq.mpr c6
  clear c6
  replace H := Option.bind_eq_some_iff.mp H
  obtain ⟨t107, A70, H⟩ := H
  replace H : (if t107 = 0 then ((scarfjointref07_into.f k l2_0 l3_0).bind fun t108 => ((scarfjointref07_into.f k l2_1 l3_1).bind fun t111 => (some (t108, t111, 0)))) else (some (([] : List Int), ([] : List Int), t107))) = some (r1, r2, r3) := H
  have A7 := Aside0.mk A70
  clear A70
  by_cases c8 : t107 = 0
  ·rw [if_pos c8] at H
   have c8b0 : (t107 == 0) = true := beq_iff_eq.mpr c8
   have c8b1 : (t107 != 0) = false := bne_eq_false_iff_eq.mpr c8
   clear c8
   replace H := Option.bind_eq_some_iff.mp H
   obtain ⟨t108, A90, H⟩ := H
   replace H : ((scarfjointref07_into.f k l2_1 l3_1).bind fun t111 => (some (t108, t111, 0))) = some (r1, r2, r3) := H
   have A9 := Aside0.mk A90
   clear A90
   replace H := Option.bind_eq_some_iff.mp H
   obtain ⟨t111, A100, H⟩ := H
   replace H : (some (t108, t111, 0)) = some (r1, r2, r3) := H
   have A10 := Aside0.mk A100
   clear A100
   simp only [Option.some.injEq, Prod.mk.injEq] at H
   obtain ⟨rfl, rfl, rfl⟩ := H
   go_enter Try.func27, Try.ntmps27
   try go_wp2_with (first | ((with_reducible refine gate_dst (N := 4) rfl ?_); refine box_event ?hg (N := 4) ?hd (cs := #[.slice A0_0 l0_0.length c0_0, .slice A0_1 l0_1.length c0_1]) (t := 25) ?hr ?_; (case hd => rfl); (case hg => rfl); (case hr => first | (go_simp; done) | (go_simp; rfl)); intro Q06 hg w11 hbox hb; have Q00 := Aside0.mk (hbox); have Q14 := Aside0.mk ((by rw [hg]; exact (below_size hB) : w.heap.size ≤ Q06)); have Q0i := Aside0.mk ((by rw [hg]; exact (below_size hB) : w.heap.size ≤ Q06)); replace HB := uH HB hb; clear hb hbox hg) | ((with_reducible refine gate_dst (N := 5) rfl ?_); refine box_event ?hg (N := 5) ?hd (cs := #[.slice A1_0 l1_0.length c1_0, .slice A1_1 l1_1.length c1_1]) (t := 25) ?hr ?_; (case hd => rfl); (case hg => rfl); (case hr => first | (go_simp; done) | (go_simp; rfl)); intro Q07 hg w12 hbox hb; have Q01 := Aside0.mk (hbox); have Q15 := uS HB hg; have Q0j := uS HB hg; replace HB := uH HB hb; have Q0k := uL Q00 hg; have Q0l := uG Q00 hg; replace Q00 := uB Q00 hb; clear hb hbox hg) | ((with_reducible refine gate_dst (N := 6) rfl ?_); refine box_event ?hg (N := 6) ?hd (cs := #[.slice A2_0 l2_0.length c2_0, .slice A2_1 l2_1.length c2_1]) (t := 27) ?hr ?_; (case hd => rfl); (case hg => rfl); (case hr => first | (go_simp; done) | (go_simp; rfl)); intro Q0a hg w13 hbox hb; have Q02 := Aside0.mk (hbox); have Q16 := uS HB hg; have Q0m := uS HB hg; replace HB := uH HB hb; have Q0n := uL Q00 hg; have Q0o := uG Q00 hg; replace Q00 := uB Q00 hb; have Q0p := uL Q01 hg; have Q0q := uG Q01 hg; replace Q01 := uB Q01 hb; clear hb hbox hg) | ((with_reducible refine gate_dst (N := 7) rfl ?_); refine box_event ?hg (N := 7) ?hd (cs := #[.slice A3_0 l3_0.length c3_0, .slice A3_1 l3_1.length c3_1]) (t := 60) ?hr ?_; (case hd => rfl); (case hg => rfl); (case hr => first | (go_simp; done) | (go_simp; rfl)); intro Q0b hg w14 hbox hb; have Q03 := Aside0.mk (hbox); have Q17 := uS HB hg; have Q0r := uS HB hg; replace HB := uH HB hb; have Q0s := uL Q00 hg; have Q0t := uG Q00 hg; replace Q00 := uB Q00 hb; have Q0u := uL Q01 hg; have Q0v := uG Q01 hg; replace Q01 := uB Q01 hb; have Q0w := uL Q02 hg; have Q0x := uG Q02 hg; replace Q02 := uB Q02 hb; clear hb hbox hg) | ((with_reducible refine gate_dst (N := 8) rfl ?_); refine box_event ?hg (N := 8) ?hd (cs := #[.slice none 0 0, .slice none 0 0]) (t := 60) ?hr ?_; (case hd => rfl); (case hg => rfl); (case hr => first | (go_simp; done) | (go_simp; rfl)); intro Q05 hg w15 hbox hb; have Q04 := Aside0.mk (hbox); have Q18 := uS HB hg; have Q0y := uS HB hg; replace HB := uH HB hb; have Q0c := uL Q00 hg; have Q0d := uG Q00 hg; replace Q00 := uB Q00 hb; have Q0e := uL Q01 hg; have Q0f := uG Q01 hg; replace Q01 := uB Q01 hb; have Q08 := uL Q02 hg; have Q0g := uG Q02 hg; replace Q02 := uB Q02 hb; have Q09 := uL Q03 hg; have Q0h := uG Q03 hg; replace Q03 := uB Q03 hb; clear hb hbox hg; have Q1c := Q0k.out; have Q1d := Q0l.out; have Q1e := Q0n.out; have Q1f := Q0o.out; have Q1g := Q0s.out; have Q1h := Q0t.out; have Q1i := Q0c.out; have Q1j := Q0d.out; have Q1k : w15.cell? ⟨Q06, 0, none⟩ = some (.slice A0_0 l0_0.length c0_0) := bC Q00 0; have Q1l : w15.cell? ⟨Q06, 1, none⟩ = some (.slice A0_1 l0_1.length c0_1) := bC Q00 1; have Q1m := blk_frozen Q00.out 0; have Q1n := blk_frozen Q00.out 1; have Q1o := Q0p.out; have Q1p := Q0q.out; have Q1q := Q0u.out; have Q1r := Q0v.out; have Q1s := Q0e.out; have Q1t := Q0f.out; have Q1u : w15.cell? ⟨Q07, 0, none⟩ = some (.slice A1_0 l1_0.length c1_0) := bC Q01 0; have Q1v : w15.cell? ⟨Q07, 1, none⟩ = some (.slice A1_1 l1_1.length c1_1) := bC Q01 1; have Q1w := blk_frozen Q01.out 0; have Q1x := blk_frozen Q01.out 1; have Q1y := Q0w.out; have Q1z := Q0x.out; have Q20 := Q08.out; have Q21 := Q0g.out; have Q22 : w15.cell? ⟨Q0a, 0, none⟩ = some (.slice A2_0 l2_0.length c2_0) := bC Q02 0; have Q23 : w15.cell? ⟨Q0a, 1, none⟩ = some (.slice A2_1 l2_1.length c2_1) := bC Q02 1; have Q24 := blk_frozen Q02.out 0; have Q25 := blk_frozen Q02.out 1) | ((with_reducible refine gate_callee (f := 44) rfl ?_); refine goesL_ (some 15) rfl rfl Try.func44 (by kernel_rfl) rfl #[.agg #[.slice A0_0 l0_0.length c0_0, .slice A0_1 l0_1.length c0_1], .agg #[.slice A1_0 l1_0.length c1_0, .slice A1_1 l1_1.length c1_1], .agg #[.slice A2_0 l2_0.length c2_0, .slice A2_1 l2_1.length c2_1]] rfl aM ?_; (with_reducible refine (scarfjointref06_Valid.calls _ _ l0_0 _ _ l0_1 _ _ l1_0 _ _ l1_1 _ _ l2_0 _ _ l2_1 t106 _ ?side1 ?side2 ?side3 ?side4 ?side5 ?side6 ?side7 ?side8 ?side9 ?side10 ?side11 ?side12 A5.out).mono ?_); (case side1 => exact cX (cB HR0_0.out HB.out)); (case side2 => exact HC0_0.out); (case side3 => exact cX (cB HR0_1.out HB.out)); (case side4 => exact HC0_1.out); (case side5 => exact cX (cB HR1_0.out HB.out)); (case side6 => exact HC1_0.out); (case side7 => exact cX (cB HR1_1.out HB.out)); (case side8 => exact HC1_1.out); (case side9 => exact cX (cB HR2_0.out HB.out)); (case side10 => exact HC2_0.out); (case side11 => exact cX (cB HR2_1.out HB.out)); (case side12 => exact HC2_1.out); rintro e w28 ⟨rfl, hb⟩; refine ⟨_, rfl, ?_⟩; replace Q00 := uB Q00 hb; replace Q01 := uB Q01 hb; replace Q02 := uB Q02 hb; replace Q03 := uB Q03 hb; replace Q04 := uB Q04 hb; replace HB := uH HB hb; (try clear hb); (try clear hb2); (try clear hk); (try clear hi); have Q26 : w28.cell? ⟨Q07, 0, none⟩ = some (.slice A1_0 l1_0.length c1_0) := bC Q01 0; have Q27 : w28.cell? ⟨Q07, 1, none⟩ = some (.slice A1_1 l1_1.length c1_1) := bC Q01 1; have Q28 := blk_frozen Q01.out 0; have Q29 := blk_frozen Q01.out 1; have Q2a := Q09.out; have Q2b := Q0h.out; have Q2c : w28.cell? ⟨Q0b, 0, none⟩ = some (.slice A3_0 l3_0.length c3_0) := bC Q03 0; have Q2d : w28.cell? ⟨Q0b, 1, none⟩ = some (.slice A3_1 l3_1.length c3_1) := bC Q03 1; have Q2e := blk_frozen Q03.out 0; have Q2f := blk_frozen Q03.out 1) | ((with_reducible refine gate_callee (f := 59) rfl ?_); refine goesL_ (some 22) rfl rfl Try.func59 (by kernel_rfl) rfl #[.agg #[.slice A1_0 l1_0.length c1_0, .slice A1_1 l1_1.length c1_1], .agg #[.slice A3_0 l3_0.length c3_0, .slice A3_1 l3_1.length c3_1]] rfl aM ?_; (with_reducible refine (scarfjointref07_Right.calls k _ _ l1_0 _ _ l1_1 _ _ l3_0 _ _ l3_1 t107 _ ?side1 ?side2 ?side3 ?side4 ?side5 ?side6 ?side7 ?side8 A7.out).mono ?_); (case side1 => exact cX (cB HR1_0.out HB.out)); (case side2 => exact HC1_0.out); (case side3 => exact cX (cB HR1_1.out HB.out)); (case side4 => exact HC1_1.out); (case side5 => exact cX (cB HR3_0.out HB.out)); (case side6 => exact HC3_0.out); (case side7 => exact cX (cB HR3_1.out HB.out)); (case side8 => exact HC3_1.out); rintro e w32 ⟨rfl, hb⟩; refine ⟨_, rfl, ?_⟩; replace Q00 := uB Q00 hb; replace Q01 := uB Q01 hb; replace Q02 := uB Q02 hb; replace Q03 := uB Q03 hb; replace Q04 := uB Q04 hb; replace HB := uH HB hb; (try clear hb); (try clear hb2); (try clear hk); (try clear hi)))
   replace Q00 := Aside0.mk (bD Q00.out)
   replace Q01 := Aside0.mk (bD Q01.out)
   replace Q02 := Aside0.mk (bD Q02.out)
   replace Q03 := Aside0.mk (bD Q03.out)
   replace Q04 := Aside0.mk (bD Q04.out)
   replace HB := Aside0.mk (wD HB.out)
   refine start_ (n := 13) (S := fun w' => w'.cell? ⟨Q0a, 0, none⟩ = some (.slice A2_0 l2_0.length c2_0) ∧ w'.cell? ⟨Q0a, 1, none⟩ = some (.slice A2_1 l2_1.length c2_1) ∧ w'.cell? ⟨Q0b, 0, none⟩ = some (.slice A3_0 l3_0.length c3_0) ∧ w'.cell? ⟨Q0b, 1, none⟩ = some (.slice A3_1 l3_1.length c3_1)) (ds := []) #[false, false, false, false, false, false, false, false, false, false, false, false, false] (by kernel_rfl) rfl rfl ⟨bC Q02 0, bC Q02 1, bC Q03 0, bC Q03 1⟩ (fun hHeld => ?_); refine with_tabW scarfjointref07_Preimage.tab7 scarfjointref07_Preimage.bits7 (fun HT_ HW_ => ?_)
   generalize w32.drew = w33 at Q00 Q01 Q02 Q03 Q04 HB hHeld ⊢
   refine pure_ (i := 0) (N := some 27) (v := ?_) (a' := ?_) #[true, false, false, false, false, false, false, false, false, false, false, false, false] rfl rfl (any_of HT_.out (by kernel_rfl)) (fun _ _ _ h => h) (Or.inl ⟨by rfl, ?_⟩) ?_ ?_
   rotate_left
   ·intro w'
    go_simp
    with_reducible rfl
   rotate_left
   ·simp only [Act.put, List.setIfInBounds_toArray, List.set_cons_zero, List.set_cons_succ, i64_w, i32_w]
    rfl
   refine pure_ (i := 2) (N := some 29) (v := ?_) (a' := ?_) #[true, false, true, false, false, false, false, false, false, false, false, false, false] rfl rfl (any_of HT_.out (by kernel_rfl)) (fun _ _ _ h => h) (Or.inl ⟨by rfl, ?_⟩) ?_ ?_
   rotate_left
   ·intro w'
    go_simp
    with_reducible rfl
   rotate_left
   ·simp only [Act.put, List.setIfInBounds_toArray, List.set_cons_zero, List.set_cons_succ, i64_w, i32_w]
    rfl
   refine pure_ (i := 5) (N := some 32) (v := ?_) (a' := ?_) #[true, false, true, false, false, true, false, false, false, false, false, false, false] rfl rfl (any_of HT_.out (by kernel_rfl)) (fun _ _ _ h => h) (Or.inl ⟨by rfl, ?_⟩) ?_ ?_
   rotate_left
   ·intro w'
    go_simp
    with_reducible rfl
   rotate_left
   ·simp only [Act.put, List.setIfInBounds_toArray, List.set_cons_zero, List.set_cons_succ, i64_w, i32_w]
    rfl
   refine pure_ (i := 7) (N := some 34) (v := ?_) (a' := ?_) #[true, false, true, false, false, true, false, true, false, false, false, false, false] rfl rfl (any_of HT_.out (by kernel_rfl)) (fun _ _ _ h => h) (Or.inl ⟨by rfl, ?_⟩) ?_ ?_
   rotate_left
   ·intro w'
    go_simp
    with_reducible rfl
   rotate_left
   ·simp only [Act.put, List.setIfInBounds_toArray, List.set_cons_zero, List.set_cons_succ, i64_w, i32_w]
    rfl
   refine take_ (i := 1) (N := some 28) (v := ?_) (a' := ?_) #[true, true, true, false, false, true, false, true, false, false, false, false, false] rfl rfl (take_ofW HT_.out HW_.out (by kernel_rfl)) (fun _ _ _ h => h) (Or.inl ⟨by rfl, ?_⟩) hHeld ?_ ?_
   rotate_left
   ·rintro w' ⟨s0, s1, s2, s3⟩
    go_simp
    with_reducible rfl
   rotate_left
   ·simp only [Act.put, List.setIfInBounds_toArray, List.set_cons_zero, List.set_cons_succ, i64_w, i32_w]
    rfl
   refine take_ (i := 3) (N := some 30) (v := ?_) (a' := ?_) #[true, true, true, true, false, true, false, true, false, false, false, false, false] rfl rfl (take_ofW HT_.out HW_.out (by kernel_rfl)) (fun _ _ _ h => h) (Or.inl ⟨by rfl, ?_⟩) hHeld ?_ ?_
   rotate_left
   ·rintro w' ⟨s0, s1, s2, s3⟩
    go_simp
    with_reducible rfl
   rotate_left
   ·simp only [Act.put, List.setIfInBounds_toArray, List.set_cons_zero, List.set_cons_succ, i64_w, i32_w]
    rfl
   refine take_ (i := 6) (N := some 33) (v := ?_) (a' := ?_) #[true, true, true, true, false, true, true, true, false, false, false, false, false] rfl rfl (take_ofW HT_.out HW_.out (by kernel_rfl)) (fun _ _ _ h => h) (Or.inl ⟨by rfl, ?_⟩) hHeld ?_ ?_
   rotate_left
   ·rintro w' ⟨s0, s1, s2, s3⟩
    go_simp
    with_reducible rfl
   rotate_left
   ·simp only [Act.put, List.setIfInBounds_toArray, List.set_cons_zero, List.set_cons_succ, i64_w, i32_w]
    rfl
   refine take_ (i := 8) (N := some 35) (v := ?_) (a' := ?_) #[true, true, true, true, false, true, true, true, true, false, false, false, false] rfl rfl (take_ofW HT_.out HW_.out (by kernel_rfl)) (fun _ _ _ h => h) (Or.inl ⟨by rfl, ?_⟩) hHeld ?_ ?_
   rotate_left
   ·rintro w' ⟨s0, s1, s2, s3⟩
    go_simp
    with_reducible rfl
   rotate_left
   ·simp only [Act.put, List.setIfInBounds_toArray, List.set_cons_zero, List.set_cons_succ, i64_w, i32_w]
    rfl
   refine one_ (i := 4) (N := some 31) #[true, true, true, true, true, true, true, true, true, false, false, false, false] rfl rfl (one_of HT_.out (by kernel_rfl)) (by decide) (fun K hK => ?_)
   refine goes_ Try.func60 (by kernel_rfl) rfl #[.slice A2_0 l2_0.length c2_0, .slice A3_0 l3_0.length c3_0] (by rfl) rfl rfl aM ?_
   with_reducible refine (scarfjointref07_into.calls k _ _ l2_0 _ _ l3_0 t108 _ ?side1 ?side2 ?side3 ?side4 A9.out).mono ?_
   (case side1 => exact cX (cB HR2_0.out HB.out))
   (case side2 => exact HC2_0.out)
   (case side3 => exact cX (cB HR3_0.out HB.out))
   (case side4 => exact HC3_0.out)
   rintro e w34 ⟨v109, rfl, ho0, hb⟩
   refine ⟨_, rfl, ?_⟩
   have Q0z := Aside0.mk (Kd.R_lower ho0 (below_size (pH HB)))
   replace Q00 := uB Q00 hb
   replace Q01 := uB Q01 hb
   replace Q02 := uB Q02 hb
   replace Q03 := uB Q03 hb
   replace Q04 := uB Q04 hb
   replace HB := uH HB hb
   (try clear hb)
   (try clear hb2)
   (try clear hk)
   (try clear hi)
   (try clear ho0)
   refine hK.out _ _ ⟨bC Q02 0, bC Q02 1, bC Q03 0, bC Q03 1⟩ (fun hHeld => ?_)
   clear hK K
   refine norm_ (a' := ?_) ?_ ?_
   rotate_left
   ·show Act.put _ (some 31) _ = _
    simp only [Act.put, List.setIfInBounds_toArray, List.set_cons_zero, List.set_cons_succ, i64_w, i32_w]
    rfl
   refine one_ (i := 9) (N := some 36) #[true, true, true, true, true, true, true, true, true, true, false, false, false] rfl rfl (one_of HT_.out (by kernel_rfl)) (by decide) (fun K hK => ?_)
   refine goes_ Try.func60 (by kernel_rfl) rfl #[.slice A2_1 l2_1.length c2_1, .slice A3_1 l3_1.length c3_1] (by rfl) rfl rfl aM ?_
   with_reducible refine (scarfjointref07_into.calls k _ _ l2_1 _ _ l3_1 t111 _ ?side1 ?side2 ?side3 ?side4 A10.out).mono ?_
   (case side1 => exact cX (cB HR2_1.out HB.out))
   (case side2 => exact HC2_1.out)
   (case side3 => exact cX (cB HR3_1.out HB.out))
   (case side4 => exact HC3_1.out)
   rintro e w35 ⟨v112, rfl, ho0, hb⟩
   refine ⟨_, rfl, ?_⟩
   have Q19 := Aside0.mk (Kd.R_lower (Kd.R_new' ho0 (Kd.R_lt (pR Q0z))) (below_size (pH HB)))
   replace Q0z := eR Q0z (Kd.R_base ho0) hb
   replace Q00 := uB Q00 hb
   replace Q01 := uB Q01 hb
   replace Q02 := uB Q02 hb
   replace Q03 := uB Q03 hb
   replace Q04 := uB Q04 hb
   replace HB := uH HB hb
   (try clear hb)
   (try clear hb2)
   (try clear hk)
   (try clear hi)
   (try clear ho0)
   obtain ⟨Q12, Q13, Q1a⟩ := Kd.R_slice Q19.out
   (first | subst Q1a | (injection Q1a with f1_ f2_ f3_; have f4_ := f1_.symm; have f5_ := f3_.symm; clear f1_ f2_ f3_; subst f4_; subst f5_))
   obtain ⟨Q10, Q11, Q1b⟩ := Kd.R_slice Q0z.out
   (first | subst Q1b | (injection Q1b with f1_ f2_ f3_; have f4_ := f1_.symm; have f5_ := f3_.symm; clear f1_ f2_ f3_; subst f4_; subst f5_))
   refine hK.out _ _ ⟨bC Q02 0, bC Q02 1, bC Q03 0, bC Q03 1⟩ (fun hHeld => ?_)
   clear hK K
   refine norm_ (a' := ?_) ?_ ?_
   rotate_left
   ·show Act.put _ (some 36) _ = _
    simp only [Act.put, List.setIfInBounds_toArray, List.set_cons_zero, List.set_cons_succ, i64_w, i32_w]
    rfl
   refine pure_ (i := 10) (N := some 37) (v := ?_) (a' := ?_) #[true, true, true, true, true, true, true, true, true, true, true, false, false] rfl rfl (any_of HT_.out (by kernel_rfl)) (fun _ _ _ h => h) (Or.inl ⟨by rfl, ?_⟩) ?_ ?_
   rotate_left
   ·intro w'
    go_simp
    with_reducible rfl
   rotate_left
   ·simp only [Act.put, List.setIfInBounds_toArray, List.set_cons_zero, List.set_cons_succ, i64_w, i32_w]
    rfl
   refine one_ (i := 11) (N := none) #[true, true, true, true, true, true, true, true, true, true, true, true, false] rfl rfl (one_of HT_.out (by kernel_rfl)) (by decide) (fun K hK => ?_)
   have Q2g : w35.cell? ⟨Q05, 0, none⟩ = some (.slice none 0 0) := bC Q04 0
   have Q2h := blk_frozen Q04.out 0
   have Q2i := Q0c.out
   have Q2j := Q0e.out
   have Q2k := Q08.out
   have Q2l := Q09.out
   have Q2m := Q0d.out
   have Q2n := Q0f.out
   have Q2o := Q0g.out
   have Q2p := Q0h.out
   have Q2q : w35.cell? ⟨Q05, 1, none⟩ = some (.slice none 0 0) := bC Q04 1
   have Q2r := blk_frozen Q04.out 1
   have Q2s := Q0c.out
   have Q2t := Q0e.out
   have Q2u := Q08.out
   have Q2v := Q09.out
   have Q2w := Q0d.out
   have Q2x := Q0f.out
   have Q2y := Q0g.out
   have Q2z := Q0h.out
   refine skip_ (w1 := ?_) (by rfl) rfl ?_ ?_
   rotate_left
   ·go_simp
    rfl
   refine hK.out _ _ ⟨(cG Q08.out (cG Q08.out hHeld.1)), (cG Q08.out (cG Q08.out hHeld.2.1)), (cG Q09.out (cG Q09.out hHeld.2.2.1)), (cG Q09.out (cG Q09.out hHeld.2.2.2))⟩ (fun hHeld => ?_)
   clear hK K
   refine pure_ (i := 12) (N := some 9) (v := ?_) (a' := ?_) #[true, true, true, true, true, true, true, true, true, true, true, true, true] rfl rfl (any_of HT_.out (by kernel_rfl)) (fun _ _ _ h => h) (Or.inl ⟨by rfl, ?_⟩) ?_ ?_
   rotate_left
   ·intro w'
    go_simp
    with_reducible rfl
   rotate_left
   ·simp only [Act.put, List.setIfInBounds_toArray, List.set_cons_zero, List.set_cons_succ, i64_w, i32_w]
    rfl
   refine done_ (done_of HT_.out (by kernel_rfl)) ?_
   try go_wp2
   refine bodyPost_ret (results_ct rfl _ _ Q05 60 #[.slice Q10 t108.length Q11, .slice Q12 t111.length Q13] (0, 0) _ rfl (by (with_reducible repeat (first | refine bN ?_ _ | refine bD ?_ | refine bA ?_ _)); refine blk_put (cs := #[.slice Q10 t108.length Q11, .slice none 0 0]) ?_ 1 _ rfl; (with_reducible repeat (first | refine bN ?_ _ | refine bD ?_ | refine bA ?_ _)); refine blk_put (cs := #[.slice none 0 0, .slice none 0 0]) ?_ 0 _ rfl; (with_reducible repeat (first | refine bN ?_ _ | refine bD ?_ | refine bA ?_ _)); exact Q04.out) Try.underlying60 rfl (by kernel_rfl)) rfl ?_
   exact ⟨_, _, by first | rfl | (simp [errW_none, errW_some] <;> rfl) | (simp [*, errW_none, errW_some] <;> rfl), by (with_reducible repeat (first | apply rA | apply rN | apply rD)); exact Kd.R_mono (Kd.R_far (p := ⟨Q05, 1, none⟩) (Kd.R_far (p := ⟨Q05, 0, none⟩) (Kd.R_types Q0z.out Q04.out (by decide)) (fun _ hk => hk.2) (.slice Q10 t108.length Q11)) (fun _ hk => hk.2) (.slice Q12 t111.length Q13)) (fun _ hk => hk.1.2), by (with_reducible repeat (first | apply rA | apply rN | apply rD)); exact Kd.R_mono (Kd.R_far (p := ⟨Q05, 1, none⟩) (Kd.R_far (p := ⟨Q05, 0, none⟩) (Kd.R_types Q19.out Q04.out (by decide)) (fun _ hk => hk.2) (.slice Q10 t108.length Q11)) (fun _ hk => hk.2) (.slice Q12 t111.length Q13)) (fun _ hk => hk.1.2), by repeat (first | (with_reducible first | exact HB.out | apply wA | apply wN | apply wD | refine below_set ?_ Q0i.out | refine below_set ?_ Q0j.out | refine below_set ?_ Q0m.out | refine below_set ?_ Q0r.out | refine below_set ?_ Q0y.out) | exact HB.out)⟩
  ·rw [if_neg c8] at H
   have c8b0 : (t107 == 0) = false := beq_eq_false_iff_ne.mpr c8
   have c8b1 : (t107 != 0) = true := bne_iff_ne.mpr c8
   simp only [Option.some.injEq, Prod.mk.injEq] at H
   obtain ⟨rfl, rfl, rfl⟩ := H
   go_enter Try.func27, Try.ntmps27
   go_wp2_with (first | ((with_reducible refine gate_dst (N := 4) rfl ?_); refine box_event ?hg (N := 4) ?hd (cs := #[.slice A0_0 l0_0.length c0_0, .slice A0_1 l0_1.length c0_1]) (t := 25) ?hr ?_; (case hd => rfl); (case hg => rfl); (case hr => first | (go_simp; done) | (go_simp; rfl)); intro Q06 hg w40 hbox hb; have Q00 := Aside0.mk (hbox); have Q14 := Aside0.mk ((by rw [hg]; exact (below_size hB) : w.heap.size ≤ Q06)); have Q0i := Aside0.mk ((by rw [hg]; exact (below_size hB) : w.heap.size ≤ Q06)); replace HB := uH HB hb; clear hb hbox hg) | ((with_reducible refine gate_dst (N := 5) rfl ?_); refine box_event ?hg (N := 5) ?hd (cs := #[.slice A1_0 l1_0.length c1_0, .slice A1_1 l1_1.length c1_1]) (t := 25) ?hr ?_; (case hd => rfl); (case hg => rfl); (case hr => first | (go_simp; done) | (go_simp; rfl)); intro Q07 hg w41 hbox hb; have Q01 := Aside0.mk (hbox); have Q15 := uS HB hg; have Q0j := uS HB hg; replace HB := uH HB hb; have Q0k := uL Q00 hg; have Q0l := uG Q00 hg; replace Q00 := uB Q00 hb; clear hb hbox hg) | ((with_reducible refine gate_dst (N := 6) rfl ?_); refine box_event ?hg (N := 6) ?hd (cs := #[.slice A2_0 l2_0.length c2_0, .slice A2_1 l2_1.length c2_1]) (t := 27) ?hr ?_; (case hd => rfl); (case hg => rfl); (case hr => first | (go_simp; done) | (go_simp; rfl)); intro Q0a hg w42 hbox hb; have Q02 := Aside0.mk (hbox); have Q16 := uS HB hg; have Q0m := uS HB hg; replace HB := uH HB hb; have Q0n := uL Q00 hg; have Q0o := uG Q00 hg; replace Q00 := uB Q00 hb; have Q0p := uL Q01 hg; have Q0q := uG Q01 hg; replace Q01 := uB Q01 hb; clear hb hbox hg) | ((with_reducible refine gate_dst (N := 7) rfl ?_); refine box_event ?hg (N := 7) ?hd (cs := #[.slice A3_0 l3_0.length c3_0, .slice A3_1 l3_1.length c3_1]) (t := 60) ?hr ?_; (case hd => rfl); (case hg => rfl); (case hr => first | (go_simp; done) | (go_simp; rfl)); intro Q0b hg w43 hbox hb; have Q03 := Aside0.mk (hbox); have Q17 := uS HB hg; have Q0r := uS HB hg; replace HB := uH HB hb; have Q0s := uL Q00 hg; have Q0t := uG Q00 hg; replace Q00 := uB Q00 hb; have Q0u := uL Q01 hg; have Q0v := uG Q01 hg; replace Q01 := uB Q01 hb; have Q0w := uL Q02 hg; have Q0x := uG Q02 hg; replace Q02 := uB Q02 hb; clear hb hbox hg) | ((with_reducible refine gate_dst (N := 8) rfl ?_); refine box_event ?hg (N := 8) ?hd (cs := #[.slice none 0 0, .slice none 0 0]) (t := 60) ?hr ?_; (case hd => rfl); (case hg => rfl); (case hr => first | (go_simp; done) | (go_simp; rfl)); intro Q05 hg w44 hbox hb; have Q04 := Aside0.mk (hbox); have Q18 := uS HB hg; have Q0y := uS HB hg; replace HB := uH HB hb; have Q0c := uL Q00 hg; have Q0d := uG Q00 hg; replace Q00 := uB Q00 hb; have Q0e := uL Q01 hg; have Q0f := uG Q01 hg; replace Q01 := uB Q01 hb; have Q08 := uL Q02 hg; have Q0g := uG Q02 hg; replace Q02 := uB Q02 hb; have Q09 := uL Q03 hg; have Q0h := uG Q03 hg; replace Q03 := uB Q03 hb; clear hb hbox hg; have Q30 := Q0k.out; have Q31 := Q0l.out; have Q32 := Q0n.out; have Q33 := Q0o.out; have Q34 := Q0s.out; have Q35 := Q0t.out; have Q36 := Q0c.out; have Q37 := Q0d.out; have Q38 : w44.cell? ⟨Q06, 0, none⟩ = some (.slice A0_0 l0_0.length c0_0) := bC Q00 0; have Q39 : w44.cell? ⟨Q06, 1, none⟩ = some (.slice A0_1 l0_1.length c0_1) := bC Q00 1; have Q3a := blk_frozen Q00.out 0; have Q3b := blk_frozen Q00.out 1; have Q3c := Q0p.out; have Q3d := Q0q.out; have Q3e := Q0u.out; have Q3f := Q0v.out; have Q3g := Q0e.out; have Q3h := Q0f.out; have Q3i : w44.cell? ⟨Q07, 0, none⟩ = some (.slice A1_0 l1_0.length c1_0) := bC Q01 0; have Q3j : w44.cell? ⟨Q07, 1, none⟩ = some (.slice A1_1 l1_1.length c1_1) := bC Q01 1; have Q3k := blk_frozen Q01.out 0; have Q3l := blk_frozen Q01.out 1; have Q3m := Q0w.out; have Q3n := Q0x.out; have Q3o := Q08.out; have Q3p := Q0g.out; have Q3q : w44.cell? ⟨Q0a, 0, none⟩ = some (.slice A2_0 l2_0.length c2_0) := bC Q02 0; have Q3r : w44.cell? ⟨Q0a, 1, none⟩ = some (.slice A2_1 l2_1.length c2_1) := bC Q02 1; have Q3s := blk_frozen Q02.out 0; have Q3t := blk_frozen Q02.out 1) | ((with_reducible refine gate_callee (f := 44) rfl ?_); refine goesL_ (some 15) rfl rfl Try.func44 (by kernel_rfl) rfl #[.agg #[.slice A0_0 l0_0.length c0_0, .slice A0_1 l0_1.length c0_1], .agg #[.slice A1_0 l1_0.length c1_0, .slice A1_1 l1_1.length c1_1], .agg #[.slice A2_0 l2_0.length c2_0, .slice A2_1 l2_1.length c2_1]] rfl aM ?_; (with_reducible refine (scarfjointref06_Valid.calls _ _ l0_0 _ _ l0_1 _ _ l1_0 _ _ l1_1 _ _ l2_0 _ _ l2_1 t106 _ ?side1 ?side2 ?side3 ?side4 ?side5 ?side6 ?side7 ?side8 ?side9 ?side10 ?side11 ?side12 A5.out).mono ?_); (case side1 => exact cX (cB HR0_0.out HB.out)); (case side2 => exact HC0_0.out); (case side3 => exact cX (cB HR0_1.out HB.out)); (case side4 => exact HC0_1.out); (case side5 => exact cX (cB HR1_0.out HB.out)); (case side6 => exact HC1_0.out); (case side7 => exact cX (cB HR1_1.out HB.out)); (case side8 => exact HC1_1.out); (case side9 => exact cX (cB HR2_0.out HB.out)); (case side10 => exact HC2_0.out); (case side11 => exact cX (cB HR2_1.out HB.out)); (case side12 => exact HC2_1.out); rintro e w57 ⟨rfl, hb⟩; refine ⟨_, rfl, ?_⟩; replace Q00 := uB Q00 hb; replace Q01 := uB Q01 hb; replace Q02 := uB Q02 hb; replace Q03 := uB Q03 hb; replace Q04 := uB Q04 hb; replace HB := uH HB hb; (try clear hb); (try clear hb2); (try clear hk); (try clear hi); have Q3u : w57.cell? ⟨Q07, 0, none⟩ = some (.slice A1_0 l1_0.length c1_0) := bC Q01 0; have Q3v : w57.cell? ⟨Q07, 1, none⟩ = some (.slice A1_1 l1_1.length c1_1) := bC Q01 1; have Q3w := blk_frozen Q01.out 0; have Q3x := blk_frozen Q01.out 1; have Q3y := Q09.out; have Q3z := Q0h.out; have Q40 : w57.cell? ⟨Q0b, 0, none⟩ = some (.slice A3_0 l3_0.length c3_0) := bC Q03 0; have Q41 : w57.cell? ⟨Q0b, 1, none⟩ = some (.slice A3_1 l3_1.length c3_1) := bC Q03 1; have Q42 := blk_frozen Q03.out 0; have Q43 := blk_frozen Q03.out 1) | ((with_reducible refine gate_callee (f := 59) rfl ?_); refine goesL_ (some 22) rfl rfl Try.func59 (by kernel_rfl) rfl #[.agg #[.slice A1_0 l1_0.length c1_0, .slice A1_1 l1_1.length c1_1], .agg #[.slice A3_0 l3_0.length c3_0, .slice A3_1 l3_1.length c3_1]] rfl aM ?_; (with_reducible refine (scarfjointref07_Right.calls k _ _ l1_0 _ _ l1_1 _ _ l3_0 _ _ l3_1 t107 _ ?side1 ?side2 ?side3 ?side4 ?side5 ?side6 ?side7 ?side8 A7.out).mono ?_); (case side1 => exact cX (cB HR1_0.out HB.out)); (case side2 => exact HC1_0.out); (case side3 => exact cX (cB HR1_1.out HB.out)); (case side4 => exact HC1_1.out); (case side5 => exact cX (cB HR3_0.out HB.out)); (case side6 => exact HC3_0.out); (case side7 => exact cX (cB HR3_1.out HB.out)); (case side8 => exact HC3_1.out); rintro e w61 ⟨rfl, hb⟩; refine ⟨_, rfl, ?_⟩; replace Q00 := uB Q00 hb; replace Q01 := uB Q01 hb; replace Q02 := uB Q02 hb; replace Q03 := uB Q03 hb; replace Q04 := uB Q04 hb; replace HB := uH HB hb; (try clear hb); (try clear hb2); (try clear hk); (try clear hi); have Q44 : w61.cell? ⟨Q05, 0, none⟩ = some (.slice none 0 0) := bC Q04 0; have Q45 : w61.cell? ⟨Q05, 1, none⟩ = some (.slice none 0 0) := bC Q04 1; have Q46 := blk_frozen Q04.out 0; have Q47 := blk_frozen Q04.out 1))
   refine bodyPost_ret (results_ct rfl _ _ Q05 60 #[.slice none 0 0, .slice none 0 0] (0, 0) _ rfl (by (with_reducible repeat (first | refine bN ?_ _ | refine bD ?_ | refine bA ?_ _)); refine blk_put (cs := #[.slice none 0 0, .slice none 0 0]) ?_ 1 _ rfl; (with_reducible repeat (first | refine bN ?_ _ | refine bD ?_ | refine bA ?_ _)); refine blk_put (cs := #[.slice none 0 0, .slice none 0 0]) ?_ 0 _ rfl; (with_reducible repeat (first | refine bN ?_ _ | refine bD ?_ | refine bA ?_ _)); exact Q04.out) Try.underlying60 rfl (by kernel_rfl)) rfl ?_
   exact ⟨_, _, by first | rfl | (simp [errW_none, errW_some] <;> rfl) | (simp [*, errW_none, errW_some] <;> rfl), by first | exact Kd.R_nil _ _ _ _ _ | exact Kd.N_nil _ _ _ _ _ | exact Kd.V_nil _ _ _ _ _ | exact Kd.Q_nil _ _ _ _ _ | exact Kd.S_nil _ _ _ _ _, by first | exact Kd.R_nil _ _ _ _ _ | exact Kd.N_nil _ _ _ _ _ | exact Kd.V_nil _ _ _ _ _ | exact Kd.Q_nil _ _ _ _ _ | exact Kd.S_nil _ _ _ _ _, by repeat (first | (with_reducible first | exact HB.out | apply wA | apply wN | apply wD | refine below_set ?_ Q0i.out | refine below_set ?_ Q0j.out | refine below_set ?_ Q0m.out | refine below_set ?_ Q0r.out | refine below_set ?_ Q0y.out) | exact HB.out)⟩
 ·rw [if_neg c6] at H
  have c6b0 : (t106 == 0) = false := beq_eq_false_iff_ne.mpr c6
  have c6b1 : (t106 != 0) = true := bne_iff_ne.mpr c6
  simp only [Option.some.injEq, Prod.mk.injEq] at H
  obtain ⟨rfl, rfl, rfl⟩ := H
  go_enter Try.func27, Try.ntmps27
  go_wp2_with (first | ((with_reducible refine gate_dst (N := 4) rfl ?_); refine box_event ?hg (N := 4) ?hd (cs := #[.slice A0_0 l0_0.length c0_0, .slice A0_1 l0_1.length c0_1]) (t := 25) ?hr ?_; (case hd => rfl); (case hg => rfl); (case hr => first | (go_simp; done) | (go_simp; rfl)); intro Q06 hg w63 hbox hb; have Q00 := Aside0.mk (hbox); have Q14 := Aside0.mk ((by rw [hg]; exact (below_size hB) : w.heap.size ≤ Q06)); have Q0i := Aside0.mk ((by rw [hg]; exact (below_size hB) : w.heap.size ≤ Q06)); replace HB := uH HB hb; clear hb hbox hg) | ((with_reducible refine gate_dst (N := 5) rfl ?_); refine box_event ?hg (N := 5) ?hd (cs := #[.slice A1_0 l1_0.length c1_0, .slice A1_1 l1_1.length c1_1]) (t := 25) ?hr ?_; (case hd => rfl); (case hg => rfl); (case hr => first | (go_simp; done) | (go_simp; rfl)); intro Q07 hg w64 hbox hb; have Q01 := Aside0.mk (hbox); have Q15 := uS HB hg; have Q0j := uS HB hg; replace HB := uH HB hb; have Q0k := uL Q00 hg; have Q0l := uG Q00 hg; replace Q00 := uB Q00 hb; clear hb hbox hg) | ((with_reducible refine gate_dst (N := 6) rfl ?_); refine box_event ?hg (N := 6) ?hd (cs := #[.slice A2_0 l2_0.length c2_0, .slice A2_1 l2_1.length c2_1]) (t := 27) ?hr ?_; (case hd => rfl); (case hg => rfl); (case hr => first | (go_simp; done) | (go_simp; rfl)); intro Q0a hg w65 hbox hb; have Q02 := Aside0.mk (hbox); have Q16 := uS HB hg; have Q0m := uS HB hg; replace HB := uH HB hb; have Q0n := uL Q00 hg; have Q0o := uG Q00 hg; replace Q00 := uB Q00 hb; have Q0p := uL Q01 hg; have Q0q := uG Q01 hg; replace Q01 := uB Q01 hb; clear hb hbox hg) | ((with_reducible refine gate_dst (N := 7) rfl ?_); refine box_event ?hg (N := 7) ?hd (cs := #[.slice A3_0 l3_0.length c3_0, .slice A3_1 l3_1.length c3_1]) (t := 60) ?hr ?_; (case hd => rfl); (case hg => rfl); (case hr => first | (go_simp; done) | (go_simp; rfl)); intro Q0b hg w66 hbox hb; have Q03 := Aside0.mk (hbox); have Q17 := uS HB hg; have Q0r := uS HB hg; replace HB := uH HB hb; have Q0s := uL Q00 hg; have Q0t := uG Q00 hg; replace Q00 := uB Q00 hb; have Q0u := uL Q01 hg; have Q0v := uG Q01 hg; replace Q01 := uB Q01 hb; have Q0w := uL Q02 hg; have Q0x := uG Q02 hg; replace Q02 := uB Q02 hb; clear hb hbox hg) | ((with_reducible refine gate_dst (N := 8) rfl ?_); refine box_event ?hg (N := 8) ?hd (cs := #[.slice none 0 0, .slice none 0 0]) (t := 60) ?hr ?_; (case hd => rfl); (case hg => rfl); (case hr => first | (go_simp; done) | (go_simp; rfl)); intro Q05 hg w67 hbox hb; have Q04 := Aside0.mk (hbox); have Q18 := uS HB hg; have Q0y := uS HB hg; replace HB := uH HB hb; have Q0c := uL Q00 hg; have Q0d := uG Q00 hg; replace Q00 := uB Q00 hb; have Q0e := uL Q01 hg; have Q0f := uG Q01 hg; replace Q01 := uB Q01 hb; have Q08 := uL Q02 hg; have Q0g := uG Q02 hg; replace Q02 := uB Q02 hb; have Q09 := uL Q03 hg; have Q0h := uG Q03 hg; replace Q03 := uB Q03 hb; clear hb hbox hg; have Q48 := Q0k.out; have Q49 := Q0l.out; have Q4a := Q0n.out; have Q4b := Q0o.out; have Q4c := Q0s.out; have Q4d := Q0t.out; have Q4e := Q0c.out; have Q4f := Q0d.out; have Q4g : w67.cell? ⟨Q06, 0, none⟩ = some (.slice A0_0 l0_0.length c0_0) := bC Q00 0; have Q4h : w67.cell? ⟨Q06, 1, none⟩ = some (.slice A0_1 l0_1.length c0_1) := bC Q00 1; have Q4i := blk_frozen Q00.out 0; have Q4j := blk_frozen Q00.out 1; have Q4k := Q0p.out; have Q4l := Q0q.out; have Q4m := Q0u.out; have Q4n := Q0v.out; have Q4o := Q0e.out; have Q4p := Q0f.out; have Q4q : w67.cell? ⟨Q07, 0, none⟩ = some (.slice A1_0 l1_0.length c1_0) := bC Q01 0; have Q4r : w67.cell? ⟨Q07, 1, none⟩ = some (.slice A1_1 l1_1.length c1_1) := bC Q01 1; have Q4s := blk_frozen Q01.out 0; have Q4t := blk_frozen Q01.out 1; have Q4u := Q0w.out; have Q4v := Q0x.out; have Q4w := Q08.out; have Q4x := Q0g.out; have Q4y : w67.cell? ⟨Q0a, 0, none⟩ = some (.slice A2_0 l2_0.length c2_0) := bC Q02 0; have Q4z : w67.cell? ⟨Q0a, 1, none⟩ = some (.slice A2_1 l2_1.length c2_1) := bC Q02 1; have Q50 := blk_frozen Q02.out 0; have Q51 := blk_frozen Q02.out 1) | ((with_reducible refine gate_callee (f := 44) rfl ?_); refine goesL_ (some 15) rfl rfl Try.func44 (by kernel_rfl) rfl #[.agg #[.slice A0_0 l0_0.length c0_0, .slice A0_1 l0_1.length c0_1], .agg #[.slice A1_0 l1_0.length c1_0, .slice A1_1 l1_1.length c1_1], .agg #[.slice A2_0 l2_0.length c2_0, .slice A2_1 l2_1.length c2_1]] rfl aM ?_; (with_reducible refine (scarfjointref06_Valid.calls _ _ l0_0 _ _ l0_1 _ _ l1_0 _ _ l1_1 _ _ l2_0 _ _ l2_1 t106 _ ?side1 ?side2 ?side3 ?side4 ?side5 ?side6 ?side7 ?side8 ?side9 ?side10 ?side11 ?side12 A5.out).mono ?_); (case side1 => exact cX (cB HR0_0.out HB.out)); (case side2 => exact HC0_0.out); (case side3 => exact cX (cB HR0_1.out HB.out)); (case side4 => exact HC0_1.out); (case side5 => exact cX (cB HR1_0.out HB.out)); (case side6 => exact HC1_0.out); (case side7 => exact cX (cB HR1_1.out HB.out)); (case side8 => exact HC1_1.out); (case side9 => exact cX (cB HR2_0.out HB.out)); (case side10 => exact HC2_0.out); (case side11 => exact cX (cB HR2_1.out HB.out)); (case side12 => exact HC2_1.out); rintro e w80 ⟨rfl, hb⟩; refine ⟨_, rfl, ?_⟩; replace Q00 := uB Q00 hb; replace Q01 := uB Q01 hb; replace Q02 := uB Q02 hb; replace Q03 := uB Q03 hb; replace Q04 := uB Q04 hb; replace HB := uH HB hb; (try clear hb); (try clear hb2); (try clear hk); (try clear hi); have Q52 := Q0h.out; have Q53 := Q09.out; have Q54 : w80.cell? ⟨Q05, 0, none⟩ = some (.slice none 0 0) := bC Q04 0; have Q55 : w80.cell? ⟨Q05, 1, none⟩ = some (.slice none 0 0) := bC Q04 1; have Q56 := blk_frozen Q04.out 0; have Q57 := blk_frozen Q04.out 1))
  refine bodyPost_ret (results_ct rfl _ _ Q05 60 #[.slice none 0 0, .slice none 0 0] (0, 0) _ rfl (by (with_reducible repeat (first | refine bN ?_ _ | refine bD ?_ | refine bA ?_ _)); refine blk_put (cs := #[.slice none 0 0, .slice none 0 0]) ?_ 1 _ rfl; (with_reducible repeat (first | refine bN ?_ _ | refine bD ?_ | refine bA ?_ _)); refine blk_put (cs := #[.slice none 0 0, .slice none 0 0]) ?_ 0 _ rfl; (with_reducible repeat (first | refine bN ?_ _ | refine bD ?_ | refine bA ?_ _)); exact Q04.out) Try.underlying60 rfl (by kernel_rfl)) rfl ?_
  exact ⟨_, _, by first | rfl | (simp [errW_none, errW_some] <;> rfl) | (simp [*, errW_none, errW_some] <;> rfl), by first | exact Kd.R_nil _ _ _ _ _ | exact Kd.N_nil _ _ _ _ _ | exact Kd.V_nil _ _ _ _ _ | exact Kd.Q_nil _ _ _ _ _ | exact Kd.S_nil _ _ _ _ _, by first | exact Kd.R_nil _ _ _ _ _ | exact Kd.N_nil _ _ _ _ _ | exact Kd.V_nil _ _ _ _ _ | exact Kd.Q_nil _ _ _ _ _ | exact Kd.S_nil _ _ _ _ _, by repeat (first | (with_reducible first | exact HB.out | apply wA | apply wN | apply wD | refine below_set ?_ Q0i.out | refine below_set ?_ Q0j.out | refine below_set ?_ Q0m.out | refine below_set ?_ Q0r.out | refine below_set ?_ Q0y.out) | exact HB.out)⟩
end Go.Proofs.Ytillofiphkmjjaa.X

/- Plain laws: images and preimages. -/
namespace Go.Proofs.Ytillofiphkmjjaa.Pl
open Go.RowKit Go.Proofs.YtillofiphkmjjaaW.PrintWords Go.Proofs.Ytillofiphkmjjaa.X
set_option linter.unusedVariables false
theorem has_l0 (l : List Int) (a : Int) (hl : l.length ≤ 1000000) : ∀ (r pre : List Int), l = pre ++ r → Ev (fun k => scarfjointref07_has.l0 k l a (pre.length : Int)) (decide (a ∈ r)) := by
 intro r
 induction r with
 | nil =>
  rintro pre rfl
  exact Ev.step (fun k => by simp only [scarfjointref07_has.l0]; rw [if_neg (by simp)]) (by simpa using Ev.now false)
 | cons x r ih =>
  intro pre hp
  have hlt : (pre.length : Int) < (l.length : Int) := by rw [hp]; exact lt_mid pre x r
  have hrd : rd l (pre.length : Int) = x := by rw [hp]; exact rd_mid pre x r
  have e : wrap64 ((pre.length : Int) + 1) = ((pre ++ [x]).length : Int) := wrap_mid pre x r (by rw [← hp]; omega)
  by_cases hx : x = a
  ·refine Ev.step (fun k => by simp only [scarfjointref07_has.l0]; rw [if_pos hlt, if_pos (by omega), hrd, if_pos hx]) ?_
   have : decide (a ∈ x :: r) = true := by simp [hx]
   rw [this]
   exact Ev.now true
  ·refine Ev.step (fun k => by simp only [scarfjointref07_has.l0]; rw [if_pos hlt, if_pos (by omega), hrd, if_neg hx, e]) ?_
   have : decide (a ∈ x :: r) = decide (a ∈ r) := by
    have : (a ∈ x :: r) ↔ a ∈ r := by simp [show a ≠ x from fun h => hx h.symm]
    simp only [this]
   rw [this]
   exact ih (pre ++ [x]) (by rw [hp]; exact snoc_mid pre x r)
theorem has_ev (l : List Int) (a : Int) (hl : l.length ≤ 1000000) : Ev (fun k => scarfjointref07_has.f k l a) (decide (a ∈ l)) := has_l0 l a hl l [] rfl
abbrev pick (p : Int → Bool) (i n : Nat) : List Int := (iota i n).filter p
theorem pick_len (p : Int → Bool) (i n : Nat) : (pick p i n).length ≤ n := by
 have := List.length_filter_le p (iota i n)
 rw [iota_len] at this
 exact this
theorem iota_iff : ∀ (n i : Nat) (x : Int), x ∈ iota i n ↔ (i : Int) ≤ x ∧ x < ((i + n : Nat) : Int) := by
 intro n
 induction n with
 | zero => intro i x; simp [iota]
 | succ n ih =>
  intro i x
  rw [iota, List.mem_cons, ih]
  omega
theorem pick_iff (p : Int → Bool) (n : Nat) (x : Int) : x ∈ pick p 0 n ↔ (0 ≤ x ∧ x < (n : Int)) ∧ p x = true := by
 rw [List.mem_filter, iota_iff]
 simp
theorem merged_l0 (l : List Int) (hl : l.length ≤ 1000000) (n : Nat) (hn : n ≤ 1000000) : ∀ (d i : Nat) (acc : List Int), i + d = n → acc.length ≤ i →
  Ev (fun k => scarfjointref07_merged.l0 k (n : Int) l l false acc (i : Int)) (acc ++ pick (fun x => decide (x ∈ l)) i d) := by
 intro d
 induction d with
 | zero =>
  intro i acc h ha
  exact Ev.step (fun k => by simp only [scarfjointref07_merged.l0]; rw [if_neg (by omega)]) (by simpa [pick, iota] using Ev.now acc)
 | succ d ih =>
  intro i acc h ha
  have hlt : (i : Int) < (n : Int) := by omega
  have e : wrap64 ((i : Int) + 1) = ((i + 1 : Nat) : Int) := by unfold wrap64; omega
  refine Ev.step (fun k => by simp only [scarfjointref07_merged.l0]; rw [if_pos hlt]) ?_
  refine Ev.bind (has_ev l i hl) (Ev.bind (has_ev l i hl) ?_)
  by_cases hx : (i : Int) ∈ l
  ·simp only [hx, decide_true, if_true]
   refine Ev.step (fun k => by simp only [scarfjointref07_merged.j1, if_true]; rw [if_pos (by omega), e]) ?_
   have ih' := ih (i + 1) (acc ++ [(i : Int)]) (by omega) (by simp; omega)
   have ee : acc ++ pick (fun x => decide (x ∈ l)) i (d + 1) = acc ++ [(i : Int)] ++ pick (fun x => decide (x ∈ l)) (i + 1) d := by
    simp [pick, iota, hx]
   rw [ee]
   exact ih'
  ·simp only [hx, decide_false, Bool.false_eq_true, if_false]
   refine Ev.step (fun k => by simp only [scarfjointref07_merged.j1]; rw [if_neg (by decide), e]) ?_
   have ih' := ih (i + 1) acc (by omega) (by omega)
   have ee : acc ++ pick (fun x => decide (x ∈ l)) i (d + 1) = acc ++ pick (fun x => decide (x ∈ l)) (i + 1) d := by
    simp [pick, iota, hx]
   rw [ee]
   exact ih'
theorem merged_ev (l : List Int) (hl : l.length ≤ 1000000) (n : Nat) (hn : n ≤ 1000000) : Ev (fun k => scarfjointref07_merged.f k (n : Int) l l false) (pick (fun x => decide (x ∈ l)) 0 n) := by
 have := merged_l0 l hl n hn n 0 [] (by omega) (by simp)
 unfold scarfjointref07_merged.f
 simpa using this
theorem into_l0 (g l : List Int) (hl : l.length ≤ 1000000) (hg : g.length ≤ 1000000) : ∀ (d i : Nat) (acc : List Int), i + d = g.length → acc.length ≤ i →
  Ev (fun k => scarfjointref07_into.l0 k g l acc (i : Int)) (acc ++ pick (fun x => decide (rd g x ∈ l)) i d) := by
 intro d
 induction d with
 | zero =>
  intro i acc h ha
  exact Ev.step (fun k => by simp only [scarfjointref07_into.l0]; rw [if_neg (by omega)]) (by simpa [pick, iota] using Ev.now acc)
 | succ d ih =>
  intro i acc h ha
  have hlt : (i : Int) < (g.length : Int) := by omega
  have e : wrap64 ((i : Int) + 1) = ((i + 1 : Nat) : Int) := by unfold wrap64; omega
  refine Ev.step (fun k => by simp only [scarfjointref07_into.l0]; rw [if_pos hlt, if_pos (by omega)]) ?_
  refine Ev.bind (has_ev l (rd g i) hl) ?_
  by_cases hx : rd g (i : Int) ∈ l
  ·simp only [hx, decide_true, if_true]
   rw [show (fun k => if acc.length < 17592186044416 then scarfjointref07_into.l0 k g l (acc ++ [(i : Int)]) (wrap64 ((i : Int) + 1)) else none) = fun k => scarfjointref07_into.l0 k g l (acc ++ [(i : Int)]) ((i + 1 : Nat) : Int) from by funext k; rw [if_pos (by omega), e]]
   have ih' := ih (i + 1) (acc ++ [(i : Int)]) (by omega) (by simp; omega)
   have ee : acc ++ pick (fun x => decide (rd g x ∈ l)) i (d + 1) = acc ++ [(i : Int)] ++ pick (fun x => decide (rd g x ∈ l)) (i + 1) d := by
    simp [pick, iota, hx]
   rw [ee]
   exact ih'
  ·simp only [hx, decide_false, Bool.false_eq_true, if_false]
   rw [e]
   have ih' := ih (i + 1) acc (by omega) (by omega)
   have ee : acc ++ pick (fun x => decide (rd g x ∈ l)) i (d + 1) = acc ++ pick (fun x => decide (rd g x ∈ l)) (i + 1) d := by
    simp [pick, iota, hx]
   rw [ee]
   exact ih'
theorem into_ev (g l : List Int) (hl : l.length ≤ 1000000) (hg : g.length ≤ 1000000) : Ev (fun k => scarfjointref07_into.f k g l) (pick (fun x => decide (rd g x ∈ l)) 0 g.length) := by
 have := into_l0 g l hl hg g.length 0 [] (by omega) (by simp)
 unfold scarfjointref07_into.f
 simpa using this
theorem iota_lt : ∀ (n i : Nat), List.Pairwise (fun a b : Int => a < b) (iota i n) := by
 intro n
 induction n with
 | zero => intro i; exact List.Pairwise.nil
 | succ n ih =>
  intro i
  refine List.Pairwise.cons (fun x hx => ?_) (ih (i + 1))
  have := iota_mem n (i + 1) x hx
  omega
theorem asc_l0 (l : List Int) (n : Int) (hl : l.length ≤ 1000000) (hr : ∀ x ∈ l, 0 ≤ x ∧ x < n) (hp : List.Pairwise (fun a b : Int => a < b) l) : ∀ (d i : Nat), i + d = l.length →
  Ev (fun k => scarfjointref07_ascending.l0 k l n (i : Int)) 0 := by
 intro d
 induction d with
 | zero =>
  intro i h
  exact Ev.step (fun k => by simp only [scarfjointref07_ascending.l0]; rw [if_neg (by omega)]) (Ev.now _)
 | succ d ih =>
  intro i h
  have hi : i < l.length := by omega
  have e : wrap64 ((i : Int) + 1) = ((i + 1 : Nat) : Int) := by unfold wrap64; omega
  obtain ⟨g0, g1⟩ := hr _ (rd_mem l i (by omega) (by omega))
  refine Ev.step (fun k => by simp only [scarfjointref07_ascending.l0]; rw [if_pos (by omega), if_pos (by omega), if_neg (by omega), decide_eq_false (by omega)]) ?_
  have ih' := ih (i + 1) (by omega)
  cases i with
  | zero =>
   refine Ev.step (fun k => by simp only [scarfjointref07_ascending.j1]; rw [if_neg (by decide), if_neg (by decide)]) ?_
   refine Ev.step (fun k => by simp only [scarfjointref07_ascending.j2]; rw [if_neg (by decide), e]) ?_
   exact ih'
  | succ i =>
   have e1 : wrap64 (((i + 1 : Nat) : Int) - 1) = ((i : Nat) : Int) := by unfold wrap64; omega
   have hlt : rd l (i : Int) < rd l ((i + 1 : Nat) : Int) := by
    rw [rd_get l i (by omega), rd_get l (i + 1) hi]
    exact List.pairwise_iff_getElem.mp hp i (i + 1) (by omega) hi (by omega)
   refine Ev.step (fun k => by simp only [scarfjointref07_ascending.j1]; rw [e1, if_neg (by decide), if_pos (by omega), if_pos (by omega), if_pos (by omega), if_pos (by omega), if_pos (by omega), decide_eq_false (by omega)]) ?_
   refine Ev.step (fun k => by simp only [scarfjointref07_ascending.j2]; rw [if_neg (by decide), e]) ?_
   exact ih'
theorem asc_ev (l : List Int) (n : Int) (hl : l.length ≤ 1000000) (hr : ∀ x ∈ l, 0 ≤ x ∧ x < n) (hp : List.Pairwise (fun a b : Int => a < b) l) : Ev (fun k => scarfjointref07_ascending.f k l n) 0 := by
 have := asc_l0 l n hl hr hp l.length 0 (by omega)
 unfold scarfjointref07_ascending.f
 simpa using this
theorem right_l0 (x0 : List Int) (x1 : List S94) (n m : List Int) (hn : n.length ≤ 1000000) (hm : m.length ≤ 1000000) (hr : ∀ x ∈ m, 0 ≤ x ∧ x < (x1.length : Int))
  (hd : ∀ x ∈ m, (rd_T94 x1 x).f1 ∈ n ∧ (rd_T94 x1 x).f2 ∈ n) : ∀ (d i : Nat), i + d = m.length → Ev (fun k => scarfjointref07_Right.l0 k (i : Int) x0 x1 n m) 0 := by
 intro d
 induction d with
 | zero =>
  intro i h
  exact Ev.step (fun k => by simp only [scarfjointref07_Right.l0]; rw [if_neg (by omega)]) (Ev.now _)
 | succ d ih =>
  intro i h
  have e : wrap64 ((i : Int) + 1) = ((i + 1 : Nat) : Int) := by unfold wrap64; omega
  have hx := rd_mem m i (by omega) (by omega)
  obtain ⟨g0, g1⟩ := hr _ hx
  obtain ⟨d1, d2⟩ := hd _ hx
  refine Ev.step (fun k => by simp only [scarfjointref07_Right.l0]; rw [if_pos (by omega), if_pos (by omega), if_pos g0, if_pos g1]) ?_
  refine Ev.bind (has_ev n _ hn) ?_
  simp only [d1, decide_true, if_true]
  refine Ev.bind (has_ev n _ hn) ?_
  simp only [d2, decide_true, Bool.not_true]
  refine Ev.step (fun k => by simp only [scarfjointref07_Right.j1]; rw [if_neg (by decide), e]) ?_
  exact ih (i + 1) (by omega)
theorem right_ev (x0 : List Int) (x1 : List S94) (n m : List Int) (hn : n.length ≤ 1000000) (hm : m.length ≤ 1000000) (hr0 : ∀ x ∈ n, 0 ≤ x ∧ x < (x0.length : Int)) (hp0 : List.Pairwise (fun a b : Int => a < b) n)
  (hr : ∀ x ∈ m, 0 ≤ x ∧ x < (x1.length : Int)) (hp : List.Pairwise (fun a b : Int => a < b) m) (hd : ∀ x ∈ m, (rd_T94 x1 x).f1 ∈ n ∧ (rd_T94 x1 x).f2 ∈ n) :
  Ev (fun k => scarfjointref07_Right.f k x0 x1 n m) 0 := by
 unfold scarfjointref07_Right.f
 refine Ev.bind (asc_ev n _ hn hr0 hp0) ?_
 simp only [if_true]
 refine Ev.bind (asc_ev m _ hm hr hp) ?_
 simp only [if_true]
 have := right_l0 x0 x1 n m hn hm hr hd m.length 0 (by omega)
 simpa using this
section
variable {x0 : List Int} {x1 : List S94} {x2 : List Int} {x3 : List S94} {n m : List Int}
abbrev img (l : List Int) (n : Nat) : List Int := pick (fun x => decide (x ∈ l)) 0 n
abbrev pre (g l : List Int) : List Int := pick (fun x => decide (rd g x ∈ l)) 0 g.length
theorem image_ev (h : mvalid x0 x1 x2 x3 n m = 0) : Ev (fun k => scarfjointref07_Image.f k x0 x1 x2 x3 n m) (img n x2.length, img m x3.length, 0) := by
 unfold scarfjointref07_Image.f scarfjointref06_Valid.f
 simp only [Option.bind_some, if_pos h]
 obtain ⟨-, hv, -, -, h1, h2⟩ := mvalid_len h
 obtain ⟨g1, g2, -⟩ := okE_of hv
 exact Ev.bind (merged_ev n (by omega) x2.length (by omega)) (Ev.bind (merged_ev m (by omega) x3.length (by omega)) (Ev.now _))
theorem image_right (h : mvalid x0 x1 x2 x3 n m = 0) : Ev (fun k => scarfjointref07_Right.f k x2 x3 (img n x2.length) (img m x3.length)) 0 := by
 obtain ⟨v1, hv, l1, l2, o1, o2⟩ := mvalid_iff.mp h
 obtain ⟨g1, g2, -⟩ := okE_of hv
 have q1 : (img n x2.length).length ≤ x2.length := pick_len _ _ _
 have q2 : (img m x3.length).length ≤ x3.length := pick_len _ _ _
 refine right_ev _ _ _ _ (by omega) (by omega) (fun x hx => ((pick_iff _ _ _).mp hx).1) ((iota_lt _ _).filter _) (fun x hx => ((pick_iff _ _ _).mp hx).1) ((iota_lt _ _).filter _) (fun x hx => ?_)
 obtain ⟨hx1, hx2⟩ := (pick_iff _ _ _).mp hx
 have hx2 := of_decide_eq_true hx2
 obtain ⟨j, hj, rfl⟩ := List.mem_iff_getElem.mp hx2
 have hh := o2 j hj
 rw [rd_get m j hj] at hh
 obtain ⟨-, -, -, e1, e2⟩ := hh
 obtain ⟨-, a1, a2, a3, a4⟩ := edge_facts v1 (j : Int) (by omega) (by omega)
 obtain ⟨-, b1, b2, b3, b4⟩ := edge_facts hv m[j] hx1.1 hx1.2
 rw [← e1, ← e2]
 have c1 := rd_mem n _ a1 (by omega)
 have c2 := rd_mem n _ a3 (by omega)
 obtain ⟨f1, f2, -⟩ := okN_int o1 _ a1 (by omega)
 obtain ⟨f3, f4, -⟩ := okN_int o1 _ a3 (by omega)
 exact ⟨(pick_iff _ _ _).mpr ⟨⟨f1, f2⟩, decide_eq_true c1⟩, (pick_iff _ _ _).mpr ⟨⟨f3, f4⟩, decide_eq_true c2⟩⟩
theorem preimage_ev {n' m' : List Int} (h : mvalid x0 x1 x2 x3 n m = 0) (hr : Ev (fun k => scarfjointref07_Right.f k x2 x3 n' m') 0) (l1 : n'.length ≤ 1000000) (l2 : m'.length ≤ 1000000) :
  Ev (fun k => scarfjointref07_Preimage.f k x0 x1 x2 x3 n m n' m') (pre n n', pre m m', 0) := by
 unfold scarfjointref07_Preimage.f scarfjointref06_Valid.f
 simp only [Option.bind_some, if_pos h]
 obtain ⟨-, hv, -, -, h1, h2⟩ := mvalid_len h
 refine Ev.bind hr ?_
 simp only [if_true]
 exact Ev.bind (into_ev n n' l1 (by omega)) (Ev.bind (into_ev m m' l2 (by omega)) (Ev.now _))
end
theorem rd_inj {l : List Int} (h : l.Nodup) {i j : Int} (i0 : 0 ≤ i) (i1 : i < (l.length : Int)) (j0 : 0 ≤ j) (j1 : j < (l.length : Int)) (e : rd l i = rd l j) : i = j := by
 obtain ⟨a, rfl⟩ : ∃ a : Nat, i = (a : Int) := ⟨i.toNat, by omega⟩
 obtain ⟨b, rfl⟩ : ∃ b : Nat, j = (b : Int) := ⟨j.toNat, by omega⟩
 rw [rd_get l a (by omega), rd_get l b (by omega)] at e
 rcases Nat.lt_trichotomy a b with g | g | g
 ·exact absurd e (List.pairwise_iff_getElem.mp h a b (by omega) (by omega) g)
 ·omega
 ·exact absurd e.symm (List.pairwise_iff_getElem.mp h b a (by omega) (by omega) g)
theorem left_nodup {g f : List Int} (h : g.Nodup) : ((rows g 0 f).map S79.f0).Nodup := by
 rw [List.nodup_iff_pairwise_ne, List.pairwise_map]
 refine (List.nodup_iff_pairwise_ne.mp (rows_nodup g f 0)).imp_of_mem (fun {a b} ha hb hab e => hab ?_)
 obtain ⟨a0, a1, a2, a3, a4⟩ := rows_mem.mp ha
 obtain ⟨b0, b1, b2, b3, b4⟩ := rows_mem.mp hb
 have := rd_inj h a2 a3 b2 b3 (by rw [← a4, ← b4, e])
 obtain ⟨x, y⟩ := a
 obtain ⟨x', y'⟩ := b
 simp only [S79.mk.injEq]
 exact ⟨e, this⟩
theorem mine_back {g f : List Int} {n : Nat} (hg : ∀ j : Nat, j < g.length → 0 ≤ rd g j ∧ rd g j < (n : Int)) : img ((rows g 0 f).map S79.f0) f.length = pre f (img g n) := by
 unfold img pre pick
 refine List.filter_congr (fun i hi => ?_)
 have hi := (iota_iff _ _ _).mp hi
 rw [decide_eq_decide]
 have hp : rd f i ∈ img g n ↔ rd f i ∈ g := by
  rw [pick_iff]
  constructor
  ·exact fun h => of_decide_eq_true h.2
  ·intro h
   obtain ⟨j, hj, e⟩ := List.mem_iff_getElem.mp h
   have := hg j hj
   rw [rd_get g j hj, e] at this
   exact ⟨this, decide_eq_true h⟩
 rw [show (List.filter (fun x => decide (x ∈ g)) (iota 0 n)) = img g n from rfl, hp, List.mem_map]
 constructor
 ·rintro ⟨p, hm, rfl⟩
  obtain ⟨-, -, h1, h2, h3⟩ := rows_mem.mp hm
  rw [h3]
  exact rd_mem g _ h1 h2
 ·intro h
  obtain ⟨j, hj, e⟩ := List.mem_iff_getElem.mp h
  refine ⟨⟨i, (j : Int)⟩, rows_mem.mpr ⟨show 0 ≤ i by omega, show i < (f.length : Int) by omega, show 0 ≤ (j : Int) by omega, show (j : Int) < (g.length : Int) by omega, ?_⟩, rfl⟩
  show rd f i = rd g (j : Int)
  rw [rd_get g j hj]
  exact e.symm
section
variable {x0 : List Int} {x1 : List S94} {x2 : List Int} {x3 : List S94} {x4 : List Int} {x5 : List S94} {x6 x7 x8 x9 : List Int}
/-- The pullback of an injective morphism: what the law's calls answer. -/
theorem injs (m1 : mvalid x0 x1 x4 x5 x6 x7 = 0) (m2 : mvalid x2 x3 x4 x5 x8 x9 = 0) (l0 : x0.length ≤ 4) (l1 : x1.length ≤ 4) (l2 : x2.length ≤ 4) (l3 : x3.length ≤ 4) :
  ∃ (k : Nat) (r1 : List Int) (r2 : List S94) (r3 r4 r5 r6 : List Int) (b : Bool), pullback_Of.f k x0 x1 x2 x3 x4 x5 x6 x7 x8 x9 = some (r1, r2, r3, r4, r5, r6, 0) ∧ scarfjointref06_Injective.f k x2 x3 x4 x5 x8 x9 = some b ∧
   (b = true → ∃ i0 i1 j0 j1 : List Int, scarfjointref07_Image.f k x2 x3 x4 x5 x8 x9 = some (i0, i1, 0) ∧ scarfjointref07_Preimage.f k x0 x1 x4 x5 x6 x7 i0 i1 = some (j0, j1, 0) ∧
    scarfjointref07_Image.f k r1 r2 x0 x1 r3 r4 = some (j0, j1, 0) ∧ scarfjointref06_Injective.f k r1 r2 x0 x1 r3 r4 = some true ∧ scarfjointref07_Same.f k j0 j1 j0 j1 = some true) := by
 obtain ⟨v1, v4, a1, a2, a3, a4⟩ := mvalid_iff.mp m1
 obtain ⟨v2, -, b1, b2, b3, b4⟩ := mvalid_iff.mp m2
 obtain ⟨w1, w2, -⟩ := okE_of v4
 have hP : (rows x8 0 x6).length ≤ 40 := Nat.le_trans (rows_len x8 x6 0) (Nat.le_trans (Nat.mul_le_mul (show x6.length ≤ 4 by omega) (show x8.length ≤ 4 by omega)) (by decide))
 have hQ : (rows x9 0 x7).length ≤ 80 := Nat.le_trans (rows_len x9 x7 0) (Nat.le_trans (Nat.mul_le_mul (show x7.length ≤ 4 by omega) (show x9.length ≤ 4 by omega)) (by decide))
 have g1 : giv x0 x1 x2 x3 x4 x5 x6 x7 x8 x9 = 0 := by unfold giv; rw [if_pos m1]; exact m2
 have e1 : ofR x0 x1 x2 x3 x4 x5 x6 x7 x8 x9 = (rows x8 0 x6, rows x9 0 x7, (rows x8 0 x6).map (fun p => rd x0 p.f0), (rows x9 0 x7).map (edg x1 x3 (rows x8 0 x6)), 0) := by unfold ofR; rw [if_pos g1, if_neg (by omega)]
 have e3 : OfR x0 x1 x2 x3 x4 x5 x6 x7 x8 x9 = ((rows x8 0 x6).map (fun p => rd x0 p.f0), (rows x9 0 x7).map (edg x1 x3 (rows x8 0 x6)), (rows x8 0 x6).map S79.f0, (rows x9 0 x7).map S79.f0, (rows x8 0 x6).map S79.f1, (rows x9 0 x7).map S79.f1, 0) := by
  unfold OfR
  rw [e1]
  rfl
 have hL := pb_left m1 m2 hP hQ
 obtain ⟨K0, hO⟩ := gOf_ev x0 x1 x2 x3 x4 x5 x6 x7 x8 x9
 obtain ⟨K1, hI⟩ := inj_ev m2
 cases hb : (decide x8.Nodup && decide x9.Nodup) with
 | false => exact ⟨K0 + K1, _, _, _, _, _, _, _, (hO _ (by omega)).trans (congrArg some e3), hI _ (by omega), fun h => by rw [hb] at h; exact absurd h (by decide)⟩
 | true =>
  rw [Bool.and_eq_true] at hb
  have n8 := of_decide_eq_true hb.1
  have n9 := of_decide_eq_true hb.2
  have q1 : (img x8 x4.length).length ≤ x4.length := pick_len _ _ _
  have q2 : (img x9 x5.length).length ≤ x5.length := pick_len _ _ _
  have p1 : (pre x6 (img x8 x4.length)).length ≤ x6.length := pick_len _ _ _
  have p2 : (pre x7 (img x9 x5.length)).length ≤ x7.length := pick_len _ _ _
  obtain ⟨K2, hJ⟩ := image_ev m2
  obtain ⟨K3, hB⟩ := preimage_ev m1 (image_right m2) (by omega) (by omega)
  obtain ⟨K4, hM⟩ := image_ev hL
  obtain ⟨K5, hN⟩ := inj_ev hL
  obtain ⟨K6, hS⟩ := same07_self (pre x6 (img x8 x4.length)) (pre x7 (img x9 x5.length)) (by omega) (by omega)
  have f1 := mine_back (f := x6) (n := x4.length) (fun j hj => by obtain ⟨h, h', -⟩ := b3 j hj; exact ⟨h, h'⟩)
  have f2 := mine_back (f := x7) (n := x5.length) (fun j hj => by obtain ⟨h, h', -⟩ := b4 j hj; exact ⟨h, h'⟩)
  rw [a1] at f1
  rw [a2] at f2
  rw [f1, f2] at hM
  rw [left_nodup n8 |> fun h => decide_eq_true h, left_nodup n9 |> fun h => decide_eq_true h] at hN
  exact ⟨K0 + K1 + K2 + K3 + K4 + K5 + K6, _, _, _, _, _, _, _, (hO _ (by omega)).trans (congrArg some e3), hI _ (by omega), fun _ => ⟨_, _, _, _, hJ _ (by omega), hB _ (by omega), hM _ (by omega), hN _ (by omega), hS _ (by omega)⟩⟩
end
end Go.Proofs.Ytillofiphkmjjaa.Pl

/- The law PullbackInjective, walked by hand, and its plain law: it answers true. -/
namespace Go.Proofs.Ytillofiphkmjjaa.X
open Go.RowKit Go.Proofs.YtillofiphkmjjaaW.PrintWords Go.Proofs.YtillofiphkmjjaaW.PrintLast Go.Proofs.YtillofiphkmjjaaW.PrintMore Go.Proofs.Ytillofiphkmjjaa.Pl
set_option linter.unusedVariables false
set_option linter.unusedSimpArgs false
set_option maxHeartbeats 4000000 in
set_option maxRecDepth 100000 in
theorem law6 (A0 : Option Addr) (c0 : Nat) (xn0 : List Int) (A1 : Option Addr) (c1 : Nat) (xe0 : List S95) (A2 : Option Addr) (c2 : Nat) (xn1 : List Int) (A3 : Option Addr) (c3 : Nat) (xe1 : List S95) (A4 : Option Addr) (c4 : Nat) (xn2 : List Int) (A5 : Option Addr) (c5 : Nat) (xe2 : List S95) (w : World)
  (R0 : Row (Kd.int .u8) w A0 c0 xn0) (R1 : Row k95 w A1 c1 xe0) (R2 : Row (Kd.int .u8) w A2 c2 xn1) (R3 : Row k95 w A3 c3 xe1) (R4 : Row (Kd.int .u8) w A4 c4 xn2) (R5 : Row k95 w A5 c5 xe2)
  (h0 : ∀ x ∈ xn0, okB x) (h1 : ∀ x ∈ xe0, okB3 x) (h2 : ∀ x ∈ xn1, okB x) (h3 : ∀ x ∈ xe1, okB3 x) (h4 : ∀ x ∈ xn2, okB x) (h5 : ∀ x ∈ xe2, okB3 x) :
  Calls Try.prog 6 #[.agg #[.slice A0 xn0.length c0, .slice A1 xe0.length c1, .slice A2 xn1.length c2, .slice A3 xe1.length c3, .slice A4 xn2.length c4, .slice A5 xe2.length c5]] w fun e w' => e = .returned (.bool true) ∧ Below w.heap.size w w' := by
 have H0 := Aside0.mk (And.intro h0 (And.intro h1 (And.intro h2 (And.intro h3 (And.intro h4 h5)))))
 clear h0 h1 h2 h3 h4 h5
 have hu25 := Try.underlying25
 have hu27 := Try.underlying27
 have hu29 := Try.underlying29
 have hu43 := Try.underlying43
 have hu44 := Try.underlying44
 have hu46 := Try.underlying46
 have hu60 := Try.underlying60
 have hu61 := Try.underlying61
 have SB := Since.refl w
 have RS := cR R0 (cR R1 (cR R2 (cR R3 (cR R4 (cR R5 (cE SB))))))
 clear SB R0 R1 R2 R3 R4 R5
 go_enter Try.func6, Try.ntmps6
 go_upto_region 1 with fail
 obtain ⟨v0, hv, BD, hb⟩ := nw1 w 46 #[.slice A0 xn0.length c0, .slice A1 xe0.length c1, .slice A2 xn1.length c2, .slice A3 xe1.length c3, .slice A4 xn2.length c4, .slice A5 xe2.length c5]
 rw [← hv]
 clear hv
 replace RS := mo hb RS
 clear hb
 replace RS := cK BD (RS)
 clear BD
 rcases (id RS) with ⟨⟨BD⟩, -⟩
 obtain ⟨_, _, _, _, _, _⟩ := BD.q6
 go_wp2_with fail
 refine (awake_calls _).mono ?_
 rintro e v1 ⟨rfl, hb⟩
 replace hb := bS (w := v0) hb
 replace RS := mo hb RS
 clear hb
 rcases (id RS) with ⟨⟨BD⟩, -⟩
 obtain ⟨_, _, _, _, _, _⟩ := BD.q6
 go_wp2_with fail
 rcases (id RS) with ⟨-, ⟨⟨R0⟩, ⟨⟨R1⟩, ⟨⟨R2⟩, ⟨⟨R3⟩, ⟨⟨R4⟩, ⟨⟨R5⟩, -⟩⟩⟩⟩⟩⟩⟩
 refine (few_calls _ _ xn0 _ _ xe0 _ _ xn1 _ _ xe1 _ _ xn2 _ _ xe2 _ R0 R1 R2 R3 R4 R5).mono ?_
 rintro e v2 ⟨b, rfl, hb_, hb⟩
 clear R0 R1 R2 R3 R4 R5
 replace hb := bS (w := v1) hb
 replace RS := mo hb RS
 clear hb
 rcases (id RS) with ⟨⟨BD⟩, -⟩
 obtain ⟨_, _, _, _, _, _⟩ := BD.q6
 cases b with
 | false =>
  go_wp2_with fail
  refine (awake_calls _).mono ?_
  rintro e v3 ⟨rfl, hb⟩
  replace hb := bS (w := v2) hb
  replace RS := mo hb RS
  clear hb
  rcases (id RS) with ⟨-, ⟨-, ⟨-, ⟨-, ⟨-, ⟨-, ⟨-, ⟨SB⟩⟩⟩⟩⟩⟩⟩⟩
  go_wp2_with fail
  try go_wp2_with fail
  go_ret
  exact ⟨rfl, SB.get⟩
 | true =>
 replace hb_ := Aside0.mk (hb_ rfl)
 go_wp2_with fail
 rcases (id RS) with ⟨-, ⟨⟨R0⟩, ⟨⟨R1⟩, ⟨⟨R2⟩, ⟨⟨R3⟩, ⟨⟨R4⟩, ⟨⟨R5⟩, -⟩⟩⟩⟩⟩⟩⟩
 refine (Made_calls _ _ xn0 _ _ xe0 _ _ xn1 _ _ xe1 _ _ xn2 _ _ xe2 _ R0 R1 R2 R3 R4 R5 H0.out.1 (by have := hb_.out; omega) H0.out.2.1 (by have := hb_.out; omega) H0.out.2.2.1 (by have := hb_.out; omega) H0.out.2.2.2.1 (by have := hb_.out; omega) H0.out.2.2.2.2.1 (by have := hb_.out; omega) H0.out.2.2.2.2.2 (by have := hb_.out; omega)).mono ?_
 rintro e v4 ⟨s0, s1, s2, s3, s4, s5, s6, s7, s8, s9, y0, y1, y2, y3, y4, y5, y6, y7, y8, y9, rfl, q0, q1, q2, q3, q4, q5, q6, q7, q8, q9, hb, mv1, mv2, n0, n1, n2, n3⟩
 clear R0 R1 R2 R3 R4 R5
 replace hb := bS (w := v2) hb
 replace RS := mo hb RS
 clear hb
 have hf4 := hb_.out
 have m0 : s0.length ≤ 4 := by omega
 have m1 : s1.length ≤ 4 := by omega
 have m2 : s2.length ≤ 4 := by omega
 have m3 : s3.length ≤ 4 := by omega
 clear n0 n1 n2 n3 hf4
 have MV := Aside0.mk (And.intro mv1 (And.intro mv2 (And.intro m0 (And.intro m1 (And.intro m2 m3)))))
 clear mv1 mv2 m0 m1 m2 m3
 obtain ⟨G0, g0, rfl, S0⟩ := q0.get
 obtain ⟨G1, g1, rfl, S1⟩ := q1.get
 obtain ⟨G2, g2, rfl, S2⟩ := q2.get
 obtain ⟨G3, g3, rfl, S3⟩ := q3.get
 obtain ⟨G4, g4, rfl, S4⟩ := q4.get
 obtain ⟨G5, g5, rfl, S5⟩ := q5.get
 obtain ⟨G6, g6, rfl, S6⟩ := q6.get
 obtain ⟨G7, g7, rfl, S7⟩ := q7.get
 obtain ⟨G8, g8, rfl, S8⟩ := q8.get
 obtain ⟨G9, g9, rfl, S9⟩ := q9.get
 replace RS := cR S0 (cR S1 (cR S2 (cR S3 (cR S4 (cR S5 (cR S6 (cR S7 (cR S8 (cR S9 (RS))))))))))
 clear S0 S1 S2 S3 S4 S5 S6 S7 S8 S9
 go_upto_region 4 with fail
 obtain ⟨v5, hv, BS, hb⟩ := nw1 v4 29 #[.slice G0 s0.length g0, .slice G1 s1.length g1, .slice G2 s2.length g2, .slice G3 s3.length g3, .slice G4 s4.length g4, .slice G5 s5.length g5, .slice G6 s6.length g6, .slice G7 s7.length g7, .slice G8 s8.length g8, .slice G9 s9.length g9]
 rw [← hv]
 clear hv
 replace RS := mo hb RS
 clear hb
 replace RS := cK BS (RS)
 clear BS
 rcases (id RS) with ⟨⟨BS⟩, ⟨-, ⟨-, ⟨-, ⟨-, ⟨-, ⟨-, ⟨-, ⟨-, ⟨-, ⟨-, ⟨⟨BD⟩, -⟩⟩⟩⟩⟩⟩⟩⟩⟩⟩⟩⟩
 obtain ⟨_, _, _, _, _, _, _, _, _, _⟩ := BS.q10
 obtain ⟨_, _, _, _, _, _⟩ := BD.q6
 obtain ⟨k, r1, r2, r3, r4, r5, r6, b, hO, hI, hL⟩ := injs MV.out.1 MV.out.2.1 MV.out.2.2.1 MV.out.2.2.2.1 MV.out.2.2.2.2.1 MV.out.2.2.2.2.2
 have hO_ := Aside0.mk hO
 have hI_ := Aside0.mk hI
 have hL_ := Aside0.mk hL
 clear hO hI hL
 go_wp2_with fail
 rcases (id RS) with ⟨-, ⟨⟨S0⟩, ⟨⟨S1⟩, ⟨⟨S2⟩, ⟨⟨S3⟩, ⟨⟨S4⟩, ⟨⟨S5⟩, ⟨⟨S6⟩, ⟨⟨S7⟩, ⟨⟨S8⟩, ⟨⟨S9⟩, -⟩⟩⟩⟩⟩⟩⟩⟩⟩⟩⟩
 refine (Of_calls k _ _ s0 _ _ s1 _ _ s2 _ _ s3 _ _ s4 _ _ s5 _ _ s6 _ _ s7 _ _ s8 _ _ s9 _ S0 S1 S2 S3 S4 S5 S6 S7 S8 S9 r1 r2 r3 r4 r5 r6 0 hO_.out).mono ?_
 rintro e v6 ⟨y0, y1, y2, y3, y4, y5, rfl, q0, q1, q2, q3, q4, q5, hb⟩
 clear S0 S1 S2 S3 S4 S5 S6 S7 S8 S9
 replace hb := bS (w := v5) hb
 replace RS := mo hb RS
 clear hb
 obtain ⟨P0, p0, rfl, Q0⟩ := q0.get
 obtain ⟨P1, p1, rfl, Q1⟩ := q1.get
 obtain ⟨P2, p2, rfl, Q2⟩ := q2.get
 obtain ⟨P3, p3, rfl, Q3⟩ := q3.get
 obtain ⟨P4, p4, rfl, Q4⟩ := q4.get
 obtain ⟨P5, p5, rfl, Q5⟩ := q5.get
 replace RS := cR Q0 (cR Q1 (cR Q2 (cR Q3 (cR Q4 (cR Q5 (RS))))))
 clear Q0 Q1 Q2 Q3 Q4 Q5
 go_upto_region 5 with fail
 obtain ⟨v7, hv, BA, BP, BQ, hb⟩ := nw3 v6 25 #[.slice P0 r1.length p0, .slice P1 r2.length p1] 27 #[.slice P2 r3.length p2, .slice P3 r4.length p3] 27 #[.slice P4 r5.length p4, .slice P5 r6.length p5]
 rw [← hv]
 clear hv
 replace RS := mo hb RS
 clear hb
 replace RS := cK BA (cK BP (cK BQ (RS)))
 clear BA BP BQ
 rcases (id RS) with ⟨⟨BA⟩, ⟨⟨BP⟩, ⟨⟨BQ⟩, ⟨-, ⟨-, ⟨-, ⟨-, ⟨-, ⟨-, ⟨⟨BS⟩, ⟨-, ⟨-, ⟨-, ⟨-, ⟨-, ⟨-, ⟨-, ⟨-, ⟨-, ⟨-, ⟨⟨BD⟩, -⟩⟩⟩⟩⟩⟩⟩⟩⟩⟩⟩⟩⟩⟩⟩⟩⟩⟩⟩⟩⟩
 obtain ⟨_, _⟩ := BA.q2
 obtain ⟨_, _⟩ := BP.q2
 obtain ⟨_, _⟩ := BQ.q2
 obtain ⟨_, _, _, _, _, _, _, _, _, _⟩ := BS.q10
 obtain ⟨_, _, _, _, _, _⟩ := BD.q6
 go_wp2_with fail
 rcases (id RS) with ⟨-, ⟨-, ⟨-, ⟨-, ⟨-, ⟨-, ⟨-, ⟨-, ⟨-, ⟨-, ⟨-, ⟨-, ⟨⟨S2⟩, ⟨⟨S3⟩, ⟨⟨S4⟩, ⟨⟨S5⟩, ⟨-, ⟨-, ⟨⟨S8⟩, ⟨⟨S9⟩, -⟩⟩⟩⟩⟩⟩⟩⟩⟩⟩⟩⟩⟩⟩⟩⟩⟩⟩⟩⟩
 refine (scarfjointref06_Injective.calls k _ _ s2 _ _ s3 _ _ s4 _ _ s5 _ _ s8 _ _ s9 b _ S2.at_ S2.cap S3.at_ S3.cap S4.at_ S4.cap S5.at_ S5.cap S8.at_ S8.cap S9.at_ S9.cap hI_.out).mono ?_
 rintro e v8 ⟨rfl, hb⟩
 clear S2 S3 S4 S5 S8 S9
 replace hb := bS (w := v7) hb
 replace RS := mo hb RS
 clear hb
 cases b with
 | false =>
  rcases (id RS) with ⟨⟨BA⟩, ⟨⟨BP⟩, ⟨⟨BQ⟩, ⟨-, ⟨-, ⟨-, ⟨-, ⟨-, ⟨-, ⟨⟨BS⟩, ⟨-, ⟨-, ⟨-, ⟨-, ⟨-, ⟨-, ⟨-, ⟨-, ⟨-, ⟨-, ⟨⟨BD⟩, -⟩⟩⟩⟩⟩⟩⟩⟩⟩⟩⟩⟩⟩⟩⟩⟩⟩⟩⟩⟩⟩
  obtain ⟨_, _⟩ := BA.q2
  obtain ⟨_, _⟩ := BP.q2
  obtain ⟨_, _⟩ := BQ.q2
  obtain ⟨_, _, _, _, _, _, _, _, _, _⟩ := BS.q10
  obtain ⟨_, _, _, _, _, _⟩ := BD.q6
  rcases (id RS) with ⟨-, ⟨-, ⟨-, ⟨-, ⟨-, ⟨-, ⟨-, ⟨-, ⟨-, ⟨-, ⟨-, ⟨-, ⟨-, ⟨-, ⟨-, ⟨-, ⟨-, ⟨-, ⟨-, ⟨-, ⟨-, ⟨-, ⟨-, ⟨-, ⟨-, ⟨-, ⟨-, ⟨SB⟩⟩⟩⟩⟩⟩⟩⟩⟩⟩⟩⟩⟩⟩⟩⟩⟩⟩⟩⟩⟩⟩⟩⟩⟩⟩⟩⟩
  go_wp2_with fail
  try go_wp2_with fail
  go_ret
  exact ⟨rfl, SB.get⟩
 | true =>
 obtain ⟨i0, i1, j0, j1, hJ, hB, hM, hN, hS⟩ := hL_.out rfl
 have hJ_ := Aside0.mk hJ
 have hB_ := Aside0.mk hB
 have hM_ := Aside0.mk hM
 have hN_ := Aside0.mk hN
 have hS_ := Aside0.mk hS
 clear hJ hB hM hN hS
 rcases (id RS) with ⟨⟨BA⟩, ⟨⟨BP⟩, ⟨⟨BQ⟩, ⟨-, ⟨-, ⟨-, ⟨-, ⟨-, ⟨-, ⟨⟨BS⟩, ⟨-, ⟨-, ⟨-, ⟨-, ⟨-, ⟨-, ⟨-, ⟨-, ⟨-, ⟨-, ⟨⟨BD⟩, -⟩⟩⟩⟩⟩⟩⟩⟩⟩⟩⟩⟩⟩⟩⟩⟩⟩⟩⟩⟩⟩
 obtain ⟨_, _⟩ := BA.q2
 obtain ⟨_, _⟩ := BP.q2
 obtain ⟨_, _⟩ := BQ.q2
 obtain ⟨_, _, _, _, _, _, _, _, _, _⟩ := BS.q10
 obtain ⟨_, _, _, _, _, _⟩ := BD.q6
 go_upto_region 7 with fail
 go_wp2_with fail
 rcases (id RS) with ⟨-, ⟨-, ⟨-, ⟨-, ⟨-, ⟨-, ⟨-, ⟨-, ⟨-, ⟨-, ⟨-, ⟨-, ⟨⟨S2⟩, ⟨⟨S3⟩, ⟨⟨S4⟩, ⟨⟨S5⟩, ⟨-, ⟨-, ⟨⟨S8⟩, ⟨⟨S9⟩, -⟩⟩⟩⟩⟩⟩⟩⟩⟩⟩⟩⟩⟩⟩⟩⟩⟩⟩⟩⟩
 refine (scarfjointref07_Image.calls k _ _ s2 _ _ s3 _ _ s4 _ _ s5 _ _ s8 _ _ s9 i0 i1 0 _ S2.at_ S2.cap S3.at_ S3.cap S4.at_ S4.cap S5.at_ S5.cap S8.at_ S8.cap S9.at_ S9.cap hJ_.out).mono ?_
 rintro e v9 ⟨y0, y1, rfl, q0, q1, hb⟩
 clear S2 S3 S4 S5 S8 S9
 replace hb := bS (w := v8) hb
 replace RS := mo hb RS
 clear hb
 obtain ⟨i_a, i_c, rfl, I0⟩ := Row.of_R q0
 clear q0
 obtain ⟨i_b, i_d, rfl, I1⟩ := Row.of_R q1
 clear q1
 replace RS := cR I0 (cR I1 (RS))
 clear I0 I1
 go_upto_region 8 with fail
 obtain ⟨v10, hv, BI, hb⟩ := nw1 v9 60 #[.slice i_a i0.length i_c, .slice i_b i1.length i_d]
 rw [← hv]
 clear hv
 replace RS := mo hb RS
 clear hb
 replace RS := cK BI (RS)
 clear BI
 rcases (id RS) with ⟨⟨BI⟩, ⟨-, ⟨-, ⟨⟨BA⟩, ⟨⟨BP⟩, ⟨⟨BQ⟩, ⟨-, ⟨-, ⟨-, ⟨-, ⟨-, ⟨-, ⟨⟨BS⟩, ⟨-, ⟨-, ⟨-, ⟨-, ⟨-, ⟨-, ⟨-, ⟨-, ⟨-, ⟨-, ⟨⟨BD⟩, -⟩⟩⟩⟩⟩⟩⟩⟩⟩⟩⟩⟩⟩⟩⟩⟩⟩⟩⟩⟩⟩⟩⟩⟩
 obtain ⟨_, _⟩ := BI.q2
 obtain ⟨_, _⟩ := BA.q2
 obtain ⟨_, _⟩ := BP.q2
 obtain ⟨_, _⟩ := BQ.q2
 obtain ⟨_, _, _, _, _, _, _, _, _, _⟩ := BS.q10
 obtain ⟨_, _, _, _, _, _⟩ := BD.q6
 go_wp2_with fail
 rcases (id RS) with ⟨-, ⟨⟨I0⟩, ⟨⟨I1⟩, ⟨-, ⟨-, ⟨-, ⟨-, ⟨-, ⟨-, ⟨-, ⟨-, ⟨-, ⟨-, ⟨⟨S0⟩, ⟨⟨S1⟩, ⟨-, ⟨-, ⟨⟨S4⟩, ⟨⟨S5⟩, ⟨⟨S6⟩, ⟨⟨S7⟩, -⟩⟩⟩⟩⟩⟩⟩⟩⟩⟩⟩⟩⟩⟩⟩⟩⟩⟩⟩⟩⟩
 refine (scarfjointref07_Preimage.calls k _ _ s0 _ _ s1 _ _ s4 _ _ s5 _ _ s6 _ _ s7 _ _ i0 _ _ i1 j0 j1 0 _ S0.at_ S0.cap S1.at_ S1.cap S4.at_ S4.cap S5.at_ S5.cap S6.at_ S6.cap S7.at_ S7.cap I0.at_ I0.cap I1.at_ I1.cap hB_.out).mono ?_
 rintro e v11 ⟨y0, y1, rfl, q0, q1, hb⟩
 clear S0 S1 S4 S5 S6 S7 I0 I1
 replace hb := bS (w := v10) hb
 replace RS := mo hb RS
 clear hb
 obtain ⟨j_a, j_c, rfl, J0⟩ := Row.of_R q0
 clear q0
 obtain ⟨j_b, j_d, rfl, J1⟩ := Row.of_R q1
 clear q1
 replace RS := cR J0 (cR J1 (RS))
 clear J0 J1
 go_upto_region 9 with fail
 obtain ⟨v12, hv, BJ, hb⟩ := nw1 v11 60 #[.slice j_a j0.length j_c, .slice j_b j1.length j_d]
 rw [← hv]
 clear hv
 replace RS := mo hb RS
 clear hb
 replace RS := cK BJ (RS)
 clear BJ
 rcases (id RS) with ⟨⟨BJ⟩, ⟨-, ⟨-, ⟨⟨BI⟩, ⟨-, ⟨-, ⟨⟨BA⟩, ⟨⟨BP⟩, ⟨⟨BQ⟩, ⟨-, ⟨-, ⟨-, ⟨-, ⟨-, ⟨-, ⟨⟨BS⟩, ⟨-, ⟨-, ⟨-, ⟨-, ⟨-, ⟨-, ⟨-, ⟨-, ⟨-, ⟨-, ⟨⟨BD⟩, -⟩⟩⟩⟩⟩⟩⟩⟩⟩⟩⟩⟩⟩⟩⟩⟩⟩⟩⟩⟩⟩⟩⟩⟩⟩⟩⟩
 obtain ⟨_, _⟩ := BJ.q2
 obtain ⟨_, _⟩ := BI.q2
 obtain ⟨_, _⟩ := BA.q2
 obtain ⟨_, _⟩ := BP.q2
 obtain ⟨_, _⟩ := BQ.q2
 obtain ⟨_, _, _, _, _, _, _, _, _, _⟩ := BS.q10
 obtain ⟨_, _, _, _, _, _⟩ := BD.q6
 go_wp2_with fail
 rcases (id RS) with ⟨-, ⟨-, ⟨-, ⟨-, ⟨-, ⟨-, ⟨-, ⟨-, ⟨-, ⟨⟨Q0⟩, ⟨⟨Q1⟩, ⟨⟨Q2⟩, ⟨⟨Q3⟩, ⟨-, ⟨-, ⟨-, ⟨⟨S0⟩, ⟨⟨S1⟩, -⟩⟩⟩⟩⟩⟩⟩⟩⟩⟩⟩⟩⟩⟩⟩⟩⟩⟩
 refine (scarfjointref07_Image.calls k _ _ r1 _ _ r2 _ _ s0 _ _ s1 _ _ r3 _ _ r4 j0 j1 0 _ Q0.at_ Q0.cap Q1.at_ Q1.cap S0.at_ S0.cap S1.at_ S1.cap Q2.at_ Q2.cap Q3.at_ Q3.cap hM_.out).mono ?_
 rintro e v13 ⟨y0, y1, rfl, q0, q1, hb⟩
 clear Q0 Q1 S0 S1 Q2 Q3
 replace hb := bS (w := v12) hb
 replace RS := mo hb RS
 clear hb
 obtain ⟨m_a, m_c, rfl, M0⟩ := Row.of_R q0
 clear q0
 obtain ⟨m_b, m_d, rfl, M1⟩ := Row.of_R q1
 clear q1
 replace RS := cR M0 (cR M1 (RS))
 clear M0 M1
 go_upto_region 10 with fail
 obtain ⟨v14, hv, BM, hb⟩ := nw1 v13 60 #[.slice m_a j0.length m_c, .slice m_b j1.length m_d]
 rw [← hv]
 clear hv
 replace RS := mo hb RS
 clear hb
 replace RS := cK BM (RS)
 clear BM
 rcases (id RS) with ⟨⟨BM⟩, ⟨-, ⟨-, ⟨⟨BJ⟩, ⟨-, ⟨-, ⟨⟨BI⟩, ⟨-, ⟨-, ⟨⟨BA⟩, ⟨⟨BP⟩, ⟨⟨BQ⟩, ⟨-, ⟨-, ⟨-, ⟨-, ⟨-, ⟨-, ⟨⟨BS⟩, ⟨-, ⟨-, ⟨-, ⟨-, ⟨-, ⟨-, ⟨-, ⟨-, ⟨-, ⟨-, ⟨⟨BD⟩, -⟩⟩⟩⟩⟩⟩⟩⟩⟩⟩⟩⟩⟩⟩⟩⟩⟩⟩⟩⟩⟩⟩⟩⟩⟩⟩⟩⟩⟩⟩
 obtain ⟨_, _⟩ := BM.q2
 obtain ⟨_, _⟩ := BJ.q2
 obtain ⟨_, _⟩ := BI.q2
 obtain ⟨_, _⟩ := BA.q2
 obtain ⟨_, _⟩ := BP.q2
 obtain ⟨_, _⟩ := BQ.q2
 obtain ⟨_, _, _, _, _, _, _, _, _, _⟩ := BS.q10
 obtain ⟨_, _, _, _, _, _⟩ := BD.q6
 go_wp2_with fail
 rcases (id RS) with ⟨-, ⟨-, ⟨-, ⟨-, ⟨-, ⟨-, ⟨-, ⟨-, ⟨-, ⟨-, ⟨-, ⟨-, ⟨⟨Q0⟩, ⟨⟨Q1⟩, ⟨⟨Q2⟩, ⟨⟨Q3⟩, ⟨-, ⟨-, ⟨-, ⟨⟨S0⟩, ⟨⟨S1⟩, -⟩⟩⟩⟩⟩⟩⟩⟩⟩⟩⟩⟩⟩⟩⟩⟩⟩⟩⟩⟩⟩
 refine (scarfjointref06_Injective.calls k _ _ r1 _ _ r2 _ _ s0 _ _ s1 _ _ r3 _ _ r4 true _ Q0.at_ Q0.cap Q1.at_ Q1.cap S0.at_ S0.cap S1.at_ S1.cap Q2.at_ Q2.cap Q3.at_ Q3.cap hN_.out).mono ?_
 rintro e v15 ⟨rfl, hb⟩
 clear Q0 Q1 S0 S1 Q2 Q3
 replace hb := bS (w := v14) hb
 replace RS := mo hb RS
 clear hb
 rcases (id RS) with ⟨⟨BM⟩, ⟨-, ⟨-, ⟨⟨BJ⟩, ⟨-, ⟨-, ⟨⟨BI⟩, ⟨-, ⟨-, ⟨⟨BA⟩, ⟨⟨BP⟩, ⟨⟨BQ⟩, ⟨-, ⟨-, ⟨-, ⟨-, ⟨-, ⟨-, ⟨⟨BS⟩, ⟨-, ⟨-, ⟨-, ⟨-, ⟨-, ⟨-, ⟨-, ⟨-, ⟨-, ⟨-, ⟨⟨BD⟩, -⟩⟩⟩⟩⟩⟩⟩⟩⟩⟩⟩⟩⟩⟩⟩⟩⟩⟩⟩⟩⟩⟩⟩⟩⟩⟩⟩⟩⟩⟩
 obtain ⟨_, _⟩ := BM.q2
 obtain ⟨_, _⟩ := BJ.q2
 obtain ⟨_, _⟩ := BI.q2
 obtain ⟨_, _⟩ := BA.q2
 obtain ⟨_, _⟩ := BP.q2
 obtain ⟨_, _⟩ := BQ.q2
 obtain ⟨_, _, _, _, _, _, _, _, _, _⟩ := BS.q10
 obtain ⟨_, _, _, _, _, _⟩ := BD.q6
 go_wp2_with fail
 rcases (id RS) with ⟨-, ⟨⟨M0⟩, ⟨⟨M1⟩, ⟨-, ⟨⟨J0⟩, ⟨⟨J1⟩, -⟩⟩⟩⟩⟩⟩
 refine (scarfjointref07_Same.calls k _ _ j0 _ _ j1 _ _ j0 _ _ j1 true _ M0.at_ M0.cap M1.at_ M1.cap J0.at_ J0.cap J1.at_ J1.cap hS_.out).mono ?_
 rintro e v16 ⟨rfl, hb⟩
 clear M0 M1 J0 J1
 replace hb := bS (w := v15) hb
 replace RS := mo hb RS
 clear hb
 rcases (id RS) with ⟨-, ⟨-, ⟨-, ⟨-, ⟨-, ⟨-, ⟨-, ⟨-, ⟨-, ⟨-, ⟨-, ⟨-, ⟨-, ⟨-, ⟨-, ⟨-, ⟨-, ⟨-, ⟨-, ⟨-, ⟨-, ⟨-, ⟨-, ⟨-, ⟨-, ⟨-, ⟨-, ⟨-, ⟨-, ⟨-, ⟨-, ⟨-, ⟨-, ⟨-, ⟨-, ⟨-, ⟨SB⟩⟩⟩⟩⟩⟩⟩⟩⟩⟩⟩⟩⟩⟩⟩⟩⟩⟩⟩⟩⟩⟩⟩⟩⟩⟩⟩⟩⟩⟩⟩⟩⟩⟩⟩⟩⟩
 go_wp2_with fail
 try go_wp2_with fail
 go_ret
 exact ⟨rfl, SB.get⟩
end Go.Proofs.Ytillofiphkmjjaa.X

/- The law PullbackInjective at a draft: the walk, its facts apart. -/
namespace Go.Proofs.Ytillofiphkmjjaa.Pure
open Go.RowKit Go.Proofs.YtillofiphkmjjaaW.PrintWords Go.Proofs.Ytillofiphkmjjaa.X Go.Proofs.Ytillofiphkmjjaa.Pl
set_option linter.unusedVariables false
theorem PullbackInjective_walk (A0 : Option Addr) (c0 : Nat) (xn0 : List Int) (A1 : Option Addr) (c1 : Nat) (xe0 : List S95) (A2 : Option Addr) (c2 : Nat) (xn1 : List Int) (A3 : Option Addr) (c3 : Nat) (xe1 : List S95) (A4 : Option Addr) (c4 : Nat) (xn2 : List Int) (A5 : Option Addr) (c5 : Nat) (xe2 : List S95) (w : World)
  (r0 : Kd.C (Kd.int .u8) w A0 xn0.length xn0) (l0 : xn0.length ≤ c0) (r1 : Kd.C k95 w A1 xe0.length xe0) (l1 : xe0.length ≤ c1) (r2 : Kd.C (Kd.int .u8) w A2 xn1.length xn1) (l2 : xn1.length ≤ c2) (r3 : Kd.C k95 w A3 xe1.length xe1) (l3 : xe1.length ≤ c3) (r4 : Kd.C (Kd.int .u8) w A4 xn2.length xn2) (l4 : xn2.length ≤ c4) (r5 : Kd.C k95 w A5 xe2.length xe2) (l5 : xe2.length ≤ c5) (g0 : ((∀ y ∈ xn0, okB y) ∧ (∀ y ∈ xe0, okB3 y)) ∧ ((∀ y ∈ xn1, okB y) ∧ (∀ y ∈ xe1, okB3 y)) ∧ (∀ y ∈ xn2, okB y) ∧ (∀ y ∈ xe2, okB3 y)) :
  Calls Try.prog 6 #[.agg #[.slice A0 xn0.length c0, .slice A1 xe0.length c1, .slice A2 xn1.length c2, .slice A3 xe1.length c3, .slice A4 xn2.length c4, .slice A5 xe2.length c5]] w fun e w' => e = .returned (.bool true) ∧ Below w.heap.size w w' :=
 law6 A0 c0 xn0 A1 c1 xe0 A2 c2 xn1 A3 c3 xe1 A4 c4 xn2 A5 c5 xe2 w ⟨l0, r0⟩ ⟨l1, r1⟩ ⟨l2, r2⟩ ⟨l3, r3⟩ ⟨l4, r4⟩ ⟨l5, r5⟩ g0.1.1 g0.1.2 g0.2.1.1 g0.2.1.2 g0.2.2.1 g0.2.2.2
end Go.Proofs.Ytillofiphkmjjaa.Pure

/- The seat's own argument types, by 'Opens'. -/
namespace Go.Proofs.Ytillofiphkmjjaa.Open
open Go.ChangeShapes Go.WideShapes Go.Deep Go.RowKit Go.Proofs.YtillofiphkmjjaaW.PrintWords Go.Proofs.Ytillofiphkmjjaa.X
set_option linter.unusedVariables false
section
variable {P : Program} {α β γ δ ε : Type}
theorem opens_true {t : TypeId} {d : Kd α} {g : α → Prop} (h : Opens P t d g) : Opens P t d (fun _ => True) := by
  intro H enc w spare held fuel cs x hx
  obtain ⟨a, hk, _⟩ := h hx
  exact ⟨a, hk, trivial⟩
theorem cut4 {σ : Type} (cs : List σ) (a b c : Nat) : cs = cs.take a ++ ((cs.drop a).take b ++ ((cs.drop (a + b)).take c ++ cs.drop (a + b + c))) := by
  have e1 : cs.drop (a + b) = (cs.drop a).drop b := by rw [List.drop_drop]
  have e2 : cs.drop (a + b + c) = ((cs.drop a).drop b).drop c := by rw [List.drop_drop, List.drop_drop, Nat.add_assoc]
  rw [e1, e2, List.take_append_drop, List.take_append_drop, List.take_append_drop]
theorem cut5 {σ : Type} (cs : List σ) (a b c d : Nat) : cs = cs.take a ++ ((cs.drop a).take b ++ ((cs.drop (a + b)).take c ++ ((cs.drop (a + b + c)).take d ++ cs.drop (a + b + c + d)))) := by
  have e2 : cs.drop (a + b + c + d) = (cs.drop (a + b + c)).drop d := by rw [List.drop_drop]
  rw [e2, List.take_append_drop]
  exact cut4 cs a b c
theorem opens_struct4 {t : TypeId} {f0 f1 f2 f3 : Field} {d0 : Kd α} {d1 : Kd β} {d2 : Kd γ} {d3 : Kd δ} {g0 : α → Prop} {g1 : β → Prop} {g2 : γ → Prop} {g3 : δ → Prop} (ht : P.underlying t = some (.struct #[f0, f1, f2, f3])) (h0 : f0.offset = 0) (h1 : f1.offset = P.cellsOf f0.type) (h2 : f2.offset = P.cellsOf f0.type + P.cellsOf f1.type) (h3 : f3.offset = P.cellsOf f0.type + P.cellsOf f1.type + P.cellsOf f2.type)
    (hs : P.cellsOf t = P.cellsOf f0.type + P.cellsOf f1.type + P.cellsOf f2.type + P.cellsOf f3.type) (o0 : Opens P f0.type d0 g0) (o1 : Opens P f1.type d1 g1) (o2 : Opens P f2.type d2 g2) (o3 : Opens P f3.type d3 g3) : Opens P t (Kd.pair d0 (Kd.pair d1 (Kd.pair d2 d3))) (fun _ => True) := by
  intro H enc w spare held fuel cs x h
  obtain ⟨xs, n, _, _, hl, hlen, hf⟩ := DataW.trod_struct ht h
  match xs, hlen with
  | [y0, y1, y2, y3], _ =>
    obtain ⟨a0, k0, -⟩ := o0 (hf 0 f0 rfl)
    obtain ⟨a1, k1, -⟩ := o1 (hf 1 f1 rfl)
    obtain ⟨a2, k2, -⟩ := o2 (hf 2 f2 rfl)
    obtain ⟨a3, k3, -⟩ := o3 (hf 3 f3 rfl)
    refine ⟨(a0, a1, a2, a3), ⟨_, _, ?_, k0, _, _, rfl, k1, _, _, rfl, k2, k3⟩, trivial⟩
    rw [h0, h1, h2, h3, List.drop_zero, List.take_of_length_le (l := cs.drop (_ + _ + _)) (by rw [List.length_drop]; omega)]
    exact cut4 _ _ _ _
theorem opens_struct5 {t : TypeId} {f0 f1 f2 f3 f4 : Field} {d0 : Kd α} {d1 : Kd β} {d2 : Kd γ} {d3 : Kd δ} {d4 : Kd ε} {g0 : α → Prop} {g1 : β → Prop} {g2 : γ → Prop} {g3 : δ → Prop} {g4 : ε → Prop} (ht : P.underlying t = some (.struct #[f0, f1, f2, f3, f4])) (h0 : f0.offset = 0) (h1 : f1.offset = P.cellsOf f0.type) (h2 : f2.offset = P.cellsOf f0.type + P.cellsOf f1.type) (h3 : f3.offset = P.cellsOf f0.type + P.cellsOf f1.type + P.cellsOf f2.type) (h4 : f4.offset = P.cellsOf f0.type + P.cellsOf f1.type + P.cellsOf f2.type + P.cellsOf f3.type)
    (hs : P.cellsOf t = P.cellsOf f0.type + P.cellsOf f1.type + P.cellsOf f2.type + P.cellsOf f3.type + P.cellsOf f4.type) (o0 : Opens P f0.type d0 g0) (o1 : Opens P f1.type d1 g1) (o2 : Opens P f2.type d2 g2) (o3 : Opens P f3.type d3 g3) (o4 : Opens P f4.type d4 g4) : Opens P t (Kd.pair d0 (Kd.pair d1 (Kd.pair d2 (Kd.pair d3 d4)))) (fun _ => True) := by
  intro H enc w spare held fuel cs x h
  obtain ⟨xs, n, _, _, hl, hlen, hf⟩ := DataW.trod_struct ht h
  match xs, hlen with
  | [y0, y1, y2, y3, y4], _ =>
    obtain ⟨a0, k0, -⟩ := o0 (hf 0 f0 rfl)
    obtain ⟨a1, k1, -⟩ := o1 (hf 1 f1 rfl)
    obtain ⟨a2, k2, -⟩ := o2 (hf 2 f2 rfl)
    obtain ⟨a3, k3, -⟩ := o3 (hf 3 f3 rfl)
    obtain ⟨a4, k4, -⟩ := o4 (hf 4 f4 rfl)
    refine ⟨(a0, a1, a2, a3, a4), ⟨_, _, ?_, k0, _, _, rfl, k1, _, _, rfl, k2, _, _, rfl, k3, k4⟩, trivial⟩
    rw [h0, h1, h2, h3, h4, List.drop_zero, List.take_of_length_le (l := cs.drop (_ + _ + _ + _)) (by rw [List.length_drop]; omega)]
    exact cut5 _ _ _ _ _
end
abbrev okInt (n : Int) : Prop := (Lit.int .i64 n).wf = true
theorem open22 : Opens Try.prog 22 (Kd.slice 3 (Kd.int .i64)) (fun l => ∀ x ∈ l, okInt x) := opens_slice Try.underlying22 (opens_int Try.underlying3) (by kernel_rfl)
theorem open94 : Opens Try.prog 94 k94 (fun e : S94 => okInt e.f0 ∧ okInt e.f1 ∧ okInt e.f2) :=
  opens_iso (opens_struct3 Try.underlying94 rfl (by kernel_rfl) (by kernel_rfl) (by kernel_rfl) (opens_int Try.underlying3) (opens_int Try.underlying3) (opens_int Try.underlying3)) _ (fun p => ⟨p.1, p.2.1, p.2.2⟩) (fun _ => rfl)
theorem open23 : Opens Try.prog 23 (Kd.slice 94 k94) (fun l => ∀ e ∈ l, okInt e.f0 ∧ okInt e.f1 ∧ okInt e.f2) := opens_slice Try.underlying23 open94 (by kernel_rfl)
theorem open25 : Opens Try.prog 25 k25 (fun g : S25 => (∀ x ∈ g.f0, okInt x) ∧ ∀ e ∈ g.f1, okInt e.f0 ∧ okInt e.f1 ∧ okInt e.f2) :=
  opens_iso (opens_struct2 Try.underlying25 rfl (by kernel_rfl) (by kernel_rfl) open22 open23) _ (fun p => ⟨p.1, p.2⟩) (fun _ => rfl)
theorem open27 : Opens Try.prog 27 k27 (fun g : S27 => (∀ x ∈ g.f0, okInt x) ∧ ∀ x ∈ g.f1, okInt x) :=
  opens_iso (opens_struct2 Try.underlying27 rfl (by kernel_rfl) (by kernel_rfl) open22 open22) _ (fun p => ⟨p.1, p.2⟩) (fun _ => rfl)
structure S66 where
  f0 : List Int
  f1 : List S94
  f2 : List Int
  f3 : List S94
  f4 : List Int
  f5 : List Int
  f6 : List Int
  f7 : List Int
def k66 : Kd S66 := Kd.iso (Kd.pair k25 (Kd.pair k25 (Kd.pair k27 k27))) (fun x : S66 => ((⟨x.f0, x.f1⟩ : S25), (⟨x.f2, x.f3⟩ : S25), (⟨x.f4, x.f5⟩ : S27), (⟨x.f6, x.f7⟩ : S27)))
theorem k66_open {w : World} {x : S66} {cs : List Value} (h : k66.K w x cs) : ∃ A0 c0 A1 c1 A2 c2 A3 c3 A4 c4 A5 c5 A6 c6 A7 c7, cs = [.slice A0 x.f0.length c0, .slice A1 x.f1.length c1, .slice A2 x.f2.length c2, .slice A3 x.f3.length c3, .slice A4 x.f4.length c4, .slice A5 x.f5.length c5, .slice A6 x.f6.length c6, .slice A7 x.f7.length c7] ∧ x.f0.length ≤ c0 ∧ (Kd.int .i64).C w A0 x.f0.length x.f0 ∧ x.f1.length ≤ c1 ∧ k94.C w A1 x.f1.length x.f1 ∧ x.f2.length ≤ c2 ∧ (Kd.int .i64).C w A2 x.f2.length x.f2 ∧ x.f3.length ≤ c3 ∧ k94.C w A3 x.f3.length x.f3 ∧ x.f4.length ≤ c4 ∧ (Kd.int .i64).C w A4 x.f4.length x.f4 ∧ x.f5.length ≤ c5 ∧ (Kd.int .i64).C w A5 x.f5.length x.f5 ∧ x.f6.length ≤ c6 ∧ (Kd.int .i64).C w A6 x.f6.length x.f6 ∧ x.f7.length ≤ c7 ∧ (Kd.int .i64).C w A7 x.f7.length x.f7 := by
  obtain ⟨_, _, rfl, h0, ⟨_, _, rfl, h1, ⟨_, _, rfl, h2, h3⟩⟩⟩ := h
  obtain ⟨A0, c0, A1, c1, rfl, l0, g0, l1, g1⟩ := k25_open h0
  obtain ⟨A2, c2, A3, c3, rfl, l2, g2, l3, g3⟩ := k25_open h1
  obtain ⟨A4, c4, A5, c5, rfl, l4, g4, l5, g5⟩ := k27_open h2
  obtain ⟨A6, c6, A7, c7, rfl, l6, g6, l7, g7⟩ := k27_open h3
  exact ⟨A0, c0, A1, c1, A2, c2, A3, c3, A4, c4, A5, c5, A6, c6, A7, c7, rfl, l0, g0, l1, g1, l2, g2, l3, g3, l4, g4, l5, g5, l6, g6, l7, g7⟩
theorem open66 : Opens Try.prog 66 k66 (fun _ => True) :=
  opens_true (opens_iso (opens_struct4 Try.underlying66 rfl (by kernel_rfl) (by kernel_rfl) (by kernel_rfl) (by kernel_rfl) open25 open25 open27 open27) _ (fun p => (⟨p.1.f0, p.1.f1, p.2.1.f0, p.2.1.f1, p.2.2.1.f0, p.2.2.1.f1, p.2.2.2.f0, p.2.2.2.f1⟩ : S66)) (fun _ => rfl))
structure S29 where
  f0 : List Int
  f1 : List S94
  f2 : List Int
  f3 : List S94
  f4 : List Int
  f5 : List S94
  f6 : List Int
  f7 : List Int
  f8 : List Int
  f9 : List Int
def k29 : Kd S29 := Kd.iso (Kd.pair k25 (Kd.pair k25 (Kd.pair k25 (Kd.pair k27 k27)))) (fun x : S29 => ((⟨x.f0, x.f1⟩ : S25), (⟨x.f2, x.f3⟩ : S25), (⟨x.f4, x.f5⟩ : S25), (⟨x.f6, x.f7⟩ : S27), (⟨x.f8, x.f9⟩ : S27)))
theorem k29_open {w : World} {x : S29} {cs : List Value} (h : k29.K w x cs) : ∃ A0 c0 A1 c1 A2 c2 A3 c3 A4 c4 A5 c5 A6 c6 A7 c7 A8 c8 A9 c9, cs = [.slice A0 x.f0.length c0, .slice A1 x.f1.length c1, .slice A2 x.f2.length c2, .slice A3 x.f3.length c3, .slice A4 x.f4.length c4, .slice A5 x.f5.length c5, .slice A6 x.f6.length c6, .slice A7 x.f7.length c7, .slice A8 x.f8.length c8, .slice A9 x.f9.length c9] ∧ x.f0.length ≤ c0 ∧ (Kd.int .i64).C w A0 x.f0.length x.f0 ∧ x.f1.length ≤ c1 ∧ k94.C w A1 x.f1.length x.f1 ∧ x.f2.length ≤ c2 ∧ (Kd.int .i64).C w A2 x.f2.length x.f2 ∧ x.f3.length ≤ c3 ∧ k94.C w A3 x.f3.length x.f3 ∧ x.f4.length ≤ c4 ∧ (Kd.int .i64).C w A4 x.f4.length x.f4 ∧ x.f5.length ≤ c5 ∧ k94.C w A5 x.f5.length x.f5 ∧ x.f6.length ≤ c6 ∧ (Kd.int .i64).C w A6 x.f6.length x.f6 ∧ x.f7.length ≤ c7 ∧ (Kd.int .i64).C w A7 x.f7.length x.f7 ∧ x.f8.length ≤ c8 ∧ (Kd.int .i64).C w A8 x.f8.length x.f8 ∧ x.f9.length ≤ c9 ∧ (Kd.int .i64).C w A9 x.f9.length x.f9 := by
  obtain ⟨_, _, rfl, h0, ⟨_, _, rfl, h1, ⟨_, _, rfl, h2, ⟨_, _, rfl, h3, h4⟩⟩⟩⟩ := h
  obtain ⟨A0, c0, A1, c1, rfl, l0, g0, l1, g1⟩ := k25_open h0
  obtain ⟨A2, c2, A3, c3, rfl, l2, g2, l3, g3⟩ := k25_open h1
  obtain ⟨A4, c4, A5, c5, rfl, l4, g4, l5, g5⟩ := k25_open h2
  obtain ⟨A6, c6, A7, c7, rfl, l6, g6, l7, g7⟩ := k27_open h3
  obtain ⟨A8, c8, A9, c9, rfl, l8, g8, l9, g9⟩ := k27_open h4
  exact ⟨A0, c0, A1, c1, A2, c2, A3, c3, A4, c4, A5, c5, A6, c6, A7, c7, A8, c8, A9, c9, rfl, l0, g0, l1, g1, l2, g2, l3, g3, l4, g4, l5, g5, l6, g6, l7, g7, l8, g8, l9, g9⟩
theorem open29 : Opens Try.prog 29 k29 (fun _ => True) :=
  opens_true (opens_iso (opens_struct5 Try.underlying29 rfl (by kernel_rfl) (by kernel_rfl) (by kernel_rfl) (by kernel_rfl) (by kernel_rfl) open25 open25 open25 open27 open27) _ (fun p => (⟨p.1.f0, p.1.f1, p.2.1.f0, p.2.1.f1, p.2.2.1.f0, p.2.2.1.f1, p.2.2.2.1.f0, p.2.2.2.1.f1, p.2.2.2.2.f0, p.2.2.2.2.f1⟩ : S29)) (fun _ => rfl))
structure S31 where
  f0 : List Int
  f1 : List S94
  f2 : List Int
  f3 : List Int
  f4 : List Int
  f5 : List Int
def k31 : Kd S31 := Kd.iso (Kd.pair k25 (Kd.pair k27 k27)) (fun x : S31 => ((⟨x.f0, x.f1⟩ : S25), (⟨x.f2, x.f3⟩ : S27), (⟨x.f4, x.f5⟩ : S27)))
theorem k31_open {w : World} {x : S31} {cs : List Value} (h : k31.K w x cs) : ∃ A0 c0 A1 c1 A2 c2 A3 c3 A4 c4 A5 c5, cs = [.slice A0 x.f0.length c0, .slice A1 x.f1.length c1, .slice A2 x.f2.length c2, .slice A3 x.f3.length c3, .slice A4 x.f4.length c4, .slice A5 x.f5.length c5] ∧ x.f0.length ≤ c0 ∧ (Kd.int .i64).C w A0 x.f0.length x.f0 ∧ x.f1.length ≤ c1 ∧ k94.C w A1 x.f1.length x.f1 ∧ x.f2.length ≤ c2 ∧ (Kd.int .i64).C w A2 x.f2.length x.f2 ∧ x.f3.length ≤ c3 ∧ (Kd.int .i64).C w A3 x.f3.length x.f3 ∧ x.f4.length ≤ c4 ∧ (Kd.int .i64).C w A4 x.f4.length x.f4 ∧ x.f5.length ≤ c5 ∧ (Kd.int .i64).C w A5 x.f5.length x.f5 := by
  obtain ⟨_, _, rfl, h0, ⟨_, _, rfl, h1, h2⟩⟩ := h
  obtain ⟨A0, c0, A1, c1, rfl, l0, g0, l1, g1⟩ := k25_open h0
  obtain ⟨A2, c2, A3, c3, rfl, l2, g2, l3, g3⟩ := k27_open h1
  obtain ⟨A4, c4, A5, c5, rfl, l4, g4, l5, g5⟩ := k27_open h2
  exact ⟨A0, c0, A1, c1, A2, c2, A3, c3, A4, c4, A5, c5, rfl, l0, g0, l1, g1, l2, g2, l3, g3, l4, g4, l5, g5⟩
theorem open31 : Opens Try.prog 31 k31 (fun _ => True) :=
  opens_true (opens_iso (opens_struct3 Try.underlying31 rfl (by kernel_rfl) (by kernel_rfl) (by kernel_rfl) open25 open27 open27) _ (fun p => (⟨p.1.f0, p.1.f1, p.2.1.f0, p.2.1.f1, p.2.2.f0, p.2.2.f1⟩ : S31)) (fun _ => rfl))
end Go.Proofs.Ytillofiphkmjjaa.Open

/- Drafts as arguments, by 'Opens': bytes, arrays of three bytes. -/
namespace Go.Proofs.Ytillofiphkmjjaa.Open
open Go.ChangeShapes Go.WideShapes Go.Deep Go.RowKit Go.Proofs.YtillofiphkmjjaaW.PrintWords Go.Proofs.Ytillofiphkmjjaa.X Go.Proofs.Ytillofiphkmjjaa.Pl
set_option linter.unusedVariables false
section
variable {P : Program} {α : Type}
theorem opens_imp {t : TypeId} {d : Kd α} {g g' : α → Prop} (h : Opens P t d g) (hi : ∀ a, g a → g' a) : Opens P t d g' := by
  intro H enc w spare held fuel cs x hx
  obtain ⟨a, hk, hg⟩ := h hx
  exact ⟨a, hk, hi a hg⟩
theorem opens_array3 {t e : TypeId} {d : Kd α} {g : α → Prop} (ht : P.underlying t = some (.array 3 e)) (he : P.cellsOf e = 1) (hs : P.cellsOf t = 3) (o : Opens P e d g) : Opens P t (Kd.pair d (Kd.pair d d)) (fun x => g x.1 ∧ g x.2.1 ∧ g x.2.2) := by
  intro H enc w spare held fuel cs x h
  obtain ⟨xs, n, _, _, hl, hlen, hf⟩ := DataW.trod_array ht h
  rw [he] at hf
  rw [hs] at hl
  match cs, hl with
  | [c0, c1, c2], _ =>
    match xs, hlen with
    | [y0, y1, y2], _ =>
      obtain ⟨a0, q0, g0⟩ := o (hf 0 (by decide))
      obtain ⟨a1, q1, g1⟩ := o (hf 1 (by decide))
      obtain ⟨a2, q2, g2⟩ := o (hf 2 (by decide))
      exact ⟨(a0, a1, a2), ⟨[c0], [c1, c2], rfl, q0, ⟨[c1], [c2], rfl, q1, q2⟩⟩, g0, g1, g2⟩
end
theorem open5 : Opens Try.prog 5 (Kd.int .u8) okB := opens_imp (opens_int Try.underlying5) (fun n h => bounds_u8 h)
theorem open40 : Opens Try.prog 40 (Kd.slice 5 (Kd.int .u8)) (fun l => ∀ x ∈ l, okB x) := opens_slice Try.underlying40 open5 (by kernel_rfl)
theorem open95 : Opens Try.prog 95 k95 okB3 := opens_imp (opens_iso (opens_array3 Try.underlying95 (by kernel_rfl) (by kernel_rfl) open5) (fun x : S95 => (x.f0, x.f1, x.f2)) (fun p => ⟨p.1, p.2.1, p.2.2⟩) (fun _ => rfl)) (fun _ h => h)
theorem open41 : Opens Try.prog 41 (Kd.slice 95 k95) (fun l => ∀ x ∈ l, okB3 x) := opens_slice Try.underlying41 open95 (by kernel_rfl)
structure S44 where
  f0 : List Int
  f1 : List S95
def k44 : Kd S44 := Kd.iso (Kd.pair (Kd.slice 5 (Kd.int .u8)) (Kd.slice 95 k95)) (fun x : S44 => (x.f0, x.f1))
theorem k44_open {w : World} {x : S44} {cs : List Value} (h : k44.K w x cs) : ∃ A0 c0 A1 c1, cs = [.slice A0 x.f0.length c0, .slice A1 x.f1.length c1] ∧ x.f0.length ≤ c0 ∧ (Kd.int .u8).C w A0 x.f0.length x.f0 ∧ x.f1.length ≤ c1 ∧ k95.C w A1 x.f1.length x.f1 := by
  obtain ⟨_, _, rfl, ⟨A0, c0, rfl, l0, g0⟩, ⟨A1, c1, rfl, l1, g1⟩⟩ := h
  exact ⟨A0, c0, A1, c1, rfl, l0, g0, l1, g1⟩
def ok44 (x : S44) : Prop := (∀ y ∈ x.f0, okB y) ∧ ∀ y ∈ x.f1, okB3 y
theorem open44 : Opens Try.prog 44 k44 ok44 := opens_iso (opens_struct2 Try.underlying44 rfl (by kernel_rfl) (by kernel_rfl) open40 open41) (fun x : S44 => (x.f0, x.f1)) (fun p => ⟨p.1, p.2⟩) (fun _ => rfl)
theorem open43 : Opens Try.prog 43 k44 ok44 := opens_iso (opens_struct2 Try.underlying43 rfl (by kernel_rfl) (by kernel_rfl) open40 open41) (fun x : S44 => (x.f0, x.f1)) (fun p => ⟨p.1, p.2⟩) (fun _ => rfl)
structure S46 where
  f0 : List Int
  f1 : List S95
  f2 : List Int
  f3 : List S95
  f4 : List Int
  f5 : List S95
def k46 : Kd S46 := Kd.iso (Kd.pair k44 (Kd.pair k44 k44)) (fun x : S46 => ((⟨x.f0, x.f1⟩ : S44), (⟨x.f2, x.f3⟩ : S44), (⟨x.f4, x.f5⟩ : S44)))
theorem k46_open {w : World} {x : S46} {cs : List Value} (h : k46.K w x cs) : ∃ A0 c0 A1 c1 A2 c2 A3 c3 A4 c4 A5 c5, cs = [.slice A0 x.f0.length c0, .slice A1 x.f1.length c1, .slice A2 x.f2.length c2, .slice A3 x.f3.length c3, .slice A4 x.f4.length c4, .slice A5 x.f5.length c5] ∧ x.f0.length ≤ c0 ∧ (Kd.int .u8).C w A0 x.f0.length x.f0 ∧ x.f1.length ≤ c1 ∧ k95.C w A1 x.f1.length x.f1 ∧ x.f2.length ≤ c2 ∧ (Kd.int .u8).C w A2 x.f2.length x.f2 ∧ x.f3.length ≤ c3 ∧ k95.C w A3 x.f3.length x.f3 ∧ x.f4.length ≤ c4 ∧ (Kd.int .u8).C w A4 x.f4.length x.f4 ∧ x.f5.length ≤ c5 ∧ k95.C w A5 x.f5.length x.f5 := by
  obtain ⟨_, _, rfl, h0, ⟨_, _, rfl, h1, h2⟩⟩ := h
  obtain ⟨A0, c0, A1, c1, rfl, l0, g0, l1, g1⟩ := k44_open h0
  obtain ⟨A2, c2, A3, c3, rfl, l2, g2, l3, g3⟩ := k44_open h1
  obtain ⟨A4, c4, A5, c5, rfl, l4, g4, l5, g5⟩ := k44_open h2
  exact ⟨A0, c0, A1, c1, A2, c2, A3, c3, A4, c4, A5, c5, rfl, l0, g0, l1, g1, l2, g2, l3, g3, l4, g4, l5, g5⟩
def ok46 (x : S46) : Prop := ((∀ y ∈ x.f0, okB y) ∧ ∀ y ∈ x.f1, okB3 y) ∧ ((∀ y ∈ x.f2, okB y) ∧ ∀ y ∈ x.f3, okB3 y) ∧ (∀ y ∈ x.f4, okB y) ∧ ∀ y ∈ x.f5, okB3 y
theorem open46 : Opens Try.prog 46 k46 ok46 :=
  opens_imp (opens_iso (opens_struct3 Try.underlying46 rfl (by kernel_rfl) (by kernel_rfl) (by kernel_rfl) open43 open44 open44) (fun x : S46 => ((⟨x.f0, x.f1⟩ : S44), (⟨x.f2, x.f3⟩ : S44), (⟨x.f4, x.f5⟩ : S44))) (fun p => (⟨p.1.f0, p.1.f1, p.2.1.f0, p.2.1.f1, p.2.2.f0, p.2.2.f1⟩ : S46)) (fun _ => rfl)) (fun _ h => h)
end Go.Proofs.Ytillofiphkmjjaa.Open


namespace Go.Proofs.Ytillofiphkmjjaa.pullbackInjective
open Go.ChangeShapes Go.WideShapes Go.ChangeAt Go.RowKit
open Go.ChangeMaps (open_string shut_string)
open Go.Proofs.YtillofiphkmjjaaW.PrintWords Go.Proofs.Ytillofiphkmjjaa.X
set_option linter.unusedVariables false
theorem own : ownKnob Try.prog.godebug = none := by kernel_rfl
theorem laidOut : laidOutB Try.prog = true := by kernel_rfl
set_option maxRecDepth 100000 in
theorem lifted (os : Os) (started : os.Started) (H : Type) (enc : TypeId × Value → H) :
    ReturnsInHanded {} Try.checked os 6 .any (Rows.pullbackInjectiveSpec.pre6 enc Try.prog Try.f6 Rows.pullbackInjectiveRow.domain false) (Rows.pullbackInjectiveSpec.post enc Try.prog Try.f6 false true false false) := by
  refine returnsInHanded_of_change_sized (C := Try.checked) own started (by kernel_rfl) Try.func6
    (ChangeSpec.witness6 (enc := enc) (C := Try.checked) false ⟨#[], #[.agg #[.slice none 0 0, .slice none 0 0, .slice none 0 0, .slice none 0 0, .slice none 0 0, .slice none 0 0]], []⟩ 8 (by kernel_rfl) (by kernel_rfl) (by kernel_rfl) (by kernel_rfl)) ?_
  intro W base args ds gs before hval0 hW hcnd hsz0 _
  clear hsz0
  have hval : ∀ (j : Nat) t v, Try.f6.params[j]? = some t → args[j]? = some v → Value.okWide Try.prog W .any base t v := hval0
  have hW' := hW
  obtain ⟨p, q, hA0, hV, rfl, hfz, hnd⟩ := hW
  have hA : DataW.TrodAll enc Try.prog W 0 (fun _ => true) true Try.f6.params.toList args.toList ds p := hA0
  rw [Try.params6] at hA hval
  obtain ⟨v0, vs0, d0, ds0, p0, q0, hargs, rfl, rfl, h0, r0⟩ := trodAll_cons hA
  obtain ⟨rfl, rfl, rfl⟩ := trodAll_nil r0
  obtain rfl : args = #[v0] := by cases args; simp_all
  obtain ⟨rfl, rfl⟩ := trodVars_none hV
  have k0 := h0
  have lt0 : ∀ x ∈ p0, x.block < W.heap.size := by obtain ⟨m, hm⟩ := k0; exact DataW.trod_lt m _ _ _ hm
  obtain ⟨cs0, rfl, hz0⟩ := okWide_struct Try.underlying46 (hval 0 46 v0 rfl rfl)
  obtain ⟨m0, hm0⟩ := h0
  obtain ⟨x0, K0, g0⟩ := Open.open46 hm0
  replace K0 : Open.k46.K W x0 cs0.toList := K0
  obtain ⟨A0_0, c0_0, A0_1, c0_1, A0_2, c0_2, A0_3, c0_3, A0_4, c0_4, A0_5, c0_5, e0, hc0_0, hr0_0, hc0_1, hr0_1, hc0_2, hr0_2, hc0_3, hr0_3, hc0_4, hr0_4, hc0_5, hr0_5⟩ := Open.k46_open K0
  obtain rfl : cs0 = #[.slice A0_0 x0.f0.length c0_0, .slice A0_1 x0.f1.length c0_1, .slice A0_2 x0.f2.length c0_2, .slice A0_3 x0.f3.length c0_3, .slice A0_4 x0.f4.length c0_4, .slice A0_5 x0.f5.length c0_5] := by apply Array.toList_inj.mp; rw [e0]
  clear hA0 hval0
  refine (Pure.PullbackInjective_walk _ _ x0.f0 _ _ x0.f1 _ _ x0.f2 _ _ x0.f3 _ _ x0.f4 _ _ x0.f5 W hr0_0 hc0_0 hr0_1 hc0_1 hr0_2 hc0_2 hr0_3 hc0_3 hr0_4 hc0_4 hr0_5 hc0_5 g0).mono fun e W' ⟨he, bel⟩ => ?_
  subst he
  exact ⟨_, rfl, _, _, _, [], _, [], hW', trodAll_mk1 (shut_bool Try.underlying4 _), (trodAll_cons_mk (Below.trod laidOut (by kernel_rfl) (of_decide_eq_true (by kernel_rfl)) k0 bel lt0) trodAll_mk0), rfl, bel.frame _, fun h => by cases h⟩
theorem over : Rows.pullbackInjectiveRow.holds Try.pinned (OpenSpec.ofChange Rows.pullbackInjectiveSpec) :=
  OpenClaim.holds_of_wide 6 Try.f6 rfl rfl rfl rfl rfl rfl rfl ⟨rfl, rfl, rfl, rfl, rfl⟩ rfl rfl rfl rfl rfl (by kernel_rfl) Try.func6 (by kernel_rfl)
    (of_decide_eq_true (by kernel_rfl)) (by unfold Func.isWrapper; first | (rw [if_pos (by decide +kernel)]; kernel_rfl) | (rw [if_neg (by decide +kernel)]; exact ⟨rfl, rfl⟩))
    (fun os started H enc _ => lifted os started H enc)
theorem proved : Rows.PullbackInjectiveSaid := over
#print axioms proved
end Go.Proofs.Ytillofiphkmjjaa.pullbackInjective
namespace Go.Proofs.Ytillofiphkmjjaa
/-- The row, under a short name, for the claim. -/
theorem pullbackInjective_holds : Rows.PullbackInjectiveSaid := pullbackInjective.proved
end Go.Proofs.Ytillofiphkmjjaa
