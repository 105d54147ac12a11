/- A part of the proof that the law PullbackInjective returns true at every input: contracts of the functions that it calls, and lemmas. -/
import Derived.Test.YtillofiphkmjjaaZPullbackInjective1
namespace Go.Proofs.Ytillofiphkmjjaa.X
open Go.RowKit Go.Proofs.YtillofiphkmjjaaW.PrintWords Go.Proofs.YtillofiphkmjjaaW.PrintLast Go.Proofs.YtillofiphkmjjaaW.PrintMore
open Go.Proofs.YtillofiphkmjjaaW.PrintWords renaming blk_drewN → bN, blk_drew → bD, blk_alloc → bA, below_alloc → wA, pw_below_drewN → wN, below_drew1 → wD, blk_below → bB, below_step → wS, blk_at → bT, blk_grown → bG
open Go.Proofs.YtillofiphkmjjaaW.PrintWords.Kd renaming R_alloc → rA, R_drewN → rN, R_drew → rD, R_below → rB, R_grown → rG, C_below → cB, C_alloc → cA, C_drewN → cN, C_drew → cD
attribute [local go_sem] max2_int min2_int max_two min_two max_three min_three max_four min_four
set_option linter.unusedVariables false
set_option linter.unusedSimpArgs false
/-! ### morphism_Valid: function 42 -/
def mvN (a0 b0 : List Int) : Int → List Int → Int
 | _, [] => 0
 | i, k :: r => if k < 0 ∨ k ≥ b0.length then 6 else if rd b0 k ≠ rd a0 i then 13 else mvN a0 b0 (i + 1) r
def mvE (a1 b1 : List S94) (n : List Int) : Int → List Int → Int
 | _, [] => 0
 | i, k :: r => if k < 0 ∨ k ≥ b1.length then 6 else if (rd_T94 a1 i).f0 ≠ (rd_T94 b1 k).f0 then 13 else if rd n (rd_T94 a1 i).f1 ≠ (rd_T94 b1 k).f1 ∨ rd n (rd_T94 a1 i).f2 ≠ (rd_T94 b1 k).f2 then 11 else mvE a1 b1 n (i + 1) r
def mvalid (a0 : List Int) (a1 : List S94) (b0 : List Int) (b1 : List S94) (n e : List Int) : Int :=
 if validE a0 a1 = 0 then (if validE b0 b1 = 0 then (if n.length ≠ a0.length ∨ e.length ≠ a1.length then 20 else if mvN a0 b0 0 n = 0 then mvE a1 b1 n 0 e else mvN a0 b0 0 n) else validE b0 b1) else validE a0 a1
theorem mvN_cons (a0 b0 : List Int) (i k : Int) (r : List Int) : mvN a0 b0 i (k :: r) = if k < 0 ∨ k ≥ b0.length then 6 else if rd b0 k ≠ rd a0 i then 13 else mvN a0 b0 (i + 1) r := rfl
theorem mvE_cons (a1 b1 : List S94) (n : List Int) (i k : Int) (r : List Int) : mvE a1 b1 n i (k :: r) = if k < 0 ∨ k ≥ b1.length then 6 else if (rd_T94 a1 i).f0 ≠ (rd_T94 b1 k).f0 then 13 else if rd n (rd_T94 a1 i).f1 ≠ (rd_T94 b1 k).f1 ∨ rd n (rd_T94 a1 i).f2 ≠ (rd_T94 b1 k).f2 then 11 else mvE a1 b1 n (i + 1) r := rfl
theorem cell_alloc {W : World} {a : Addr} {v : Value} (h : W.cell? a = some v) (o : Obj) : (W.alloc o).cell? a = some v := Go.Lib.cell?_alloc_some o h
theorem drop_rd (l : List Int) (i : Nat) (h : i < l.length) : l.drop i = rd l i :: l.drop (i + 1) := by
 rw [List.drop_eq_getElem_cons h]
 unfold rd
 rw [Int.toNat_natCast, List.getD_eq_getElem?_getD, List.getElem?_eq_getElem h]
 rfl
set_option maxHeartbeats 4000000 in
set_option maxRecDepth 100000 in
theorem mvalid_a (A0 : Option Addr) (c0 : Nat) (a0 : List Int) (A1 : Option Addr) (c1 : Nat) (a1 : List S94) (A2 : Option Addr) (c2 : Nat) (b0 : List Int) (A3 : Option Addr) (c3 : Nat) (b1 : List S94) (A4 : Option Addr) (c4 : Nat) (n : List Int) (A5 : Option Addr) (c5 : Nat) (m : List Int) (w : World) (R0 : Row (Kd.int .i64) w A0 c0 a0) (R1 : Row k94 w A1 c1 a1) (R2 : Row (Kd.int .i64) w A2 c2 b0) (R3 : Row k94 w A3 c3 b1) (R4 : Row (Kd.int .i64) w A4 c4 n) (R5 : Row (Kd.int .i64) w A5 c5 m) (hv : validE a0 a1 ≠ 0) :
  Calls Try.prog 42 #[.agg #[.slice A0 a0.length c0, .slice A1 a1.length c1], .agg #[.slice A2 b0.length c2, .slice A3 b1.length c3], .agg #[.slice A4 n.length c4, .slice A5 m.length c5]] w fun e w' => e = .returned (.int .i64 (validE a0 a1)) ∧ Below w.heap.size w w' := by
 have hu25 := Try.underlying25
 have hu27 := Try.underlying27
 have hu94 := Try.underlying94
 have HV_ := Aside0.mk hv
 clear hv
 have SB := Since.refl w
 go_enter Try.func42, Try.ntmps42
 go_upto_region 1 with fail
 obtain ⟨BX, BY, BZ, hb⟩ := tri_new w (.slice A0 a0.length c0) (.slice A1 a1.length c1) 25 (.slice A2 b0.length c2) (.slice A3 b1.length c3) 25 (.slice A4 n.length c4) (.slice A5 m.length c5) 27
 replace R0 := R0.below hb
 replace R1 := R1.below hb
 replace R2 := R2.below hb
 replace R3 := R3.below hb
 replace R4 := R4.below hb
 replace R5 := R5.below hb
 replace SB := SB.step hb
 clear hb
 generalize hw : (((w.alloc (.cells #[.slice A0 a0.length c0, .slice A1 a1.length c1] 25)).alloc (.cells #[.slice A2 b0.length c2, .slice A3 b1.length c3] 25)).alloc (.cells #[.slice A4 n.length c4, .slice A5 m.length c5] 27)) = w0 at *
 clear hw
 have BXx0 := BX.c0
 have BXx1 := BX.c1
 have BYx0 := BY.c0
 have BYx1 := BY.c1
 have BZx0 := BZ.c0
 have BZx1 := BZ.c1
 go_wp2_with fail
 refine (graph_Valid.calls _ _ a0 _ _ a1 (validE a0 a1) _ R0.at_ R0.cap R1.at_ R1.cap rfl).mono ?_
 rintro e w1 ⟨rfl, hb⟩
 replace hb := bS (w := w0) hb
 replace R0 := R0.below hb
 replace R1 := R1.below hb
 replace R2 := R2.below hb
 replace R3 := R3.below hb
 replace R4 := R4.below hb
 replace R5 := R5.below hb
 replace BX := BX.below hb
 replace BY := BY.below hb
 replace BZ := BZ.below hb
 replace SB := SB.step hb
 clear hb
 have BXx0 := BX.c0
 have BXx1 := BX.c1
 have BYx0 := BY.c0
 have BYx1 := BY.c1
 have BZx0 := BZ.c0
 have BZx1 := BZ.c1
 have hz : (validE a0 a1 != 0) = true := bne_iff_ne.mpr HV_.out
 go_wp2_with fail
 go_ret
 exact ⟨rfl, SB.get⟩
set_option maxHeartbeats 4000000 in
set_option maxRecDepth 100000 in
theorem mvalid_b (A0 : Option Addr) (c0 : Nat) (a0 : List Int) (A1 : Option Addr) (c1 : Nat) (a1 : List S94) (A2 : Option Addr) (c2 : Nat) (b0 : List Int) (A3 : Option Addr) (c3 : Nat) (b1 : List S94) (A4 : Option Addr) (c4 : Nat) (n : List Int) (A5 : Option Addr) (c5 : Nat) (m : List Int) (w : World) (R0 : Row (Kd.int .i64) w A0 c0 a0) (R1 : Row k94 w A1 c1 a1) (R2 : Row (Kd.int .i64) w A2 c2 b0) (R3 : Row k94 w A3 c3 b1) (R4 : Row (Kd.int .i64) w A4 c4 n) (R5 : Row (Kd.int .i64) w A5 c5 m) (hv : validE a0 a1 = 0) (hu : validE b0 b1 ≠ 0) :
  Calls Try.prog 42 #[.agg #[.slice A0 a0.length c0, .slice A1 a1.length c1], .agg #[.slice A2 b0.length c2, .slice A3 b1.length c3], .agg #[.slice A4 n.length c4, .slice A5 m.length c5]] w fun e w' => e = .returned (.int .i64 (validE b0 b1)) ∧ Below w.heap.size w w' := by
 have hu25 := Try.underlying25
 have hu27 := Try.underlying27
 have hu94 := Try.underlying94
 have HV_ := Aside0.mk hv
 have HU_ := Aside0.mk hu
 clear hv hu
 have SB := Since.refl w
 go_enter Try.func42, Try.ntmps42
 go_upto_region 1 with fail
 obtain ⟨BX, BY, BZ, hb⟩ := tri_new w (.slice A0 a0.length c0) (.slice A1 a1.length c1) 25 (.slice A2 b0.length c2) (.slice A3 b1.length c3) 25 (.slice A4 n.length c4) (.slice A5 m.length c5) 27
 replace R0 := R0.below hb
 replace R1 := R1.below hb
 replace R2 := R2.below hb
 replace R3 := R3.below hb
 replace R4 := R4.below hb
 replace R5 := R5.below hb
 replace SB := SB.step hb
 clear hb
 generalize hw : (((w.alloc (.cells #[.slice A0 a0.length c0, .slice A1 a1.length c1] 25)).alloc (.cells #[.slice A2 b0.length c2, .slice A3 b1.length c3] 25)).alloc (.cells #[.slice A4 n.length c4, .slice A5 m.length c5] 27)) = w0 at *
 clear hw
 have BXx0 := BX.c0
 have BXx1 := BX.c1
 have BYx0 := BY.c0
 have BYx1 := BY.c1
 have BZx0 := BZ.c0
 have BZx1 := BZ.c1
 go_wp2_with fail
 refine (graph_Valid.calls _ _ a0 _ _ a1 0 _ R0.at_ R0.cap R1.at_ R1.cap (by unfold graph_Valid.f; rw [HV_.out])).mono ?_
 rintro e w1 ⟨rfl, hb⟩
 replace hb := bS (w := w0) hb
 replace R0 := R0.below hb
 replace R1 := R1.below hb
 replace R2 := R2.below hb
 replace R3 := R3.below hb
 replace R4 := R4.below hb
 replace R5 := R5.below hb
 replace BX := BX.below hb
 replace BY := BY.below hb
 replace BZ := BZ.below hb
 replace SB := SB.step hb
 clear hb
 have BXx0 := BX.c0
 have BXx1 := BX.c1
 have BYx0 := BY.c0
 have BYx1 := BY.c1
 have BZx0 := BZ.c0
 have BZx1 := BZ.c1
 go_wp2_with fail
 refine (graph_Valid.calls _ _ b0 _ _ b1 (validE b0 b1) _ R2.at_ R2.cap R3.at_ R3.cap rfl).mono ?_
 rintro e w2 ⟨rfl, hb⟩
 replace hb := bS (w := w1) hb
 replace R0 := R0.below hb
 replace R1 := R1.below hb
 replace R2 := R2.below hb
 replace R3 := R3.below hb
 replace R4 := R4.below hb
 replace R5 := R5.below hb
 replace BX := BX.below hb
 replace BY := BY.below hb
 replace BZ := BZ.below hb
 replace SB := SB.step hb
 clear hb
 have BXx0 := BX.c0
 have BXx1 := BX.c1
 have BYx0 := BY.c0
 have BYx1 := BY.c1
 have BZx0 := BZ.c0
 have BZx1 := BZ.c1
 have hz : (validE b0 b1 != 0) = true := bne_iff_ne.mpr HU_.out
 go_wp2_with fail
 go_ret
 exact ⟨rfl, SB.get⟩
set_option maxHeartbeats 4000000 in
set_option maxRecDepth 100000 in
theorem mvalid_c (A0 : Option Addr) (c0 : Nat) (a0 : List Int) (A1 : Option Addr) (c1 : Nat) (a1 : List S94) (A2 : Option Addr) (c2 : Nat) (b0 : List Int) (A3 : Option Addr) (c3 : Nat) (b1 : List S94) (A4 : Option Addr) (c4 : Nat) (n : List Int) (A5 : Option Addr) (c5 : Nat) (m : List Int) (w : World) (R0 : Row (Kd.int .i64) w A0 c0 a0) (R1 : Row k94 w A1 c1 a1) (R2 : Row (Kd.int .i64) w A2 c2 b0) (R3 : Row k94 w A3 c3 b1) (R4 : Row (Kd.int .i64) w A4 c4 n) (R5 : Row (Kd.int .i64) w A5 c5 m) (hv : validE a0 a1 = 0) (hu : validE b0 b1 = 0) (hn : n.length ≠ a0.length ∨ m.length ≠ a1.length) :
  Calls Try.prog 42 #[.agg #[.slice A0 a0.length c0, .slice A1 a1.length c1], .agg #[.slice A2 b0.length c2, .slice A3 b1.length c3], .agg #[.slice A4 n.length c4, .slice A5 m.length c5]] w fun e w' => e = .returned (.int .i64 20) ∧ Below w.heap.size w w' := by
 have hu25 := Try.underlying25
 have hu27 := Try.underlying27
 have hu94 := Try.underlying94
 have HV_ := Aside0.mk hv
 have HU_ := Aside0.mk hu
 clear hv hu
 have SB := Since.refl w
 go_enter Try.func42, Try.ntmps42
 go_upto_region 1 with fail
 obtain ⟨BX, BY, BZ, hb⟩ := tri_new w (.slice A0 a0.length c0) (.slice A1 a1.length c1) 25 (.slice A2 b0.length c2) (.slice A3 b1.length c3) 25 (.slice A4 n.length c4) (.slice A5 m.length c5) 27
 replace R0 := R0.below hb
 replace R1 := R1.below hb
 replace R2 := R2.below hb
 replace R3 := R3.below hb
 replace R4 := R4.below hb
 replace R5 := R5.below hb
 replace SB := SB.step hb
 clear hb
 generalize hw : (((w.alloc (.cells #[.slice A0 a0.length c0, .slice A1 a1.length c1] 25)).alloc (.cells #[.slice A2 b0.length c2, .slice A3 b1.length c3] 25)).alloc (.cells #[.slice A4 n.length c4, .slice A5 m.length c5] 27)) = w0 at *
 clear hw
 have BXx0 := BX.c0
 have BXx1 := BX.c1
 have BYx0 := BY.c0
 have BYx1 := BY.c1
 have BZx0 := BZ.c0
 have BZx1 := BZ.c1
 go_wp2_with fail
 refine (graph_Valid.calls _ _ a0 _ _ a1 0 _ R0.at_ R0.cap R1.at_ R1.cap (by unfold graph_Valid.f; rw [HV_.out])).mono ?_
 rintro e w1 ⟨rfl, hb⟩
 replace hb := bS (w := w0) hb
 replace R0 := R0.below hb
 replace R1 := R1.below hb
 replace R2 := R2.below hb
 replace R3 := R3.below hb
 replace R4 := R4.below hb
 replace R5 := R5.below hb
 replace BX := BX.below hb
 replace BY := BY.below hb
 replace BZ := BZ.below hb
 replace SB := SB.step hb
 clear hb
 have BXx0 := BX.c0
 have BXx1 := BX.c1
 have BYx0 := BY.c0
 have BYx1 := BY.c1
 have BZx0 := BZ.c0
 have BZx1 := BZ.c1
 go_wp2_with fail
 refine (graph_Valid.calls _ _ b0 _ _ b1 0 _ R2.at_ R2.cap R3.at_ R3.cap (by unfold graph_Valid.f; rw [HU_.out])).mono ?_
 rintro e w2 ⟨rfl, hb⟩
 replace hb := bS (w := w1) hb
 replace R0 := R0.below hb
 replace R1 := R1.below hb
 replace R2 := R2.below hb
 replace R3 := R3.below hb
 replace R4 := R4.below hb
 replace R5 := R5.below hb
 replace BX := BX.below hb
 replace BY := BY.below hb
 replace BZ := BZ.below hb
 replace SB := SB.step hb
 clear hb
 have BXx0 := BX.c0
 have BXx1 := BX.c1
 have BYx0 := BY.c0
 have BYx1 := BY.c1
 have BZx0 := BZ.c0
 have BZx1 := BZ.c1
 go_wp2_with fail
 all_goals first | (exfalso; omega) | skip
 all_goals (go_ret; exact ⟨rfl, SB.get⟩)
set_option maxHeartbeats 4000000 in
set_option maxRecDepth 100000 in
theorem mvalid_d (A0 : Option Addr) (c0 : Nat) (a0 : List Int) (A1 : Option Addr) (c1 : Nat) (a1 : List S94) (A2 : Option Addr) (c2 : Nat) (b0 : List Int) (A3 : Option Addr) (c3 : Nat) (b1 : List S94) (A4 : Option Addr) (c4 : Nat) (n : List Int) (A5 : Option Addr) (c5 : Nat) (m : List Int) (w : World) (R0 : Row (Kd.int .i64) w A0 c0 a0) (R1 : Row k94 w A1 c1 a1) (R2 : Row (Kd.int .i64) w A2 c2 b0) (R3 : Row k94 w A3 c3 b1) (R4 : Row (Kd.int .i64) w A4 c4 n) (R5 : Row (Kd.int .i64) w A5 c5 m) (hv : validE a0 a1 = 0) (hu : validE b0 b1 = 0) (hn : n.length = a0.length) (hm : m.length = a1.length) (hl : n.length ≤ 1000000 ∧ m.length ≤ 1000000) (r : Int) (hr : (if mvN a0 b0 0 n = 0 then mvE a1 b1 n 0 m else mvN a0 b0 0 n) = r) :
  Calls Try.prog 42 #[.agg #[.slice A0 a0.length c0, .slice A1 a1.length c1], .agg #[.slice A2 b0.length c2, .slice A3 b1.length c3], .agg #[.slice A4 n.length c4, .slice A5 m.length c5]] w fun e w' => e = .returned (.int .i64 r) ∧ Below w.heap.size w w' := by
 have hu25 := Try.underlying25
 have hu27 := Try.underlying27
 have hu94 := Try.underlying94
 have HV_ := Aside0.mk hv
 have HU_ := Aside0.mk hu
 have HN_ := Aside0.mk hn
 have HM_ := Aside0.mk hm
 have HL_ := Aside0.mk hl
 have HR_ := Aside0.mk hr
 clear hv hu hn hm hl hr
 have SB := Since.refl w
 go_enter Try.func42, Try.ntmps42
 go_upto_region 1 with fail
 obtain ⟨BX, BY, BZ, hb⟩ := tri_new w (.slice A0 a0.length c0) (.slice A1 a1.length c1) 25 (.slice A2 b0.length c2) (.slice A3 b1.length c3) 25 (.slice A4 n.length c4) (.slice A5 m.length c5) 27
 replace R0 := R0.below hb
 replace R1 := R1.below hb
 replace R2 := R2.below hb
 replace R3 := R3.below hb
 replace R4 := R4.below hb
 replace R5 := R5.below hb
 replace SB := SB.step hb
 clear hb
 generalize hw : (((w.alloc (.cells #[.slice A0 a0.length c0, .slice A1 a1.length c1] 25)).alloc (.cells #[.slice A2 b0.length c2, .slice A3 b1.length c3] 25)).alloc (.cells #[.slice A4 n.length c4, .slice A5 m.length c5] 27)) = w0 at *
 clear hw
 have BXx0 := BX.c0
 have BXx1 := BX.c1
 have BYx0 := BY.c0
 have BYx1 := BY.c1
 have BZx0 := BZ.c0
 have BZx1 := BZ.c1
 go_wp2_with fail
 refine (graph_Valid.calls _ _ a0 _ _ a1 0 _ R0.at_ R0.cap R1.at_ R1.cap (by unfold graph_Valid.f; rw [HV_.out])).mono ?_
 rintro e w1 ⟨rfl, hb⟩
 replace hb := bS (w := w0) hb
 replace R0 := R0.below hb
 replace R1 := R1.below hb
 replace R2 := R2.below hb
 replace R3 := R3.below hb
 replace R4 := R4.below hb
 replace R5 := R5.below hb
 replace BX := BX.below hb
 replace BY := BY.below hb
 replace BZ := BZ.below hb
 replace SB := SB.step hb
 clear hb
 have BXx0 := BX.c0
 have BXx1 := BX.c1
 have BYx0 := BY.c0
 have BYx1 := BY.c1
 have BZx0 := BZ.c0
 have BZx1 := BZ.c1
 go_wp2_with fail
 refine (graph_Valid.calls _ _ b0 _ _ b1 0 _ R2.at_ R2.cap R3.at_ R3.cap (by unfold graph_Valid.f; rw [HU_.out])).mono ?_
 rintro e w2 ⟨rfl, hb⟩
 replace hb := bS (w := w1) hb
 replace R0 := R0.below hb
 replace R1 := R1.below hb
 replace R2 := R2.below hb
 replace R3 := R3.below hb
 replace R4 := R4.below hb
 replace R5 := R5.below hb
 replace BX := BX.below hb
 replace BY := BY.below hb
 replace BZ := BZ.below hb
 replace SB := SB.step hb
 clear hb
 have BXx0 := BX.c0
 have BXx1 := BX.c1
 have BYx0 := BY.c0
 have BYx1 := BY.c1
 have BZx0 := BZ.c0
 have BZx1 := BZ.c1
 have j1 : ((n.length : Int) != (a0.length : Int)) = false := bne_eq_false_iff_eq.mpr (by rw [HN_.out])
 have j2 : ((m.length : Int) != (a1.length : Int)) = false := bne_eq_false_iff_eq.mpr (by rw [HM_.out])
 go_wp2_with fail
 all_goals first | (exfalso; have h1 := HN_.out; have h2 := HM_.out; omega) | skip
 go_loopg [44] n.length (fun kq v44 w' => ∃ i : Nat, v44 = .int .i64 i ∧ Aside0 (i + kq = n.length ∧ mvN a0 b0 i (n.drop i) = mvN a0 b0 0 n) ∧ Row (Kd.int .i64) w' A0 c0 a0 ∧ Row k94 w' A1 c1 a1 ∧ Row (Kd.int .i64) w' A2 c2 b0 ∧ Row k94 w' A3 c3 b1 ∧ Row (Kd.int .i64) w' A4 c4 n ∧ Row (Kd.int .i64) w' A5 c5 m ∧ Box2 w' w.heap.size 25 (.slice A0 a0.length c0) (.slice A1 a1.length c1) ∧ Box2 w' (w.heap.size + 1) 25 (.slice A2 b0.length c2) (.slice A3 b1.length c3) ∧ Box2 w' (w.heap.size + 2) 27 (.slice A4 n.length c4) (.slice A5 m.length c5) ∧ Since w w')
 case atStart => exact ⟨0, rfl, ⟨by omega, rfl⟩, R0, R1, R2, R3, R4, R5, BX, BY, BZ, SB⟩
 case round =>
  clear R0 R1 R2 R3 R4 R5 BX BY BZ SB
  obtain ⟨i, rfl, A, R0, R1, R2, R3, R4, R5, BX, BY, BZ, SB⟩ := hrel
  have BXx0 := BX.c0
  have BXx1 := BX.c1
  have BYx0 := BY.c0
  have BYx1 := BY.c1
  have BZx0 := BZ.c0
  have BZx1 := BZ.c1
  by_cases k1 : i < n.length
  ·have d1 : decide ((i : Int) < (n.length : Int)) = true := decide_eq_true (by omega)
   have hA := A.out.2
   rw [drop_rd n i k1, mvN_cons] at hA
   have k2 : (i : Int) < (n.length : Int) := by omega
   obtain ⟨ad, ead, hx⟩ := Kd.at_int R4.at_ (i : Int) (by omega) k2
   cases ead
   rw [Int.toNat_natCast] at hx
   have HK1 := Aside0.mk k1
   have q1 := eq_true k2
   clear k1 k2
   go_upto_region 12 with fail
   by_cases e1 : rd n i < 0
   ·have d2 : decide (rd n i < 0) = true := decide_eq_true e1
    rw [if_pos (.inl e1)] at hA
    have HA2 := Aside0.mk hA
    clear hA e1
    as_aux_lemma =>
     go_wp2
     repeat (go_quiet (fail); try go_wp2)
     go_ret
     have hr := HR_.out
     rw [← HA2.out, if_neg (by decide)] at hr
     exact ⟨by rw [← hr]; rfl, (SB.step (by repeat (first | exact Below.refl _ _ | apply wN | apply below_drew | apply wA))).get⟩
   ·have d2 : decide (rd n i < 0) = false := decide_eq_false e1
    by_cases e2 : rd n i ≥ b0.length
    ·have d3 : decide ((b0.length : Int) ≤ rd n i) = true := decide_eq_true e2
     rw [if_pos (.inr e2)] at hA
     have HA2 := Aside0.mk hA
     clear hA e1 e2
     as_aux_lemma =>
      go_wp2
      repeat (go_quiet (fail); try go_wp2)
      go_ret
      have hr := HR_.out
      rw [← HA2.out, if_neg (by decide)] at hr
      exact ⟨by rw [← hr]; rfl, (SB.step (by repeat (first | exact Below.refl _ _ | apply wN | apply below_drew | apply wA))).get⟩
    ·have d3 : decide ((b0.length : Int) ≤ rd n i) = false := decide_eq_false e2
     rw [if_neg (by omega)] at hA
     have f1 : 0 ≤ rd n i := by omega
     have f2 : rd n i < (b0.length : Int) := by omega
     have f3 : (i : Int) < (a0.length : Int) := by have := HN_.out; have := HK1.out; omega
     obtain ⟨ae, eae, hy⟩ := Kd.at_int R2.at_ (rd n i) f1 f2
     cases eae
     obtain ⟨af, eaf, hz⟩ := Kd.at_int R0.at_ (i : Int) (by omega) f3
     cases eaf
     rw [Int.toNat_natCast] at hz
     clear e1 e2
     replace f1 := eq_true f1
     replace f2 := eq_true f2
     replace f3 := eq_true f3
     by_cases e3 : rd b0 (rd n i) = rd a0 i
     ·have d4 : (rd b0 (rd n i) != rd a0 i) = false := bne_eq_false_iff_eq.mpr e3
      rw [if_neg (fun h => h e3)] at hA
      have HA2 := Aside0.mk hA
      clear hA e3
      as_aux_lemma =>
       go_wp2
       repeat (go_quiet (fail); try go_wp2)
       go_roundg (gk - 1)
       case measure => have h1 := A.out; have h2 := HK1.out; omega
       case rel =>
        have h1 := A.out
        have h2 := HK1.out
        have h3 := HL_.out
        exact ⟨i + 1, by rw [show wrap64 ((i : Int) + 1) = ((i + 1 : Nat) : Int) from by unfold wrap64; omega], ⟨by omega, HA2.out⟩, R0.below (by repeat (first | exact Below.refl _ _ | apply wN | apply below_drew | apply wA)), R1.below (by repeat (first | exact Below.refl _ _ | apply wN | apply below_drew | apply wA)), R2.below (by repeat (first | exact Below.refl _ _ | apply wN | apply below_drew | apply wA)), R3.below (by repeat (first | exact Below.refl _ _ | apply wN | apply below_drew | apply wA)), R4.below (by repeat (first | exact Below.refl _ _ | apply wN | apply below_drew | apply wA)), R5.below (by repeat (first | exact Below.refl _ _ | apply wN | apply below_drew | apply wA)), BX.below (by repeat (first | exact Below.refl _ _ | apply wN | apply below_drew | apply wA)), BY.below (by repeat (first | exact Below.refl _ _ | apply wN | apply below_drew | apply wA)), BZ.below (by repeat (first | exact Below.refl _ _ | apply wN | apply below_drew | apply wA)), SB.step (by repeat (first | exact Below.refl _ _ | apply wN | apply below_drew | apply wA))⟩
     ·have d4 : (rd b0 (rd n i) != rd a0 i) = true := bne_iff_ne.mpr e3
      rw [if_pos e3] at hA
      have HA2 := Aside0.mk hA
      clear hA e3
      as_aux_lemma =>
       go_wp2
       repeat (go_quiet (fail); try go_wp2)
       go_ret
       have hr := HR_.out
       rw [← HA2.out, if_neg (by decide)] at hr
       exact ⟨by rw [← hr]; rfl, (SB.step (by repeat (first | exact Below.refl _ _ | apply wN | apply below_drew | apply wA))).get⟩
  ·have d1 : decide ((i : Int) < (n.length : Int)) = false := decide_eq_false (by omega)
   have q1 : ((i : Int) < (n.length : Int)) = False := eq_false (by omega)
   have hA := A.out.2
   rw [List.drop_of_length_le (by omega)] at hA
   have hr := HR_.out
   rw [← hA, show mvN a0 b0 i [] = 0 from rfl, if_pos rfl] at hr
   have HR2 := Aside0.mk hr
   clear hr hA k1
   go_wp2
   go_loopg [73] m.length (fun kq v73 w' => ∃ i : Nat, v73 = .int .i64 i ∧ Aside0 (i + kq = m.length ∧ mvE a1 b1 n i (m.drop i) = mvE a1 b1 n 0 m) ∧ Row (Kd.int .i64) w' A0 c0 a0 ∧ Row k94 w' A1 c1 a1 ∧ Row (Kd.int .i64) w' A2 c2 b0 ∧ Row k94 w' A3 c3 b1 ∧ Row (Kd.int .i64) w' A4 c4 n ∧ Row (Kd.int .i64) w' A5 c5 m ∧ Box2 w' w.heap.size 25 (.slice A0 a0.length c0) (.slice A1 a1.length c1) ∧ Box2 w' (w.heap.size + 1) 25 (.slice A2 b0.length c2) (.slice A3 b1.length c3) ∧ Box2 w' (w.heap.size + 2) 27 (.slice A4 n.length c4) (.slice A5 m.length c5) ∧ Since w w')
   case atStart => exact ⟨0, rfl, ⟨by omega, rfl⟩, R0, R1, R2, R3, R4, R5, BX, BY, BZ, SB⟩
   case round =>
    clear A R0 R1 R2 R3 R4 R5 BX BY BZ SB
    obtain ⟨i, rfl, A, R0, R1, R2, R3, R4, R5, BX, BY, BZ, SB⟩ := hrel
    have BXx0 := BX.c0
    have BXx1 := BX.c1
    have BYx0 := BY.c0
    have BYx1 := BY.c1
    have BZx0 := BZ.c0
    have BZx1 := BZ.c1
    by_cases k1 : i < m.length
    ·have d1 : decide ((i : Int) < (m.length : Int)) = true := decide_eq_true (by omega)
     have hA := A.out.2
     rw [drop_rd m i k1, mvE_cons] at hA
     have k2 : (i : Int) < (m.length : Int) := by omega
     obtain ⟨ad, ead, hx⟩ := Kd.at_int R5.at_ (i : Int) (by omega) k2
     cases ead
     rw [Int.toNat_natCast] at hx
     have HK1 := Aside0.mk k1
     have q1 := eq_true k2
     clear k1 k2
     go_upto_region 20 with fail
     by_cases e1 : rd m i < 0
     ·have d2 : decide (rd m i < 0) = true := decide_eq_true e1
      rw [if_pos (.inl e1)] at hA
      have HA2 := Aside0.mk hA
      clear hA e1
      as_aux_lemma =>
       go_wp2
       repeat (go_quiet (fail); try go_wp2)
       go_ret
       have hr := HR2.out
       rw [← HA2.out] at hr
       exact ⟨by rw [← hr]; rfl, (SB.step (by repeat (first | exact Below.refl _ _ | apply wN | apply below_drew | apply wA))).get⟩
     ·have d2 : decide (rd m i < 0) = false := decide_eq_false e1
      by_cases e2 : rd m i ≥ b1.length
      ·have d3 : decide ((b1.length : Int) ≤ rd m i) = true := decide_eq_true e2
       rw [if_pos (.inr e2)] at hA
       have HA2 := Aside0.mk hA
       clear hA e1 e2
       as_aux_lemma =>
        go_wp2
        repeat (go_quiet (fail); try go_wp2)
        go_ret
        have hr := HR2.out
        rw [← HA2.out] at hr
        exact ⟨by rw [← hr]; rfl, (SB.step (by repeat (first | exact Below.refl _ _ | apply wN | apply below_drew | apply wA))).get⟩
      ·have d3 : decide ((b1.length : Int) ≤ rd m i) = false := decide_eq_false e2
       rw [if_neg (by omega)] at hA
       have f1 : 0 ≤ rd m i := by omega
       have f2 : rd m i < (b1.length : Int) := by omega
       have f3 : (i : Int) < (a1.length : Int) := by have := HM_.out; have := HK1.out; omega
       obtain ⟨ae, eae, hy0, hy1, hy2⟩ := at_T94 R3.at_ (rd m i) f1 f2
       cases eae
       obtain ⟨af, eaf, hz0, hz1, hz2⟩ := at_T94 R1.at_ (i : Int) (by omega) f3
       cases eaf
       rw [Int.toNat_natCast] at hz0 hz1 hz2
       clear e1 e2
       replace f1 := eq_true f1
       replace f2 := eq_true f2
       replace f3 := eq_true f3
       have HA1 := Aside0.mk hA
       clear hA
       go_upto_region 23 with fail
       have BXx0_1 := fun o => cell_alloc BXx0 o
       have BXx0_2 := fun o o' => cell_alloc (cell_alloc BXx0 o) o'
       have BXx1_1 := fun o => cell_alloc BXx1 o
       have BXx1_2 := fun o o' => cell_alloc (cell_alloc BXx1 o) o'
       have BYx0_1 := fun o => cell_alloc BYx0 o
       have BYx0_2 := fun o o' => cell_alloc (cell_alloc BYx0 o) o'
       have BYx1_1 := fun o => cell_alloc BYx1 o
       have BYx1_2 := fun o o' => cell_alloc (cell_alloc BYx1 o) o'
       have BZx0_1 := fun o => cell_alloc BZx0 o
       have BZx0_2 := fun o o' => cell_alloc (cell_alloc BZx0 o) o'
       have BZx1_1 := fun o => cell_alloc BZx1 o
       have BZx1_2 := fun o o' => cell_alloc (cell_alloc BZx1 o) o'
       have hy0_1 := fun o => cell_alloc hy0 o
       have hy0_2 := fun o o' => cell_alloc (cell_alloc hy0 o) o'
       have hy1_1 := fun o => cell_alloc hy1 o
       have hy1_2 := fun o o' => cell_alloc (cell_alloc hy1 o) o'
       have hy2_1 := fun o => cell_alloc hy2 o
       have hy2_2 := fun o o' => cell_alloc (cell_alloc hy2 o) o'
       have hz0_1 := fun o => cell_alloc hz0 o
       have hz0_2 := fun o o' => cell_alloc (cell_alloc hz0 o) o'
       have hz1_1 := fun o => cell_alloc hz1 o
       have hz1_2 := fun o o' => cell_alloc (cell_alloc hz1 o) o'
       have hz2_1 := fun o => cell_alloc hz2 o
       have hz2_2 := fun o o' => cell_alloc (cell_alloc hz2 o) o'
       go_region
       ·as_aux_lemma =>
         obtain ⟨BU, BV, hb⟩ := duo3_new wr (.int .i64 (rd_T94 a1 i).f0) (.int .i64 (rd_T94 a1 i).f1) (.int .i64 (rd_T94 a1 i).f2) 94 (.int .i64 (rd_T94 b1 (rd m i)).f0) (.int .i64 (rd_T94 b1 (rd m i)).f1) (.int .i64 (rd_T94 b1 (rd m i)).f2) 94
         replace R0 := R0.below hb
         replace R1 := R1.below hb
         replace R2 := R2.below hb
         replace R3 := R3.below hb
         replace R4 := R4.below hb
         replace R5 := R5.below hb
         replace BX := BX.below hb
         replace BY := BY.below hb
         replace BZ := BZ.below hb
         replace SB := SB.step hb
         generalize hw : ((wr.alloc (.cells #[(.int .i64 (rd_T94 a1 i).f0), (.int .i64 (rd_T94 a1 i).f1), (.int .i64 (rd_T94 a1 i).f2)] 94)).alloc (.cells #[(.int .i64 (rd_T94 b1 (rd m i)).f0), (.int .i64 (rd_T94 b1 (rd m i)).f1), (.int .i64 (rd_T94 b1 (rd m i)).f2)] 94)).drew = wx at *
         clear hw
         have BXx0 := BX.c0
         have BXx1 := BX.c1
         have BYx0 := BY.c0
         have BYx1 := BY.c1
         have BZx0 := BZ.c0
         have BZx1 := BZ.c1
         have BUx0 := BU.c0
         have BUx1 := BU.c1
         have BUx2 := BU.c2
         have BVx0 := BV.c0
         have BVx1 := BV.c1
         have BVx2 := BV.c2
         have hA := HA1.out
         obtain ⟨-, -, hok⟩ := Pl.okE_of HV_.out
         have hmem : rd_T94 a1 i ∈ a1 := by
          have h3 := of_eq_true f3
          unfold rd_T94
          rw [Int.toNat_natCast, List.getD_eq_getElem?_getD, List.getElem?_eq_getElem (by omega)]
          exact List.getElem_mem _
         have hends := hok _ hmem
         unfold Pl.okE at hends
         obtain ⟨⟨g1, g2⟩, g3, g4⟩ := hends
         rw [← HN_.out] at g2 g4
         clear hmem hok
         by_cases e4 : (rd_T94 a1 i).f0 = (rd_T94 b1 (rd m i)).f0
         rotate_left
         ·have d4 : ((rd_T94 a1 i).f0 != (rd_T94 b1 (rd m i)).f0) = true := bne_iff_ne.mpr e4
          rw [if_pos e4] at hA
          have HA2 := Aside0.mk hA
          clear hA e4
          as_aux_lemma =>
           go_wp2
           repeat (go_quiet (fail); try go_wp2)
           go_ret
           have hr := HR2.out
           rw [← HA2.out] at hr
           exact ⟨by rw [← hr]; rfl, (SB.step (by repeat (first | exact Below.refl _ _ | apply wN | apply below_drew | apply wA))).get⟩
         have d4 : ((rd_T94 a1 i).f0 != (rd_T94 b1 (rd m i)).f0) = false := bne_eq_false_iff_eq.mpr e4
         rw [if_neg (fun h => h e4)] at hA
         obtain ⟨ag, eag, hn1⟩ := Kd.at_int R4.at_ _ g1 g2
         cases eag
         obtain ⟨ah, eah, hn2⟩ := Kd.at_int R4.at_ _ g3 g4
         cases eah
         replace g1 := eq_true g1
         replace g2 := eq_true g2
         replace g3 := eq_true g3
         replace g4 := eq_true g4
         clear e4
         by_cases e5 : rd n (rd_T94 a1 i).f1 = (rd_T94 b1 (rd m i)).f1
         rotate_left
         ·have d5 : (rd n (rd_T94 a1 i).f1 != (rd_T94 b1 (rd m i)).f1) = true := bne_iff_ne.mpr e5
          rw [if_pos (.inl e5)] at hA
          have HA2 := Aside0.mk hA
          clear hA e5
          as_aux_lemma =>
           go_wp2
           repeat (go_quiet (fail); try go_wp2)
           go_ret
           have hr := HR2.out
           rw [← HA2.out] at hr
           exact ⟨by rw [← hr]; rfl, (SB.step (by repeat (first | exact Below.refl _ _ | apply wN | apply below_drew | apply wA))).get⟩
         have d5 : (rd n (rd_T94 a1 i).f1 != (rd_T94 b1 (rd m i)).f1) = false := bne_eq_false_iff_eq.mpr e5
         by_cases e6 : rd n (rd_T94 a1 i).f2 = (rd_T94 b1 (rd m i)).f2
         rotate_left
         ·have d6 : (rd n (rd_T94 a1 i).f2 != (rd_T94 b1 (rd m i)).f2) = true := bne_iff_ne.mpr e6
          rw [if_pos (.inr e6)] at hA
          have HA2 := Aside0.mk hA
          clear hA e5 e6
          as_aux_lemma =>
           go_wp2
           repeat (go_quiet (fail); try go_wp2)
           go_ret
           have hr := HR2.out
           rw [← HA2.out] at hr
           exact ⟨by rw [← hr]; rfl, (SB.step (by repeat (first | exact Below.refl _ _ | apply wN | apply below_drew | apply wA))).get⟩
         have d6 : (rd n (rd_T94 a1 i).f2 != (rd_T94 b1 (rd m i)).f2) = false := bne_eq_false_iff_eq.mpr e6
         rw [if_neg (fun h => h.elim (fun h => h e5) (fun h => h e6))] at hA
         have HA2 := Aside0.mk hA
         clear hA e5 e6
         as_aux_lemma =>
          go_wp2
          repeat (go_quiet (fail); try go_wp2)
          go_roundg (gk - 1)
          case measure => have h1 := A.out; have h2 := HK1.out; omega
          case rel =>
           have h1 := A.out
           have h2 := HK1.out
           have h3 := HL_.out
           exact ⟨i + 1, by rw [show wrap64 ((i : Int) + 1) = ((i + 1 : Nat) : Int) from by unfold wrap64; omega], ⟨by omega, HA2.out⟩, R0.below (by repeat (first | exact Below.refl _ _ | apply wN | apply below_drew | apply wA)), R1.below (by repeat (first | exact Below.refl _ _ | apply wN | apply below_drew | apply wA)), R2.below (by repeat (first | exact Below.refl _ _ | apply wN | apply below_drew | apply wA)), R3.below (by repeat (first | exact Below.refl _ _ | apply wN | apply below_drew | apply wA)), R4.below (by repeat (first | exact Below.refl _ _ | apply wN | apply below_drew | apply wA)), R5.below (by repeat (first | exact Below.refl _ _ | apply wN | apply below_drew | apply wA)), BX.below (by repeat (first | exact Below.refl _ _ | apply wN | apply below_drew | apply wA)), BY.below (by repeat (first | exact Below.refl _ _ | apply wN | apply below_drew | apply wA)), BZ.below (by repeat (first | exact Below.refl _ _ | apply wN | apply below_drew | apply wA)), SB.step (by repeat (first | exact Below.refl _ _ | apply wN | apply below_drew | apply wA))⟩
       ·as_aux_lemma =>
         obtain ⟨BV, BU, hb⟩ := duo3_new wr (.int .i64 (rd_T94 b1 (rd m i)).f0) (.int .i64 (rd_T94 b1 (rd m i)).f1) (.int .i64 (rd_T94 b1 (rd m i)).f2) 94 (.int .i64 (rd_T94 a1 i).f0) (.int .i64 (rd_T94 a1 i).f1) (.int .i64 (rd_T94 a1 i).f2) 94
         replace R0 := R0.below hb
         replace R1 := R1.below hb
         replace R2 := R2.below hb
         replace R3 := R3.below hb
         replace R4 := R4.below hb
         replace R5 := R5.below hb
         replace BX := BX.below hb
         replace BY := BY.below hb
         replace BZ := BZ.below hb
         replace SB := SB.step hb
         generalize hw : ((wr.alloc (.cells #[(.int .i64 (rd_T94 b1 (rd m i)).f0), (.int .i64 (rd_T94 b1 (rd m i)).f1), (.int .i64 (rd_T94 b1 (rd m i)).f2)] 94)).alloc (.cells #[(.int .i64 (rd_T94 a1 i).f0), (.int .i64 (rd_T94 a1 i).f1), (.int .i64 (rd_T94 a1 i).f2)] 94)).drew = wx at *
         clear hw
         have BXx0 := BX.c0
         have BXx1 := BX.c1
         have BYx0 := BY.c0
         have BYx1 := BY.c1
         have BZx0 := BZ.c0
         have BZx1 := BZ.c1
         have BUx0 := BU.c0
         have BUx1 := BU.c1
         have BUx2 := BU.c2
         have BVx0 := BV.c0
         have BVx1 := BV.c1
         have BVx2 := BV.c2
         have hA := HA1.out
         obtain ⟨-, -, hok⟩ := Pl.okE_of HV_.out
         have hmem : rd_T94 a1 i ∈ a1 := by
          have h3 := of_eq_true f3
          unfold rd_T94
          rw [Int.toNat_natCast, List.getD_eq_getElem?_getD, List.getElem?_eq_getElem (by omega)]
          exact List.getElem_mem _
         have hends := hok _ hmem
         unfold Pl.okE at hends
         obtain ⟨⟨g1, g2⟩, g3, g4⟩ := hends
         rw [← HN_.out] at g2 g4
         clear hmem hok
         by_cases e4 : (rd_T94 a1 i).f0 = (rd_T94 b1 (rd m i)).f0
         rotate_left
         ·have d4 : ((rd_T94 a1 i).f0 != (rd_T94 b1 (rd m i)).f0) = true := bne_iff_ne.mpr e4
          rw [if_pos e4] at hA
          have HA2 := Aside0.mk hA
          clear hA e4
          as_aux_lemma =>
           go_wp2
           repeat (go_quiet (fail); try go_wp2)
           go_ret
           have hr := HR2.out
           rw [← HA2.out] at hr
           exact ⟨by rw [← hr]; rfl, (SB.step (by repeat (first | exact Below.refl _ _ | apply wN | apply below_drew | apply wA))).get⟩
         have d4 : ((rd_T94 a1 i).f0 != (rd_T94 b1 (rd m i)).f0) = false := bne_eq_false_iff_eq.mpr e4
         rw [if_neg (fun h => h e4)] at hA
         obtain ⟨ag, eag, hn1⟩ := Kd.at_int R4.at_ _ g1 g2
         cases eag
         obtain ⟨ah, eah, hn2⟩ := Kd.at_int R4.at_ _ g3 g4
         cases eah
         replace g1 := eq_true g1
         replace g2 := eq_true g2
         replace g3 := eq_true g3
         replace g4 := eq_true g4
         clear e4
         by_cases e5 : rd n (rd_T94 a1 i).f1 = (rd_T94 b1 (rd m i)).f1
         rotate_left
         ·have d5 : (rd n (rd_T94 a1 i).f1 != (rd_T94 b1 (rd m i)).f1) = true := bne_iff_ne.mpr e5
          rw [if_pos (.inl e5)] at hA
          have HA2 := Aside0.mk hA
          clear hA e5
          as_aux_lemma =>
           go_wp2
           repeat (go_quiet (fail); try go_wp2)
           go_ret
           have hr := HR2.out
           rw [← HA2.out] at hr
           exact ⟨by rw [← hr]; rfl, (SB.step (by repeat (first | exact Below.refl _ _ | apply wN | apply below_drew | apply wA))).get⟩
         have d5 : (rd n (rd_T94 a1 i).f1 != (rd_T94 b1 (rd m i)).f1) = false := bne_eq_false_iff_eq.mpr e5
         by_cases e6 : rd n (rd_T94 a1 i).f2 = (rd_T94 b1 (rd m i)).f2
         rotate_left
         ·have d6 : (rd n (rd_T94 a1 i).f2 != (rd_T94 b1 (rd m i)).f2) = true := bne_iff_ne.mpr e6
          rw [if_pos (.inr e6)] at hA
          have HA2 := Aside0.mk hA
          clear hA e5 e6
          as_aux_lemma =>
           go_wp2
           repeat (go_quiet (fail); try go_wp2)
           go_ret
           have hr := HR2.out
           rw [← HA2.out] at hr
           exact ⟨by rw [← hr]; rfl, (SB.step (by repeat (first | exact Below.refl _ _ | apply wN | apply below_drew | apply wA))).get⟩
         have d6 : (rd n (rd_T94 a1 i).f2 != (rd_T94 b1 (rd m i)).f2) = false := bne_eq_false_iff_eq.mpr e6
         rw [if_neg (fun h => h.elim (fun h => h e5) (fun h => h e6))] at hA
         have HA2 := Aside0.mk hA
         clear hA e5 e6
         as_aux_lemma =>
          go_wp2
          repeat (go_quiet (fail); try go_wp2)
          go_roundg (gk - 1)
          case measure => have h1 := A.out; have h2 := HK1.out; omega
          case rel =>
           have h1 := A.out
           have h2 := HK1.out
           have h3 := HL_.out
           exact ⟨i + 1, by rw [show wrap64 ((i : Int) + 1) = ((i + 1 : Nat) : Int) from by unfold wrap64; omega], ⟨by omega, HA2.out⟩, R0.below (by repeat (first | exact Below.refl _ _ | apply wN | apply below_drew | apply wA)), R1.below (by repeat (first | exact Below.refl _ _ | apply wN | apply below_drew | apply wA)), R2.below (by repeat (first | exact Below.refl _ _ | apply wN | apply below_drew | apply wA)), R3.below (by repeat (first | exact Below.refl _ _ | apply wN | apply below_drew | apply wA)), R4.below (by repeat (first | exact Below.refl _ _ | apply wN | apply below_drew | apply wA)), R5.below (by repeat (first | exact Below.refl _ _ | apply wN | apply below_drew | apply wA)), BX.below (by repeat (first | exact Below.refl _ _ | apply wN | apply below_drew | apply wA)), BY.below (by repeat (first | exact Below.refl _ _ | apply wN | apply below_drew | apply wA)), BZ.below (by repeat (first | exact Below.refl _ _ | apply wN | apply below_drew | apply wA)), SB.step (by repeat (first | exact Below.refl _ _ | apply wN | apply below_drew | apply wA))⟩
    ·have d1 : decide ((i : Int) < (m.length : Int)) = false := decide_eq_false (by omega)
     have q1 : ((i : Int) < (m.length : Int)) = False := eq_false (by omega)
     have hA := A.out.2
     rw [List.drop_of_length_le (by omega)] at hA
     have hr := HR2.out
     rw [← hA] at hr
     have HR3 := Aside0.mk hr
     clear hr hA k1
     go_wp2
     go_ret
     exact ⟨by rw [← HR3.out]; rfl, SB.get⟩
theorem mvalid_calls (A0 : Option Addr) (c0 : Nat) (a0 : List Int) (A1 : Option Addr) (c1 : Nat) (a1 : List S94) (A2 : Option Addr) (c2 : Nat) (b0 : List Int) (A3 : Option Addr) (c3 : Nat) (b1 : List S94) (A4 : Option Addr) (c4 : Nat) (n : List Int) (A5 : Option Addr) (c5 : Nat) (m : List Int) (w : World) (R0 : Row (Kd.int .i64) w A0 c0 a0) (R1 : Row k94 w A1 c1 a1) (R2 : Row (Kd.int .i64) w A2 c2 b0) (R3 : Row k94 w A3 c3 b1) (R4 : Row (Kd.int .i64) w A4 c4 n) (R5 : Row (Kd.int .i64) w A5 c5 m) :
  Calls Try.prog 42 #[.agg #[.slice A0 a0.length c0, .slice A1 a1.length c1], .agg #[.slice A2 b0.length c2, .slice A3 b1.length c3], .agg #[.slice A4 n.length c4, .slice A5 m.length c5]] w fun e w' => e = .returned (.int .i64 (mvalid a0 a1 b0 b1 n m)) ∧ Below w.heap.size w w' := by
 unfold mvalid
 by_cases hv : validE a0 a1 = 0
 ·rw [if_pos hv]
  by_cases hu : validE b0 b1 = 0
  ·rw [if_pos hu]
   by_cases hn : n.length ≠ a0.length ∨ m.length ≠ a1.length
   ·rw [if_pos hn]
    exact mvalid_c A0 c0 a0 A1 c1 a1 A2 c2 b0 A3 c3 b1 A4 c4 n A5 c5 m w R0 R1 R2 R3 R4 R5 hv hu hn
   ·rw [if_neg hn]
    have hn0 : n.length = a0.length := by omega
    have hm0 : m.length = a1.length := by omega
    obtain ⟨h1, h2, -⟩ := Pl.okE_of hv
    exact mvalid_d A0 c0 a0 A1 c1 a1 A2 c2 b0 A3 c3 b1 A4 c4 n A5 c5 m w R0 R1 R2 R3 R4 R5 hv hu hn0 hm0 ⟨by omega, by omega⟩ _ rfl
  ·rw [if_neg hu]
   exact mvalid_b A0 c0 a0 A1 c1 a1 A2 c2 b0 A3 c3 b1 A4 c4 n A5 c5 m w R0 R1 R2 R3 R4 R5 hv hu
 ·rw [if_neg hv]
  exact mvalid_a A0 c0 a0 A1 c1 a1 A2 c2 b0 A3 c3 b1 A4 c4 n A5 c5 m w R0 R1 R2 R3 R4 R5 hv
def morphism_Valid.f (l0_0 : List Int) (l0_1 : List (S94)) (l1_0 : List Int) (l1_1 : List (S94)) (l2_0 : List Int) (l2_1 : List Int) : Option (Int) := some (mvalid l0_0 l0_1 l1_0 l1_1 l2_0 l2_1)
theorem morphism_Valid.calls (A0_0 : Option Addr) (c0_0 : Nat) (l0_0 : List Int) (A0_1 : Option Addr) (c0_1 : Nat) (l0_1 : List (S94)) (A1_0 : Option Addr) (c1_0 : Nat) (l1_0 : List Int) (A1_1 : Option Addr) (c1_1 : Nat) (l1_1 : List (S94)) (A2_0 : Option Addr) (c2_0 : Nat) (l2_0 : List Int) (A2_1 : Option Addr) (c2_1 : Nat) (l2_1 : List Int) (r : Int) (w : World) (hr0_0 : Kd.C (Kd.int .i64) w A0_0 l0_0.length l0_0) (hc0_0 : l0_0.length ≤ c0_0) (hr0_1 : Kd.C k94 w A0_1 l0_1.length l0_1) (hc0_1 : l0_1.length ≤ c0_1) (hr1_0 : Kd.C (Kd.int .i64) w A1_0 l1_0.length l1_0) (hc1_0 : l1_0.length ≤ c1_0) (hr1_1 : Kd.C k94 w A1_1 l1_1.length l1_1) (hc1_1 : l1_1.length ≤ c1_1) (hr2_0 : Kd.C (Kd.int .i64) w A2_0 l2_0.length l2_0) (hc2_0 : l2_0.length ≤ c2_0) (hr2_1 : Kd.C (Kd.int .i64) w A2_1 l2_1.length l2_1) (hc2_1 : l2_1.length ≤ c2_1) (h : morphism_Valid.f l0_0 l0_1 l1_0 l1_1 l2_0 l2_1 = some r) :
  Calls Try.prog 42 #[.agg #[.slice A0_0 l0_0.length c0_0, .slice A0_1 l0_1.length c0_1], .agg #[.slice A1_0 l1_0.length c1_0, .slice A1_1 l1_1.length c1_1], .agg #[.slice A2_0 l2_0.length c2_0, .slice A2_1 l2_1.length c2_1]] w fun e w' => e = .returned (.int .i64 r) ∧ Below w.heap.size w w' := by
 cases h
 exact mvalid_calls A0_0 c0_0 l0_0 A0_1 c0_1 l0_1 A1_0 c1_0 l1_0 A1_1 c1_1 l1_1 A2_0 c2_0 l2_0 A2_1 c2_1 l2_1 w ⟨hc0_0, hr0_0⟩ ⟨hc0_1, hr0_1⟩ ⟨hc1_0, hr1_0⟩ ⟨hc1_1, hr1_1⟩ ⟨hc2_0, hr2_0⟩ ⟨hc2_1, hr2_1⟩
end Go.Proofs.Ytillofiphkmjjaa.X

namespace Go.Proofs.Ytillofiphkmjjaa.X
open Go.RowKit Go.Proofs.YtillofiphkmjjaaW.PrintWords Go.Proofs.YtillofiphkmjjaaW.PrintLast Go.Proofs.YtillofiphkmjjaaW.PrintMore
attribute [local go_sem] max2_int min2_int max_two min_two max_three min_three max_four min_four
set_option linter.unusedVariables false
set_option linter.unusedSimpArgs false
theorem eqA79 (d : Nat) (w : World) (x0 y0 : Int) (x1 y1 : Int) :
  (Op.equalIn (d + 2) 79 (.agg #[.int .i64 x0, .int .i64 x1]) (.agg #[.int .i64 y0, .int .i64 y1])).run Try.prog w = .ok (x0 == y0 && (x1 == y1)) w := by
 refine eqA_of Try.underlying79 (by kernel_rfl) ?_
 refine eqf_cons (by rfl) (by go_simp; rfl) (by go_simp; rfl) (by go_simp) ?_
 exact eqf_last (by rfl) (by go_simp; rfl) (by go_simp; rfl) (by go_simp)
end Go.Proofs.Ytillofiphkmjjaa.X

namespace Go.Proofs.Ytillofiphkmjjaa.X
open Go.RowKit Go.Proofs.YtillofiphkmjjaaW.PrintWords Go.Proofs.YtillofiphkmjjaaW.PrintLast Go.Proofs.YtillofiphkmjjaaW.PrintMore
open Go.Proofs.YtillofiphkmjjaaW.PrintWords renaming blk_drewN → bN, blk_drew → bD, blk_alloc → bA, below_alloc → wA, pw_below_drewN → wN, below_drew1 → wD, blk_below → bB, below_step → wS, blk_at → bT, blk_grown → bG
open Go.Proofs.YtillofiphkmjjaaW.PrintWords.Kd renaming R_alloc → rA, R_drewN → rN, R_drew → rD, R_below → rB, R_grown → rG, C_below → cB, C_alloc → cA, C_drewN → cN, C_drew → cD
attribute [local go_sem] max2_int min2_int max_two min_two max_three min_three max_four min_four
set_option linter.unusedVariables false
set_option linter.unusedSimpArgs false
attribute [local go_sem high] eqA79
/-! ### api_Pair_73: function 73 -/
def api_Pair_73.l0 : Nat → List (S79) → Int → Int → Int → Int → Option (Int)
 | 0, _, _, _, _, _ => none
 | k + 1, x0, x7, x8, x102000, x102001 => if x8 < x7 then (if 0 ≤ x8 then (if x8 < (x0.length : Int) then (if (x102000 == ((rd_T79 x0 x8).f0) && (x102001 == ((rd_T79 x0 x8).f1))) = true then (some x8) else (api_Pair_73.l0 k x0 x7 (wrap64 (x8 + 1)) x102000 x102001)) else (none)) else (none)) else (some (-1))
def api_Pair_73.f (k : Nat) (l0 : List (S79)) (a1_0 : Int) (a1_1 : Int) : Option (Int) := api_Pair_73.l0 k l0 (l0.length : Int) 0 a1_0 a1_1
theorem api_Pair_73.mono_l : ∀ k, (∀ y0 y1 y2 y3 y4, LeO (api_Pair_73.l0 k y0 y1 y2 y3 y4) (api_Pair_73.l0 (k + 1) y0 y1 y2 y3 y4))
 | 0 => fun _ _ _ _ _ r h => by simp [api_Pair_73.l0] at h
 | k + 1 => by
  have ih0 := api_Pair_73.mono_l k
  ·intro y0 y1 y2 y3 y4
   unfold api_Pair_73.l0
   repeat' first
   | (with_reducible exact ih0 _ _ _ _ _)
   | (with_reducible exact LeO.refl _)
   | (with_reducible exact LeO.none _)
   | (with_reducible refine LeO.ite ?_ ?_)
   | (with_reducible refine LeO.bind ?_ (fun _ => ?_))
   | exact ih0 _ _ _ _ _
   | exact LeO.none _
   | refine LeO.ite ?_ ?_
   | refine LeO.bind ?_ (fun _ => ?_)
theorem api_Pair_73.mono : ∀ a0 a1 a2 k, LeO (api_Pair_73.f k a0 a1 a2) (api_Pair_73.f (k + 1) a0 a1 a2) := by
 intro a0 a1 a2 k
 have ih0 := api_Pair_73.mono_l k
 unfold api_Pair_73.f
 repeat' first
   | (with_reducible exact ih0 _ _ _ _ _)
   | (with_reducible exact LeO.refl _)
   | (with_reducible exact LeO.none _)
   | (with_reducible refine LeO.ite ?_ ?_)
   | (with_reducible refine LeO.bind ?_ (fun _ => ?_))
   | exact ih0 _ _ _ _ _
   | exact LeO.none _
   | refine LeO.ite ?_ ?_
   | refine LeO.bind ?_ (fun _ => ?_)
set_option maxHeartbeats 8000000 in
set_option maxRecDepth 100000 in
theorem api_Pair_73.calls (k : Nat) (A0 : Option Addr) (c0 : Nat) (l0 : List (S79)) (a1_0 : Int) (a1_1 : Int) (r : Int) (w : World) (hr0 : Kd.C k79 w A0 l0.length l0) (hc0 : l0.length ≤ c0) (h : api_Pair_73.f k l0 a1_0 a1_1 = some r) :
  Calls Try.prog 73 #[.slice A0 l0.length c0, .agg #[.int .i64 a1_0, .int .i64 a1_1]] w fun e w' => e = .returned (.int .i64 r) ∧ Below w.heap.size w w' := by
 have hu79 := Try.underlying79
 have HR0 := Aside0.mk hr0
 have HC0 := Aside0.mk hc0
 clear hr0 hc0
 have HB := Aside0.mk (Below.refl w.heap.size w)
 have H : (api_Pair_73.l0 k l0 (l0.length : Int) 0 a1_0 a1_1) = some r := h
 clear h
 have H' := Aside0.mk H
 clear H
 go_enter Try.func73, Try.ntmps73
 iterate 3 (try (go_wp2_with (first | ((with_reducible refine gate_dst (N := 3) rfl ?_); refine box_event ?hg (N := 3) ?hd (cs := #[.int .i64 a1_0, .int .i64 a1_1]) (t := 79) ?hr ?_; (case hd => rfl); (case hg => rfl); (case hr => first | (go_simp; done) | (go_simp; rfl)); intro Q01 hg w3 hbox hb; have Q00 := Aside0.mk (hbox); have Q03 := Aside0.mk ((by rw [hg]; exact (below_size hB) : w.heap.size ≤ Q01)); have Q02 := Aside0.mk ((by rw [hg]; exact (below_size hB) : w.heap.size ≤ Q01)); replace HB := uH HB hb; clear hb hbox hg))); try (go_quiet (fail)))
 go_loopg [8] k (fun kq v8 w' => ∃ (x8_1 : Int), v8 = .int .i64 x8_1 ∧ Aside0 (api_Pair_73.l0 kq l0 (l0.length : Int) x8_1 a1_0 a1_1 = some r) ∧ Aside0 (kq ≤ k) ∧ Aside0 (w'.heap[Q01]? = some (.cells #[.int .i64 a1_0, .int .i64 a1_1] 79 (0, 0))) ∧ Aside0 (Below w.heap.size w w'))
 case atStart => exact ⟨(0), rS, H', ⟨Nat.le_refl _⟩, ⟨pB Q00⟩, ⟨pH HB⟩⟩
 case round =>
  clear H'
  try clear p2
  obtain ⟨x8_1, rfl, HA, HK1, Q00, HB⟩ := hrel
  cases gk with
  | zero => exact absurd HA.out (by simp [api_Pair_73.l0])
  | succ k1 =>
   have H := HA.out
   clear HA
   simp only [api_Pair_73.l0] at H
   by_cases c4 : x8_1 < (l0.length : Int)
   ·rw [if_pos c4] at H
    have c4b0 : decide (x8_1 < (l0.length : Int)) = true := decide_eq_true c4
    clear c4
    by_cases c5 : 0 ≤ x8_1
    ·rw [if_pos c5] at H
     have c5b0 : decide (0 ≤ x8_1) = true := decide_eq_true c5
     clear c5
     by_cases c6 : x8_1 < (l0.length : Int)
     ·rw [if_pos c6] at H
      have c6b0 : decide (x8_1 < (l0.length : Int)) = true := decide_eq_true c6
      clear c6
      by_cases c7 : (a1_0 == ((rd_T79 l0 x8_1).f0) && (a1_1 == ((rd_T79 l0 x8_1).f1))) = true
      ·rw [if_pos c7] at H
       have c7b0 : (a1_0 == ((rd_T79 l0 x8_1).f0) && (a1_1 == ((rd_T79 l0 x8_1).f1))) = true := c7
       (try (have c7b1 : decide (a1_0 = ((rd_T79 l0 x8_1).f0) && (a1_1 == ((rd_T79 l0 x8_1).f1))) = true := by simpa using c7))
       (try (have c7b2 : (a1_0 == ((rd_T79 l0 x8_1).f0) && (a1_1 == ((rd_T79 l0 x8_1).f1))) = true := by simpa using c7))
       clear c7
       obtain rfl := Option.some.inj H
       have Q04 : wr.cell? ⟨Q01, 0, none⟩ = some (.int .i64 a1_0) := bC Q00 0
       have Q05 : wr.cell? ⟨Q01, 1, none⟩ = some (.int .i64 a1_1) := bC Q00 1
       have Q06 := blk_frozen Q00.out 0
       have Q07 := blk_frozen Q00.out 1
       have p102 : 0 ≤ (x8_1 : Int) := oT
       have q102 : x8_1 < (l0.length : Int) := oT
       obtain ⟨ad102, e102, hx102_0, hx102_1⟩ := at_T79 HR0.out x8_1 p102 q102
       cases e102
       replace hx102_0 := (HB.out.cell (World.block_lt_of_cell? w _ hx102_0)).trans hx102_0
       replace hx102_1 := (HB.out.cell (World.block_lt_of_cell? w _ hx102_1)).trans hx102_1
       replace p102 := eq_true p102
       replace q102 := eq_true q102
       go_wp2
       repeat (go_quiet (fail); try go_wp2)
       go_ret
       exact ⟨by first | rfl | (simp [errW_none, errW_some] <;> rfl) | (simp [*, errW_none, errW_some] <;> rfl), by repeat (first | (with_reducible first | exact HB.out | apply wA | apply wN | apply wD | refine below_set ?_ Q02.out) | exact HB.out)⟩
      ·rw [if_neg c7] at H
       have c7b0 : (a1_0 == ((rd_T79 l0 x8_1).f0) && (a1_1 == ((rd_T79 l0 x8_1).f1))) = false := by simpa using c7
       (try (have c7b1 : decide (a1_0 = ((rd_T79 l0 x8_1).f0) && (a1_1 == ((rd_T79 l0 x8_1).f1))) = false := by simpa using c7))
       (try (have c7b2 : (a1_0 == ((rd_T79 l0 x8_1).f0) && (a1_1 == ((rd_T79 l0 x8_1).f1))) = false := by simpa using c7))
       (try (have c7b3 : ¬ (a1_0 = ((rd_T79 l0 x8_1).f0) && (a1_1 == ((rd_T79 l0 x8_1).f1))) := by simpa using c7))
       clear c7
       have H' := Aside0.mk H
       clear H
       have Q08 : wr.cell? ⟨Q01, 0, none⟩ = some (.int .i64 a1_0) := bC Q00 0
       have Q09 : wr.cell? ⟨Q01, 1, none⟩ = some (.int .i64 a1_1) := bC Q00 1
       have Q0a := blk_frozen Q00.out 0
       have Q0b := blk_frozen Q00.out 1
       have p102 : 0 ≤ (x8_1 : Int) := oT
       have q102 : x8_1 < (l0.length : Int) := oT
       obtain ⟨ad102, e102, hx102_0, hx102_1⟩ := at_T79 HR0.out x8_1 p102 q102
       cases e102
       replace hx102_0 := (HB.out.cell (World.block_lt_of_cell? w _ hx102_0)).trans hx102_0
       replace hx102_1 := (HB.out.cell (World.block_lt_of_cell? w _ hx102_1)).trans hx102_1
       replace p102 := eq_true p102
       replace q102 := eq_true q102
       go_wp2
       repeat (go_quiet (fail); try go_wp2)
       go_roundg k1
       case measure => have := HK1.out; omega
       case rel => exact ⟨(wrap64 (x8_1 + 1)), rS, H', ⟨by have := HK1.out; omega⟩, ⟨pB Q00⟩, ⟨pH HB⟩⟩
     ·rw [if_neg c6] at H
      exact absurd H (by simp)
    ·rw [if_neg c5] at H
     exact absurd H (by simp)
   ·rw [if_neg c4] at H
    have c4b0 : decide (x8_1 < (l0.length : Int)) = false := decide_eq_false c4
    clear c4
    obtain rfl := Option.some.inj H
    go_wp2
    repeat (go_quiet (fail); try go_wp2)
    go_ret
    exact ⟨by first | rfl | (simp [errW_none, errW_some] <;> rfl) | (simp [*, errW_none, errW_some] <;> rfl), by repeat (first | (with_reducible first | exact HB.out | apply wA | apply wN | apply wD | refine below_set ?_ Q02.out) | exact HB.out)⟩
end Go.Proofs.Ytillofiphkmjjaa.X

/- Plain laws: what a valid morphism is; pairs and their places; the standard pullback. -/
namespace Go.Proofs.Ytillofiphkmjjaa.Pl
open Go.RowKit Go.Proofs.YtillofiphkmjjaaW.PrintWords Go.Proofs.Ytillofiphkmjjaa.X
set_option linter.unusedVariables false
theorem rd_cons_zero (x : Int) (r : List Int) : rd (x :: r) ((0 : Nat) : Int) = x := rfl
theorem rd_cons_succ (x : Int) (r : List Int) (j : Nat) : rd (x :: r) ((j + 1 : Nat) : Int) = rd r (j : Int) := by
 unfold rd
 rw [Int.toNat_natCast, Int.toNat_natCast]
 rfl
theorem rd_get (l : List Int) (j : Nat) (h : j < l.length) : rd l (j : Int) = l[j] := by
 unfold rd
 rw [Int.toNat_natCast, List.getD_eq_getElem?_getD, List.getElem?_eq_getElem h]
 rfl
theorem rd79_get (l : List S79) (j : Nat) (h : j < l.length) : rd_T79 l (j : Int) = l[j] := by
 unfold rd_T79
 rw [Int.toNat_natCast, List.getD_eq_getElem?_getD, List.getElem?_eq_getElem h]
 rfl
theorem rd94_get (l : List S94) (j : Nat) (h : j < l.length) : rd_T94 l (j : Int) = l[j] := by
 unfold rd_T94
 rw [Int.toNat_natCast, List.getD_eq_getElem?_getD, List.getElem?_eq_getElem h]
 rfl
theorem validE_iff {a0 : List Int} {a1 : List S94} : validE a0 a1 = 0 ↔ a0.length ≤ 40 ∧ a1.length ≤ 80 ∧ (∀ t ∈ a0, kindB t = true) ∧ ∀ e ∈ a1, edgeB a0.length e = true := by
 unfold validE
 constructor
 ·intro h
  split at h
  ·exact absurd h (by decide)
  ·split at h
   ·exact absurd h (by decide)
   ·split at h
    ·exact absurd h (by decide)
    ·split at h
     ·exact absurd h (by decide)
     ·rename_i h1 h2 h3 h4
      refine ⟨by omega, by omega, fun t ht => ?_, fun e he => ?_⟩
      ·cases hb : kindB t
       ·exact absurd (List.any_eq_true.mpr ⟨t, ht, by rw [hb]; rfl⟩) h3
       ·rfl
      ·cases hb : edgeB a0.length e
       ·exact absurd (List.any_eq_true.mpr ⟨e, he, by rw [hb]; rfl⟩) h4
       ·rfl
 ·rintro ⟨h1, h2, h3, h4⟩
  rw [if_neg (by omega), if_neg (by omega), if_neg ?_, if_neg ?_]
  ·intro h
   obtain ⟨e, he, hb⟩ := List.any_eq_true.mp h
   rw [h4 e he] at hb
   exact absurd hb (by decide)
  ·intro h
   obtain ⟨t, ht, hb⟩ := List.any_eq_true.mp h
   rw [h3 t ht] at hb
   exact absurd hb (by decide)
def okN (a0 b0 n : List Int) : Prop := ∀ j : Nat, j < n.length → 0 ≤ rd n j ∧ rd n j < (b0.length : Int) ∧ rd b0 (rd n j) = rd a0 j
def okM (a1 b1 : List S94) (n m : List Int) : Prop := ∀ j : Nat, j < m.length → 0 ≤ rd m j ∧ rd m j < (b1.length : Int) ∧ (rd_T94 a1 j).f0 = (rd_T94 b1 (rd m j)).f0 ∧ rd n (rd_T94 a1 j).f1 = (rd_T94 b1 (rd m j)).f1 ∧ rd n (rd_T94 a1 j).f2 = (rd_T94 b1 (rd m j)).f2
theorem mvN_iff (a0 b0 : List Int) : ∀ (n : List Int) (i : Nat), mvN a0 b0 i n = 0 ↔ ∀ j : Nat, j < n.length → 0 ≤ rd n j ∧ rd n j < (b0.length : Int) ∧ rd b0 (rd n j) = rd a0 ((i + j : Nat) : Int) := by
 intro n
 induction n with
 | nil => intro i; simp [mvN]
 | cons k r ih =>
  intro i
  rw [mvN_cons]
  constructor
  ·intro h
   split at h
   ·exact absurd h (by decide)
   ·split at h
    ·exact absurd h (by decide)
    ·rename_i h1 h2
     intro j hj
     cases j with
     | zero =>
      rw [rd_cons_zero]
      refine ⟨by omega, by omega, ?_⟩
      have := Decidable.of_not_not h2
      simpa using this
     | succ j =>
      rw [rd_cons_succ]
      have e : (i : Int) + 1 = ((i + 1 : Nat) : Int) := by omega
      rw [e] at h
      have := (ih (i + 1)).mp h j (by simpa using hj)
      rw [show i + (j + 1) = i + 1 + j by omega]
      exact this
  ·intro h
   have h0 := h 0 (by simp)
   rw [rd_cons_zero] at h0
   rw [if_neg (by omega), if_neg (fun hh => hh (by simpa using h0.2.2))]
   have e : (i : Int) + 1 = ((i + 1 : Nat) : Int) := by omega
   rw [e]
   refine (ih (i + 1)).mpr (fun j hj => ?_)
   have := h (j + 1) (by simpa using hj)
   rw [rd_cons_succ, show i + (j + 1) = i + 1 + j by omega] at this
   exact this
theorem mvE_iff (a1 b1 : List S94) (n : List Int) : ∀ (m : List Int) (i : Nat), mvE a1 b1 n i m = 0 ↔ ∀ j : Nat, j < m.length → 0 ≤ rd m j ∧ rd m j < (b1.length : Int) ∧ (rd_T94 a1 ((i + j : Nat) : Int)).f0 = (rd_T94 b1 (rd m j)).f0 ∧ rd n (rd_T94 a1 ((i + j : Nat) : Int)).f1 = (rd_T94 b1 (rd m j)).f1 ∧ rd n (rd_T94 a1 ((i + j : Nat) : Int)).f2 = (rd_T94 b1 (rd m j)).f2 := by
 intro m
 induction m with
 | nil => intro i; simp [mvE]
 | cons k r ih =>
  intro i
  rw [mvE_cons]
  constructor
  ·intro h
   split at h
   ·exact absurd h (by decide)
   ·split at h
    ·exact absurd h (by decide)
    ·split at h
     ·exact absurd h (by decide)
     ·rename_i h1 h2 h3
      intro j hj
      cases j with
      | zero =>
       rw [rd_cons_zero, Nat.add_zero]
       exact ⟨by omega, by omega, Decidable.of_not_not h2, Decidable.of_not_not (fun h => h3 (.inl h)), Decidable.of_not_not (fun h => h3 (.inr h))⟩
      | succ j =>
       rw [rd_cons_succ]
       have e : (i : Int) + 1 = ((i + 1 : Nat) : Int) := by omega
       rw [e] at h
       have := (ih (i + 1)).mp h j (by simpa using hj)
       rw [show i + (j + 1) = i + 1 + j by omega]
       exact this
  ·intro h
   have h0 := h 0 (by simp)
   rw [rd_cons_zero, Nat.add_zero] at h0
   rw [if_neg (by omega), if_neg (fun hh => hh h0.2.2.1), if_neg (fun hh => hh.elim (fun h => h h0.2.2.2.1) (fun h => h h0.2.2.2.2))]
   have e : (i : Int) + 1 = ((i + 1 : Nat) : Int) := by omega
   rw [e]
   refine (ih (i + 1)).mpr (fun j hj => ?_)
   have := h (j + 1) (by simpa using hj)
   rw [rd_cons_succ, show i + (j + 1) = i + 1 + j by omega] at this
   exact this
theorem mvalid_iff {a0 : List Int} {a1 : List S94} {b0 : List Int} {b1 : List S94} {n m : List Int} : mvalid a0 a1 b0 b1 n m = 0 ↔ validE a0 a1 = 0 ∧ validE b0 b1 = 0 ∧ n.length = a0.length ∧ m.length = a1.length ∧ okN a0 b0 n ∧ okM a1 b1 n m := by
 have e1 := mvN_iff a0 b0 n 0
 have e2 := mvE_iff a1 b1 n m 0
 simp only [Nat.zero_add, Int.natCast_zero] at e1 e2
 unfold mvalid
 constructor
 ·intro h
  split at h
  ·rename_i h1
   split at h
   ·rename_i h2
    split at h
    ·exact absurd h (by decide)
    ·rename_i h3
     split at h
     ·rename_i h4
      exact ⟨h1, h2, by omega, by omega, e1.mp h4, e2.mp h⟩
     ·rename_i h4
      exact absurd h h4
   ·rename_i h2
    exact absurd h h2
  ·rename_i h1
   exact absurd h h1
 ·rintro ⟨h1, h2, h3, h4, h5, h6⟩
  rw [if_pos h1, if_pos h2, if_neg (by omega), if_pos (e1.mpr h5)]
  exact e2.mpr h6
/-! places of pairs -/
def plc : Int → List S79 → Int → Int → Int
 | _, [], _, _ => -1
 | i, p :: r, a, b => if p.f0 = a ∧ p.f1 = b then i else plc (i + 1) r a b
theorem plc_spec (a b : Int) : ∀ (l : List S79) (i : Int), (plc i l a b = -1 ∧ ∀ p ∈ l, ¬ (p.f0 = a ∧ p.f1 = b)) ∨ ∃ j : Nat, j < l.length ∧ plc i l a b = i + j ∧ (rd_T79 l j).f0 = a ∧ (rd_T79 l j).f1 = b := by
 intro l
 induction l with
 | nil => intro i; exact .inl ⟨rfl, by simp⟩
 | cons p r ih =>
  intro i
  unfold plc
  by_cases h : p.f0 = a ∧ p.f1 = b
  ·right
   exact ⟨0, by simp, by rw [if_pos h]; simp, h.1, h.2⟩
  ·rw [if_neg h]
   rcases ih (i + 1) with ⟨h1, h2⟩ | ⟨j, h1, h2, h3, h4⟩
   ·left
    refine ⟨h1, fun q hq => ?_⟩
    rcases List.mem_cons.mp hq with rfl | hq
    ·exact h
    ·exact h2 q hq
   ·right
    refine ⟨j + 1, by simpa using h1, by rw [h2]; omega, ?_, ?_⟩
    ·rw [rd79_get _ _ (by simpa using h1), List.getElem_cons_succ, ← rd79_get _ _ h1]; exact h3
    ·rw [rd79_get _ _ (by simpa using h1), List.getElem_cons_succ, ← rd79_get _ _ h1]; exact h4
theorem index_l0 (l : List S79) (a b : Int) (hl : l.length ≤ 9223372036854775806) : ∀ (r pre : List S79), l = pre ++ r → Ev (fun k => api_Pair_73.l0 k l (l.length : Int) (pre.length : Int) a b) (plc pre.length r a b) := by
 intro r
 induction r with
 | nil =>
  rintro pre rfl
  rw [show plc (pre.length : Int) [] a b = -1 from rfl]
  exact Ev.step (fun k => by simp only [api_Pair_73.l0]; rw [if_neg (by simp)]) (Ev.now _)
 | cons p r ih =>
  rintro pre rfl
  have e : wrap64 ((pre.length : Int) + 1) = ((pre ++ [p]).length : Int) := wrap_mid pre p r (by omega)
  unfold plc
  by_cases h : p.f0 = a ∧ p.f1 = b
  ·rw [if_pos h]
   refine Ev.step (fun k => by simp only [api_Pair_73.l0]; rw [if_pos (lt_mid pre p r), if_pos (by omega), if_pos (lt_mid pre p r), rd79_mid, if_pos (by rw [h.1, h.2]; simp)]) (Ev.now _)
  ·rw [if_neg h]
   have ih' := ih (pre ++ [p]) (snoc_mid pre p r)
   refine Ev.step (fun k => by simp only [api_Pair_73.l0]; rw [if_pos (lt_mid pre p r), if_pos (by omega), if_pos (lt_mid pre p r), rd79_mid, if_neg (by simp; intro h1 h2; exact h ⟨h1.symm, h2.symm⟩), e]) ?_
   simpa using ih'
theorem index_ev (l : List S79) (a b : Int) (hl : l.length ≤ 9223372036854775806) : Ev (fun k => api_Pair_73.f k l a b) (plc 0 l a b) := by
 unfold api_Pair_73.f
 exact index_l0 l a b hl l [] rfl
theorem row1_iff (i x : Int) : ∀ (s : List Int) (k : Int) (p : S79), p ∈ row1 i x k s ↔ p.f0 = i ∧ ∃ j : Nat, j < s.length ∧ p.f1 = k + j ∧ rd s j = x := by
 intro s
 induction s with
 | nil => intro k p; simp [row1]
 | cons y s ih =>
  intro k p
  unfold row1
  constructor
  ·intro h
   split at h
   ·rename_i hxy
    rcases List.mem_cons.mp h with rfl | h
    ·exact ⟨rfl, 0, by simp, by simp, hxy.symm⟩
    ·obtain ⟨h1, j, h2, h3, h4⟩ := (ih (k + 1) p).mp h
     exact ⟨h1, j + 1, by simpa using h2, by rw [h3]; omega, by rw [rd_cons_succ]; exact h4⟩
   ·obtain ⟨h1, j, h2, h3, h4⟩ := (ih (k + 1) p).mp h
    exact ⟨h1, j + 1, by simpa using h2, by rw [h3]; omega, by rw [rd_cons_succ]; exact h4⟩
  ·rintro ⟨h1, j, h2, h3, h4⟩
   cases j with
   | zero =>
    rw [rd_cons_zero] at h4
    rw [if_pos h4.symm]
    have : p = ⟨i, k⟩ := by
     cases p
     simp at h1 h3
     rw [h1, h3]
    rw [this]
    exact List.mem_cons_self
   | succ j =>
    rw [rd_cons_succ] at h4
    have := (ih (k + 1) p).mpr ⟨h1, j, by simpa using h2, by rw [h3]; omega, h4⟩
    split
    ·exact List.mem_cons_of_mem _ this
    ·exact this
theorem rows_iff (g : List Int) : ∀ (r : List Int) (i : Int) (p : S79), p ∈ rows g i r ↔ ∃ j : Nat, j < r.length ∧ p.f0 = i + j ∧ ∃ j' : Nat, j' < g.length ∧ p.f1 = (j' : Int) ∧ rd g j' = rd r j := by
 intro r
 induction r with
 | nil => intro i p; simp [rows]
 | cons x r ih =>
  intro i p
  have e3 : rows g i (x :: r) = row1 i x 0 g ++ rows g (i + 1) r := rfl
  rw [e3, List.mem_append, row1_iff, ih]
  constructor
  ·rintro (⟨h1, j, h2, h3, h4⟩ | ⟨j, h1, h2, j', h3, h4, h5⟩)
   ·exact ⟨0, by simp, by simp [h1], j, h2, by omega, h4⟩
   ·exact ⟨j + 1, by simpa using h1, by rw [h2]; omega, j', h3, h4, by rw [rd_cons_succ]; exact h5⟩
  ·rintro ⟨j, h1, h2, j', h3, h4, h5⟩
   cases j with
   | zero => exact .inl ⟨by rw [h2]; simp, j', h3, by omega, h5⟩
   | succ j => exact .inr ⟨j, by simpa using h1, by rw [h2]; omega, j', h3, h4, by rw [rd_cons_succ] at h5; exact h5⟩
theorem rows_mem {f g : List Int} {p : S79} : p ∈ rows g 0 f ↔ 0 ≤ p.f0 ∧ p.f0 < (f.length : Int) ∧ 0 ≤ p.f1 ∧ p.f1 < (g.length : Int) ∧ rd f p.f0 = rd g p.f1 := by
 rw [rows_iff]
 constructor
 ·rintro ⟨j, h1, h2, j', h3, h4, h5⟩
  have e : p.f0 = (j : Int) := by omega
  rw [e, h4]
  exact ⟨by omega, by omega, by omega, by omega, h5.symm⟩
 ·rintro ⟨h1, h2, h3, h4, h5⟩
  refine ⟨p.f0.toNat, by omega, by omega, p.f1.toNat, by omega, by omega, ?_⟩
  rw [Int.toNat_of_nonneg h1, Int.toNat_of_nonneg h3]
  exact h5.symm
theorem row1_nodup (i x : Int) : ∀ (s : List Int) (k : Int), (row1 i x k s).Nodup := by
 intro s
 induction s with
 | nil => intro k; simp [row1]
 | cons y s ih =>
  intro k
  unfold row1
  split
  ·refine List.nodup_cons.mpr ⟨fun h => ?_, ih _⟩
   have := (row1_mem _ _ _ _ _ h).2.1
   simp at this
   omega
  ·exact ih _
theorem rows_nodup (g : List Int) : ∀ (r : List Int) (i : Int), (rows g i r).Nodup := by
 intro r
 induction r with
 | nil => intro i; simp [rows]
 | cons x r ih =>
  intro i
  have e3 : rows g i (x :: r) = row1 i x 0 g ++ rows g (i + 1) r := rfl
  rw [e3, List.nodup_append]
  refine ⟨row1_nodup _ _ _ _, ih _, fun a ha b hb hab => ?_⟩
  have h1 := (row1_mem _ _ _ _ _ ha).1
  obtain ⟨j, -, h2, -⟩ := (rows_iff g r (i + 1) b).mp hb
  rw [hab] at h1
  omega
theorem rows_len (g : List Int) : ∀ (r : List Int) (i : Int), (rows g i r).length ≤ r.length * g.length := by
 intro r
 induction r with
 | nil => intro i; simp [rows]
 | cons x r ih =>
  intro i
  have h1 := ih (i + 1)
  have h2 := row1_len i x g 0
  have e3 : rows g i (x :: r) = row1 i x 0 g ++ rows g (i + 1) r := rfl
  rw [e3, List.length_append, List.length_cons, Nat.succ_mul]
  omega
theorem plc_self {l : List S79} (hd : l.Nodup) (j : Nat) (hj : j < l.length) : plc 0 l (rd_T79 l j).f0 (rd_T79 l j).f1 = (j : Int) := by
 rcases plc_spec (rd_T79 l j).f0 (rd_T79 l j).f1 l 0 with ⟨-, h⟩ | ⟨i, h1, h2, h3, h4⟩
 ·exact absurd ⟨rfl, rfl⟩ (h (rd_T79 l j) (by rw [rd79_get _ _ hj]; exact List.getElem_mem _))
 ·rw [rd79_get _ _ hj, rd79_get _ _ h1] at h3 h4
  have e : l[i] = l[j] := by
   cases hx : l[i]
   cases hy : l[j]
   rw [hx, hy] at h3 h4
   simp at h3 h4
   rw [h3, h4]
  have hij : i = j := by
   rcases Nat.lt_trichotomy i j with h | h | h
   ·exact absurd e (List.pairwise_iff_getElem.mp hd i j h1 hj h)
   ·exact h
   ·exact absurd e.symm (List.pairwise_iff_getElem.mp hd j i hj h1 h)
  subst hij
  rw [h2]
  omega
theorem plc_mem {l : List S79} {a b : Int} (h : (⟨a, b⟩ : S79) ∈ l) : 0 ≤ plc 0 l a b ∧ plc 0 l a b < (l.length : Int) ∧ (rd_T79 l (plc 0 l a b)).f0 = a ∧ (rd_T79 l (plc 0 l a b)).f1 = b := by
 rcases plc_spec a b l 0 with ⟨-, h'⟩ | ⟨i, h1, h2, h3, h4⟩
 ·exact absurd ⟨rfl, rfl⟩ (h' _ h)
 ·have e : plc 0 l a b = (i : Int) := by omega
  rw [e]
  exact ⟨by omega, by omega, h3, h4⟩
theorem plc_not {l : List S79} {a b : Int} (h : (⟨a, b⟩ : S79) ∉ l) : plc 0 l a b = -1 := by
 rcases plc_spec a b l 0 with ⟨h', -⟩ | ⟨i, h1, h2, h3, h4⟩
 ·exact h'
 ·rw [rd79_get _ _ h1] at h3 h4
  exact absurd (by rw [← h3, ← h4]; exact List.getElem_mem h1) h
theorem rd79_mem (P : List S79) (i : Int) (h0 : 0 ≤ i) (h1 : i < (P.length : Int)) : rd_T79 P i ∈ P := by
 obtain ⟨j, rfl⟩ : ∃ j : Nat, i = (j : Int) := ⟨i.toNat, by omega⟩
 rw [rd79_get _ _ (by omega)]
 exact List.getElem_mem _
section
variable (x0 : List Int) (x1 : List S94) (x2 : List Int) (x3 : List S94) (x4 : List Int) (x5 : List S94) (x6 x7 x8 x9 : List Int)
def giv : Int := if mvalid x0 x1 x4 x5 x6 x7 = 0 then mvalid x2 x3 x4 x5 x8 x9 else mvalid x0 x1 x4 x5 x6 x7
def edg (x1 x3 : List S94) (P : List S79) (q : S79) : S94 := ⟨(rd_T94 x1 q.f0).f0, plc 0 P (rd_T94 x1 q.f0).f1 (rd_T94 x3 q.f1).f1, plc 0 P (rd_T94 x1 q.f0).f2 (rd_T94 x3 q.f1).f2⟩
def ofR : List S79 × List S79 × List Int × List S94 × Int :=
 if giv x0 x1 x2 x3 x4 x5 x6 x7 x8 x9 = 0 then (if (rows x8 0 x6).length > 40 ∨ (rows x9 0 x7).length > 80 then ([], [], [], [], 3) else (rows x8 0 x6, rows x9 0 x7, (rows x8 0 x6).map (fun p => rd x0 p.f0), (rows x9 0 x7).map (edg x1 x3 (rows x8 0 x6)), 0))
 else ([], [], [], [], giv x0 x1 x2 x3 x4 x5 x6 x7 x8 x9)
theorem giv_len (h : giv x0 x1 x2 x3 x4 x5 x6 x7 x8 x9 = 0) : mvalid x0 x1 x4 x5 x6 x7 = 0 ∧ mvalid x2 x3 x4 x5 x8 x9 = 0 := by
 unfold giv at h
 split at h
 ·rename_i h1
  exact ⟨h1, h⟩
 ·rename_i h1
  exact absurd h h1
end
end Go.Proofs.Ytillofiphkmjjaa.Pl

namespace Go.Proofs.Ytillofiphkmjjaa.X
open Go.RowKit Go.Proofs.YtillofiphkmjjaaW.PrintWords Go.Proofs.YtillofiphkmjjaaW.PrintLast Go.Proofs.YtillofiphkmjjaaW.PrintMore
open Go.Proofs.YtillofiphkmjjaaW.PrintWords renaming blk_drewN → bN, blk_drew → bD, blk_alloc → bA, below_alloc → wA, pw_below_drewN → wN, below_drew1 → wD, blk_below → bB, below_step → wS, blk_at → bT, blk_grown → bG
open Go.Proofs.YtillofiphkmjjaaW.PrintWords.Kd renaming R_alloc → rA, R_drewN → rN, R_drew → rD, R_below → rB, R_grown → rG, C_below → cB, C_alloc → cA, C_drewN → cN, C_drew → cD
attribute [local go_sem] max2_int min2_int max_two min_two max_three min_three max_four min_four
set_option linter.unusedVariables false
set_option linter.unusedSimpArgs false
/-! ### pullback_given: function 72 -/
set_option maxHeartbeats 4000000 in
set_option maxRecDepth 100000 in
theorem given72_a (A0 : Option Addr) (c0 : Nat) (x0 : List Int) (A1 : Option Addr) (c1 : Nat) (x1 : List S94) (A2 : Option Addr) (c2 : Nat) (x2 : List Int) (A3 : Option Addr) (c3 : Nat) (x3 : List S94) (A4 : Option Addr) (c4 : Nat) (x4 : List Int) (A5 : Option Addr) (c5 : Nat) (x5 : List S94) (A6 : Option Addr) (c6 : Nat) (x6 : List Int) (A7 : Option Addr) (c7 : Nat) (x7 : List Int) (A8 : Option Addr) (c8 : Nat) (x8 : List Int) (A9 : Option Addr) (c9 : Nat) (x9 : List Int) (w : World)
  (R0 : Row (Kd.int .i64) w A0 c0 x0) (R1 : Row k94 w A1 c1 x1) (R2 : Row (Kd.int .i64) w A2 c2 x2) (R3 : Row k94 w A3 c3 x3) (R4 : Row (Kd.int .i64) w A4 c4 x4) (R5 : Row k94 w A5 c5 x5) (R6 : Row (Kd.int .i64) w A6 c6 x6) (R7 : Row (Kd.int .i64) w A7 c7 x7) (R8 : Row (Kd.int .i64) w A8 c8 x8) (R9 : Row (Kd.int .i64) w A9 c9 x9) (r : Int) (h : mvalid x0 x1 x4 x5 x6 x7 = r) (hr : r ≠ 0) :
  Calls Try.prog 72 #[.agg #[.slice A0 x0.length c0, .slice A1 x1.length c1, .slice A2 x2.length c2, .slice A3 x3.length c3, .slice A4 x4.length c4, .slice A5 x5.length c5, .slice A6 x6.length c6, .slice A7 x7.length c7, .slice A8 x8.length c8, .slice A9 x9.length c9]] w fun e w' => e = .returned (.int .i64 r) ∧ Below w.heap.size w w' := by
 have h_ := Aside0.mk h
 have hr_ := Aside0.mk hr
 clear h hr
 have hu25 := Try.underlying25
 have hu27 := Try.underlying27
 have hu29 := Try.underlying29
 have SB := Since.refl w
 have RS := cR R0 (cR R1 (cR R2 (cR R3 (cR R4 (cR R5 (cR R6 (cR R7 (cR R8 (cR R9 (cE SB))))))))))
 clear SB R0 R1 R2 R3 R4 R5 R6 R7 R8 R9
 go_enter Try.func72, Try.ntmps72
 go_upto_region 1 with fail
 obtain ⟨w1, hv, BS, hb⟩ := nw1 w 29 #[.slice A0 x0.length c0, .slice A1 x1.length c1, .slice A2 x2.length c2, .slice A3 x3.length c3, .slice A4 x4.length c4, .slice A5 x5.length c5, .slice A6 x6.length c6, .slice A7 x7.length c7, .slice A8 x8.length c8, .slice A9 x9.length c9]
 rw [← hv]
 clear hv
 replace RS := mo hb RS
 clear hb
 replace RS := cK BS (RS)
 clear BS
 rcases (id RS) with ⟨⟨BS⟩, -⟩
 obtain ⟨_, _, _, _, _, _, _, _, _, _⟩ := BS.q10
 go_wp2_with fail
 rcases (id RS) with ⟨-, ⟨⟨R0⟩, ⟨⟨R1⟩, ⟨-, ⟨-, ⟨⟨R4⟩, ⟨⟨R5⟩, ⟨⟨R6⟩, ⟨⟨R7⟩, -⟩⟩⟩⟩⟩⟩⟩⟩⟩
 refine (morphism_Valid.calls _ _ x0 _ _ x1 _ _ x4 _ _ x5 _ _ x6 _ _ x7 r _ R0.at_ R0.cap R1.at_ R1.cap R4.at_ R4.cap R5.at_ R5.cap R6.at_ R6.cap R7.at_ R7.cap (by unfold morphism_Valid.f; rw [h_.out])).mono ?_
 rintro e w2 ⟨rfl, hb⟩
 clear R0 R1 R4 R5 R6 R7
 replace hb := bS (w := w1) hb
 replace RS := mo hb RS
 clear hb
 rcases (id RS) with ⟨⟨BS⟩, -⟩
 obtain ⟨_, _, _, _, _, _, _, _, _, _⟩ := BS.q10
 rcases (id RS) with ⟨-, ⟨-, ⟨-, ⟨-, ⟨-, ⟨-, ⟨-, ⟨-, ⟨-, ⟨-, ⟨-, ⟨SB⟩⟩⟩⟩⟩⟩⟩⟩⟩⟩⟩⟩
 have hz : (r != 0) = true := bne_iff_ne.mpr hr_.out
 go_wp2_with fail
 go_ret
 exact ⟨rfl, SB.get⟩
set_option maxHeartbeats 4000000 in
set_option maxRecDepth 100000 in
theorem given72_b (A0 : Option Addr) (c0 : Nat) (x0 : List Int) (A1 : Option Addr) (c1 : Nat) (x1 : List S94) (A2 : Option Addr) (c2 : Nat) (x2 : List Int) (A3 : Option Addr) (c3 : Nat) (x3 : List S94) (A4 : Option Addr) (c4 : Nat) (x4 : List Int) (A5 : Option Addr) (c5 : Nat) (x5 : List S94) (A6 : Option Addr) (c6 : Nat) (x6 : List Int) (A7 : Option Addr) (c7 : Nat) (x7 : List Int) (A8 : Option Addr) (c8 : Nat) (x8 : List Int) (A9 : Option Addr) (c9 : Nat) (x9 : List Int) (w : World)
  (R0 : Row (Kd.int .i64) w A0 c0 x0) (R1 : Row k94 w A1 c1 x1) (R2 : Row (Kd.int .i64) w A2 c2 x2) (R3 : Row k94 w A3 c3 x3) (R4 : Row (Kd.int .i64) w A4 c4 x4) (R5 : Row k94 w A5 c5 x5) (R6 : Row (Kd.int .i64) w A6 c6 x6) (R7 : Row (Kd.int .i64) w A7 c7 x7) (R8 : Row (Kd.int .i64) w A8 c8 x8) (R9 : Row (Kd.int .i64) w A9 c9 x9) (r : Int) (h : mvalid x0 x1 x4 x5 x6 x7 = 0) (hr : mvalid x2 x3 x4 x5 x8 x9 = r) :
  Calls Try.prog 72 #[.agg #[.slice A0 x0.length c0, .slice A1 x1.length c1, .slice A2 x2.length c2, .slice A3 x3.length c3, .slice A4 x4.length c4, .slice A5 x5.length c5, .slice A6 x6.length c6, .slice A7 x7.length c7, .slice A8 x8.length c8, .slice A9 x9.length c9]] w fun e w' => e = .returned (.int .i64 r) ∧ Below w.heap.size w w' := by
 have h_ := Aside0.mk h
 have hr_ := Aside0.mk hr
 clear h hr
 have hu25 := Try.underlying25
 have hu27 := Try.underlying27
 have hu29 := Try.underlying29
 have SB := Since.refl w
 have RS := cR R0 (cR R1 (cR R2 (cR R3 (cR R4 (cR R5 (cR R6 (cR R7 (cR R8 (cR R9 (cE SB))))))))))
 clear SB R0 R1 R2 R3 R4 R5 R6 R7 R8 R9
 go_enter Try.func72, Try.ntmps72
 go_upto_region 1 with fail
 obtain ⟨w1, hv, BS, hb⟩ := nw1 w 29 #[.slice A0 x0.length c0, .slice A1 x1.length c1, .slice A2 x2.length c2, .slice A3 x3.length c3, .slice A4 x4.length c4, .slice A5 x5.length c5, .slice A6 x6.length c6, .slice A7 x7.length c7, .slice A8 x8.length c8, .slice A9 x9.length c9]
 rw [← hv]
 clear hv
 replace RS := mo hb RS
 clear hb
 replace RS := cK BS (RS)
 clear BS
 rcases (id RS) with ⟨⟨BS⟩, -⟩
 obtain ⟨_, _, _, _, _, _, _, _, _, _⟩ := BS.q10
 go_wp2_with fail
 rcases (id RS) with ⟨-, ⟨⟨R0⟩, ⟨⟨R1⟩, ⟨-, ⟨-, ⟨⟨R4⟩, ⟨⟨R5⟩, ⟨⟨R6⟩, ⟨⟨R7⟩, -⟩⟩⟩⟩⟩⟩⟩⟩⟩
 refine (morphism_Valid.calls _ _ x0 _ _ x1 _ _ x4 _ _ x5 _ _ x6 _ _ x7 0 _ R0.at_ R0.cap R1.at_ R1.cap R4.at_ R4.cap R5.at_ R5.cap R6.at_ R6.cap R7.at_ R7.cap (by unfold morphism_Valid.f; rw [h_.out])).mono ?_
 rintro e w2 ⟨rfl, hb⟩
 clear R0 R1 R4 R5 R6 R7
 replace hb := bS (w := w1) hb
 replace RS := mo hb RS
 clear hb
 rcases (id RS) with ⟨⟨BS⟩, -⟩
 obtain ⟨_, _, _, _, _, _, _, _, _, _⟩ := BS.q10
 go_wp2_with fail
 rcases (id RS) with ⟨-, ⟨-, ⟨-, ⟨⟨R2⟩, ⟨⟨R3⟩, ⟨⟨R4⟩, ⟨⟨R5⟩, ⟨-, ⟨-, ⟨⟨R8⟩, ⟨⟨R9⟩, -⟩⟩⟩⟩⟩⟩⟩⟩⟩⟩⟩
 refine (morphism_Valid.calls _ _ x2 _ _ x3 _ _ x4 _ _ x5 _ _ x8 _ _ x9 r _ R2.at_ R2.cap R3.at_ R3.cap R4.at_ R4.cap R5.at_ R5.cap R8.at_ R8.cap R9.at_ R9.cap (by unfold morphism_Valid.f; rw [hr_.out])).mono ?_
 rintro e w3 ⟨rfl, hb⟩
 clear R2 R3 R4 R5 R8 R9
 replace hb := bS (w := w2) hb
 replace RS := mo hb RS
 clear hb
 rcases (id RS) with ⟨-, ⟨-, ⟨-, ⟨-, ⟨-, ⟨-, ⟨-, ⟨-, ⟨-, ⟨-, ⟨-, ⟨SB⟩⟩⟩⟩⟩⟩⟩⟩⟩⟩⟩⟩
 go_wp2_with fail
 go_ret
 exact ⟨rfl, SB.get⟩
def pullback_given.f (l0_0 : List Int) (l0_1 : List (S94)) (l0_2 : List Int) (l0_3 : List (S94)) (l0_4 : List Int) (l0_5 : List (S94)) (l0_6 : List Int) (l0_7 : List Int) (l0_8 : List Int) (l0_9 : List Int) : Option (Int) := (morphism_Valid.f l0_0 l0_1 l0_4 l0_5 l0_6 l0_7).bind fun t102 => (if t102 = 0 then ((morphism_Valid.f l0_2 l0_3 l0_4 l0_5 l0_8 l0_9).bind fun t103 => (some t103)) else (some t102))
theorem pullback_given.calls (A0_0 : Option Addr) (c0_0 : Nat) (l0_0 : List Int) (A0_1 : Option Addr) (c0_1 : Nat) (l0_1 : List (S94)) (A0_2 : Option Addr) (c0_2 : Nat) (l0_2 : List Int) (A0_3 : Option Addr) (c0_3 : Nat) (l0_3 : List (S94)) (A0_4 : Option Addr) (c0_4 : Nat) (l0_4 : List Int) (A0_5 : Option Addr) (c0_5 : Nat) (l0_5 : List (S94)) (A0_6 : Option Addr) (c0_6 : Nat) (l0_6 : List Int) (A0_7 : Option Addr) (c0_7 : Nat) (l0_7 : List Int) (A0_8 : Option Addr) (c0_8 : Nat) (l0_8 : List Int) (A0_9 : Option Addr) (c0_9 : Nat) (l0_9 : List Int) (r : Int) (w : World) (hr0_0 : Kd.C (Kd.int .i64) w A0_0 l0_0.length l0_0) (hc0_0 : l0_0.length ≤ c0_0) (hr0_1 : Kd.C k94 w A0_1 l0_1.length l0_1) (hc0_1 : l0_1.length ≤ c0_1) (hr0_2 : Kd.C (Kd.int .i64) w A0_2 l0_2.length l0_2) (hc0_2 : l0_2.length ≤ c0_2) (hr0_3 : Kd.C k94 w A0_3 l0_3.length l0_3) (hc0_3 : l0_3.length ≤ c0_3) (hr0_4 : Kd.C (Kd.int .i64) w A0_4 l0_4.length l0_4) (hc0_4 : l0_4.length ≤ c0_4) (hr0_5 : Kd.C k94 w A0_5 l0_5.length l0_5) (hc0_5 : l0_5.length ≤ c0_5) (hr0_6 : Kd.C (Kd.int .i64) w A0_6 l0_6.length l0_6) (hc0_6 : l0_6.length ≤ c0_6) (hr0_7 : Kd.C (Kd.int .i64) w A0_7 l0_7.length l0_7) (hc0_7 : l0_7.length ≤ c0_7) (hr0_8 : Kd.C (Kd.int .i64) w A0_8 l0_8.length l0_8) (hc0_8 : l0_8.length ≤ c0_8) (hr0_9 : Kd.C (Kd.int .i64) w A0_9 l0_9.length l0_9) (hc0_9 : l0_9.length ≤ c0_9) (h : pullback_given.f l0_0 l0_1 l0_2 l0_3 l0_4 l0_5 l0_6 l0_7 l0_8 l0_9 = some r) :
  Calls Try.prog 72 #[.agg #[.slice A0_0 l0_0.length c0_0, .slice A0_1 l0_1.length c0_1, .slice A0_2 l0_2.length c0_2, .slice A0_3 l0_3.length c0_3, .slice A0_4 l0_4.length c0_4, .slice A0_5 l0_5.length c0_5, .slice A0_6 l0_6.length c0_6, .slice A0_7 l0_7.length c0_7, .slice A0_8 l0_8.length c0_8, .slice A0_9 l0_9.length c0_9]] w fun e w' => e = .returned (.int .i64 r) ∧ Below w.heap.size w w' := by
 unfold pullback_given.f morphism_Valid.f at h
 simp only [Option.bind_some] at h
 split at h
 ·rename_i h0
  injection h with h
  exact given72_b A0_0 c0_0 l0_0 A0_1 c0_1 l0_1 A0_2 c0_2 l0_2 A0_3 c0_3 l0_3 A0_4 c0_4 l0_4 A0_5 c0_5 l0_5 A0_6 c0_6 l0_6 A0_7 c0_7 l0_7 A0_8 c0_8 l0_8 A0_9 c0_9 l0_9 w ⟨hc0_0, hr0_0⟩ ⟨hc0_1, hr0_1⟩ ⟨hc0_2, hr0_2⟩ ⟨hc0_3, hr0_3⟩ ⟨hc0_4, hr0_4⟩ ⟨hc0_5, hr0_5⟩ ⟨hc0_6, hr0_6⟩ ⟨hc0_7, hr0_7⟩ ⟨hc0_8, hr0_8⟩ ⟨hc0_9, hr0_9⟩ r h0 h
 ·rename_i h0
  injection h with h
  rw [h] at h0
  exact given72_a A0_0 c0_0 l0_0 A0_1 c0_1 l0_1 A0_2 c0_2 l0_2 A0_3 c0_3 l0_3 A0_4 c0_4 l0_4 A0_5 c0_5 l0_5 A0_6 c0_6 l0_6 A0_7 c0_7 l0_7 A0_8 c0_8 l0_8 A0_9 c0_9 l0_9 w ⟨hc0_0, hr0_0⟩ ⟨hc0_1, hr0_1⟩ ⟨hc0_2, hr0_2⟩ ⟨hc0_3, hr0_3⟩ ⟨hc0_4, hr0_4⟩ ⟨hc0_5, hr0_5⟩ ⟨hc0_6, hr0_6⟩ ⟨hc0_7, hr0_7⟩ ⟨hc0_8, hr0_8⟩ ⟨hc0_9, hr0_9⟩ r h h0
end Go.Proofs.Ytillofiphkmjjaa.X

/- pullback.of (41), walked by hand: the standard pullback, or the error. -/
namespace Go.Proofs.Ytillofiphkmjjaa.X
open Go.RowKit Go.Proofs.YtillofiphkmjjaaW.PrintWords Go.Proofs.YtillofiphkmjjaaW.PrintLast Go.Proofs.YtillofiphkmjjaaW.PrintMore Go.Proofs.Ytillofiphkmjjaa.Pl
set_option linter.unusedVariables false
set_option linter.unusedSimpArgs false
theorem given_eq' (x0 : List Int) (x1 : List S94) (x2 : List Int) (x3 : List S94) (x4 : List Int) (x5 : List S94) (x6 : List Int) (x7 : List Int) (x8 : List Int) (x9 : List Int) : pullback_given.f x0 x1 x2 x3 x4 x5 x6 x7 x8 x9 = some (giv x0 x1 x2 x3 x4 x5 x6 x7 x8 x9) := by
 unfold pullback_given.f morphism_Valid.f giv
 simp only [Option.bind_some]
 split <;> rfl
set_option maxHeartbeats 4000000 in
set_option maxRecDepth 100000 in
theorem of_a (A0 : Option Addr) (c0 : Nat) (x0 : List Int) (A1 : Option Addr) (c1 : Nat) (x1 : List S94) (A2 : Option Addr) (c2 : Nat) (x2 : List Int) (A3 : Option Addr) (c3 : Nat) (x3 : List S94) (A4 : Option Addr) (c4 : Nat) (x4 : List Int) (A5 : Option Addr) (c5 : Nat) (x5 : List S94) (A6 : Option Addr) (c6 : Nat) (x6 : List Int) (A7 : Option Addr) (c7 : Nat) (x7 : List Int) (A8 : Option Addr) (c8 : Nat) (x8 : List Int) (A9 : Option Addr) (c9 : Nat) (x9 : List Int) (w : World)
  (R0 : Row (Kd.int .i64) w A0 c0 x0) (R1 : Row k94 w A1 c1 x1) (R2 : Row (Kd.int .i64) w A2 c2 x2) (R3 : Row k94 w A3 c3 x3) (R4 : Row (Kd.int .i64) w A4 c4 x4) (R5 : Row k94 w A5 c5 x5) (R6 : Row (Kd.int .i64) w A6 c6 x6) (R7 : Row (Kd.int .i64) w A7 c7 x7) (R8 : Row (Kd.int .i64) w A8 c8 x8) (R9 : Row (Kd.int .i64) w A9 c9 x9)
  (hg : giv x0 x1 x2 x3 x4 x5 x6 x7 x8 x9 ≠ 0) :
  Calls Try.prog 41 #[.agg #[.slice A0 x0.length c0, .slice A1 x1.length c1, .slice A2 x2.length c2, .slice A3 x3.length c3, .slice A4 x4.length c4, .slice A5 x5.length c5, .slice A6 x6.length c6, .slice A7 x7.length c7, .slice A8 x8.length c8, .slice A9 x9.length c9]] w fun e w' => ∃ v0 v1 v2 v3 : Value, e = .returned (.tuple #[.agg #[v0, v1, v2, v3], .int .i64 (giv x0 x1 x2 x3 x4 x5 x6 x7 x8 x9)]) ∧ Kd.R k79 79 w' w.heap.size (fun _ => True) v0 [] ∧ Kd.R k79 79 w' w.heap.size (fun _ => True) v1 [] ∧ Kd.R (Kd.int .i64) 3 w' w.heap.size (fun _ => True) v2 [] ∧ Kd.R k94 94 w' w.heap.size (fun _ => True) v3 [] ∧ Below w.heap.size w w' := by
 have hu25 := Try.underlying25
 have hu27 := Try.underlying27
 have hu29 := Try.underlying29
 have hu79 := Try.underlying79
 have hu81 := Try.underlying81
 have hu94 := Try.underlying94
 have hg_ := Aside0.mk hg
 clear hg
 go_enter Try.func41, Try.ntmps41
 go_upto_region 1 with fail
 obtain ⟨w1, hv, BX, B2, hb⟩ := nw2 w 29 #[.slice A0 x0.length c0, .slice A1 x1.length c1, .slice A2 x2.length c2, .slice A3 x3.length c3, .slice A4 x4.length c4, .slice A5 x5.length c5, .slice A6 x6.length c6, .slice A7 x7.length c7, .slice A8 x8.length c8, .slice A9 x9.length c9] 81 #[.slice none 0 0, .slice none 0 0, .slice none 0 0, .slice none 0 0]
 rw [← hv]
 have S0 : Since w w1 := ⟨hb⟩
 have SB := Since.refl w1
 have n2 : w.heap.size ≤ w.heap.size + 1 := Nat.le_succ _
 clear hv
 replace R0 := R0.below hb
 replace R1 := R1.below hb
 replace R2 := R2.below hb
 replace R3 := R3.below hb
 replace R4 := R4.below hb
 replace R5 := R5.below hb
 replace R6 := R6.below hb
 replace R7 := R7.below hb
 replace R8 := R8.below hb
 replace R9 := R9.below hb
 clear hb
 generalize w.heap.size + 1 = g2 at *
 obtain ⟨gd, hgd, BX⟩ : ∃ gd, gd = w.heap.size ∧ Blk w1 gd 29 #[.slice A0 x0.length c0, .slice A1 x1.length c1, .slice A2 x2.length c2, .slice A3 x3.length c3, .slice A4 x4.length c4, .slice A5 x5.length c5, .slice A6 x6.length c6, .slice A7 x7.length c7, .slice A8 x8.length c8, .slice A9 x9.length c9] := ⟨_, rfl, BX⟩
 rw [← hgd]
 clear hgd
 obtain ⟨_, _, _, _, _, _, _, _, _, _⟩ := BX.q10
 go_wp2_with fail
 refine (pullback_given.calls _ _ x0 _ _ x1 _ _ x2 _ _ x3 _ _ x4 _ _ x5 _ _ x6 _ _ x7 _ _ x8 _ _ x9 (giv x0 x1 x2 x3 x4 x5 x6 x7 x8 x9) _ R0.at_ R0.cap R1.at_ R1.cap R2.at_ R2.cap R3.at_ R3.cap R4.at_ R4.cap R5.at_ R5.cap R6.at_ R6.cap R7.at_ R7.cap R8.at_ R8.cap R9.at_ R9.cap (given_eq' x0 x1 x2 x3 x4 x5 x6 x7 x8 x9)).mono ?_
 rintro e w2 ⟨rfl, hb⟩
 replace SB := SB.step hb
 clear hb
 have hz : (giv x0 x1 x2 x3 x4 x5 x6 x7 x8 x9 != 0) = true := bne_iff_ne.mpr hg_.out
 go_upto_region 3 with fail
 replace B2 := B2.below SB.get
 replace SB := S0.step SB.get
 have RS : TrueW w2 := ⟨trivial⟩
 go_wp2_with ((with_reducible refine gate_store (t := 81) (p := 2) (v := .tmp 16) rfl ?_); refine wpl_store rfl rfl 81 (.tmp 2) (.tmp 16) rfl g2 0 81 [.slice none 0 0, .slice none 0 0, .slice none 0 0, .slice none 0 0] [.slice none 0 0, .slice none 0 0, .slice none 0 0, .slice none 0 0] rfl rfl (by kernel_rfl) ⟨⟨_, _, _, rfl⟩, ⟨_, _, _, rfl⟩, ⟨_, _, _, rfl⟩, ⟨_, _, _, rfl⟩, trivial⟩ B2 ⟨⟨_, _, _, rfl⟩, ⟨_, _, _, rfl⟩, ⟨_, _, _, rfl⟩, ⟨_, _, _, rfl⟩, trivial⟩ (Nat.le_of_ble_eq_true rfl) RS SB n2 ?_; clear RS SB B2; intro w9 RS B2 SB)
 refine bodyPost_ret (results_list (rs := [.cell 2 81, .tmp 3]) rfl (by simp) (.cell g2 81 #[.slice none 0 0, .slice none 0 0, .slice none 0 0, .slice none 0 0] (0, 0) _ rfl B2.get Try.underlying81 rfl (by kernel_rfl) (.tmp .nil))) rfl ?_
 exact ⟨_, _, _, _, rfl, Kd.R_nil _ _ _ _ _, Kd.R_nil _ _ _ _ _, Kd.R_nil _ _ _ _ _, Kd.R_nil _ _ _ _ _, SB.get⟩
set_option maxHeartbeats 4000000 in
set_option maxRecDepth 100000 in
theorem of_b (A0 : Option Addr) (c0 : Nat) (x0 : List Int) (A1 : Option Addr) (c1 : Nat) (x1 : List S94) (A2 : Option Addr) (c2 : Nat) (x2 : List Int) (A3 : Option Addr) (c3 : Nat) (x3 : List S94) (A4 : Option Addr) (c4 : Nat) (x4 : List Int) (A5 : Option Addr) (c5 : Nat) (x5 : List S94) (A6 : Option Addr) (c6 : Nat) (x6 : List Int) (A7 : Option Addr) (c7 : Nat) (x7 : List Int) (A8 : Option Addr) (c8 : Nat) (x8 : List Int) (A9 : Option Addr) (c9 : Nat) (x9 : List Int) (w : World)
  (R0 : Row (Kd.int .i64) w A0 c0 x0) (R1 : Row k94 w A1 c1 x1) (R2 : Row (Kd.int .i64) w A2 c2 x2) (R3 : Row k94 w A3 c3 x3) (R4 : Row (Kd.int .i64) w A4 c4 x4) (R5 : Row k94 w A5 c5 x5) (R6 : Row (Kd.int .i64) w A6 c6 x6) (R7 : Row (Kd.int .i64) w A7 c7 x7) (R8 : Row (Kd.int .i64) w A8 c8 x8) (R9 : Row (Kd.int .i64) w A9 c9 x9)
  (hg : giv x0 x1 x2 x3 x4 x5 x6 x7 x8 x9 = 0) (hn : (rows x8 0 x6).length > 40 ∨ (rows x9 0 x7).length > 80) :
  Calls Try.prog 41 #[.agg #[.slice A0 x0.length c0, .slice A1 x1.length c1, .slice A2 x2.length c2, .slice A3 x3.length c3, .slice A4 x4.length c4, .slice A5 x5.length c5, .slice A6 x6.length c6, .slice A7 x7.length c7, .slice A8 x8.length c8, .slice A9 x9.length c9]] w fun e w' => ∃ v0 v1 v2 v3 : Value, e = .returned (.tuple #[.agg #[v0, v1, v2, v3], .int .i64 3]) ∧ Kd.R k79 79 w' w.heap.size (fun _ => True) v0 [] ∧ Kd.R k79 79 w' w.heap.size (fun _ => True) v1 [] ∧ Kd.R (Kd.int .i64) 3 w' w.heap.size (fun _ => True) v2 [] ∧ Kd.R k94 94 w' w.heap.size (fun _ => True) v3 [] ∧ Below w.heap.size w w' := by
 have hu25 := Try.underlying25
 have hu27 := Try.underlying27
 have hu29 := Try.underlying29
 have hu79 := Try.underlying79
 have hu81 := Try.underlying81
 have hu94 := Try.underlying94
 have hg_ := Aside0.mk hg
 have hn_ := Aside0.mk hn
 clear hg hn
 go_enter Try.func41, Try.ntmps41
 go_upto_region 1 with fail
 obtain ⟨w1, hv, BX, B2, hb⟩ := nw2 w 29 #[.slice A0 x0.length c0, .slice A1 x1.length c1, .slice A2 x2.length c2, .slice A3 x3.length c3, .slice A4 x4.length c4, .slice A5 x5.length c5, .slice A6 x6.length c6, .slice A7 x7.length c7, .slice A8 x8.length c8, .slice A9 x9.length c9] 81 #[.slice none 0 0, .slice none 0 0, .slice none 0 0, .slice none 0 0]
 rw [← hv]
 have S0 : Since w w1 := ⟨hb⟩
 have SB := Since.refl w1
 have n2 : w.heap.size ≤ w.heap.size + 1 := Nat.le_succ _
 clear hv
 replace R0 := R0.below hb
 replace R1 := R1.below hb
 replace R2 := R2.below hb
 replace R3 := R3.below hb
 replace R4 := R4.below hb
 replace R5 := R5.below hb
 replace R6 := R6.below hb
 replace R7 := R7.below hb
 replace R8 := R8.below hb
 replace R9 := R9.below hb
 clear hb
 generalize w.heap.size + 1 = g2 at *
 obtain ⟨gd, hgd, BX⟩ : ∃ gd, gd = w.heap.size ∧ Blk w1 gd 29 #[.slice A0 x0.length c0, .slice A1 x1.length c1, .slice A2 x2.length c2, .slice A3 x3.length c3, .slice A4 x4.length c4, .slice A5 x5.length c5, .slice A6 x6.length c6, .slice A7 x7.length c7, .slice A8 x8.length c8, .slice A9 x9.length c9] := ⟨_, rfl, BX⟩
 rw [← hgd]
 clear hgd
 obtain ⟨_, _, _, _, _, _, _, _, _, _⟩ := BX.q10
 go_wp2_with fail
 refine (pullback_given.calls _ _ x0 _ _ x1 _ _ x2 _ _ x3 _ _ x4 _ _ x5 _ _ x6 _ _ x7 _ _ x8 _ _ x9 (giv x0 x1 x2 x3 x4 x5 x6 x7 x8 x9) _ R0.at_ R0.cap R1.at_ R1.cap R2.at_ R2.cap R3.at_ R3.cap R4.at_ R4.cap R5.at_ R5.cap R6.at_ R6.cap R7.at_ R7.cap R8.at_ R8.cap R9.at_ R9.cap (given_eq' x0 x1 x2 x3 x4 x5 x6 x7 x8 x9)).mono ?_
 rintro e w2 ⟨rfl, hb⟩
 replace SB := SB.step hb
 clear hb
 rw [hg_.out]
 go_upto_region 4 with fail
 obtain ⟨mv1, mv2⟩ := giv_len _ _ _ _ _ _ _ _ _ _ hg_.out
 obtain ⟨v1, -, a1, a2, -⟩ := mvalid_iff.mp mv1
 obtain ⟨v2, -, b1, b2, -⟩ := mvalid_iff.mp mv2
 obtain ⟨l1, l2, -⟩ := validE_iff.mp v1
 obtain ⟨l3, l4, -⟩ := validE_iff.mp v2
 obtain ⟨K1, hK1⟩ := pairs_ev x6 x8 (by omega) (by omega)
 obtain ⟨K2, hK2⟩ := pairs_ev x7 x9 (by omega) (by omega)
 replace mv1 := Aside0.mk mv1
 replace mv2 := Aside0.mk mv2
 clear v1 v2 a1 a2 b1 b2 l1 l2 l3 l4
 replace SB := SB.step (below_drew1 (Below.refl _ _))
 have hHeld : w2.drew.cell? ⟨gd, 6, none⟩ = some (.slice A6 x6.length c6) ∧ w2.drew.cell? ⟨gd, 8, none⟩ = some (.slice A8 x8.length c8) ∧ w2.drew.cell? ⟨gd, 7, none⟩ = some (.slice A7 x7.length c7) ∧ w2.drew.cell? ⟨gd, 9, none⟩ = some (.slice A9 x9.length c9) := ⟨(BX.below SB.get).at 6 rfl, (BX.below SB.get).at 8 rfl, (BX.below SB.get).at 7 rfl, (BX.below SB.get).at 9 rfl⟩
 refine plan_pre (fun w' => w'.cell? ⟨gd, 6, none⟩ = some (.slice A6 x6.length c6) ∧ w'.cell? ⟨gd, 8, none⟩ = some (.slice A8 x8.length c8) ∧ w'.cell? ⟨gd, 7, none⟩ = some (.slice A7 x7.length c7) ∧ w'.cell? ⟨gd, 9, none⟩ = some (.slice A9 x9.length c9)) [16] [(0, 1, some 18), (1, 1, some 19), (2, 2, some 20), (3, 1, some 21), (4, 1, some 22), (5, 2, some 23), (7, 1, some 25), (8, 1, some 26), (9, 2, some 27), (10, 1, some 28), (11, 1, some 29), (12, 2, some 30)] 5 ((true, [([], []), ([0], [0]), ([1], [1]), ([], []), ([3], [3]), ([4], [4]), ([2, 5], [2, 5]), ([], []), ([7], [7]), ([8], [8]), ([], []), ([10], [10]), ([11], [11]), ([9, 12, 6], [9, 12]), ([6, 13], [6, 13]), ([], []), ([15, 14, 13, 0, 1, 2, 3, 4, 5, 6, 7, 8, 9, 10, 11, 12, 13, 14, 15], [14, 15])])) [0, 1, 3, 0, 8, 24, 63, 0, 128, 384, 0, 1024, 3072, 8191, 16383, 0, 65535] (by kernel_rfl) (by kernel_rfl) rfl rfl (by kernel_rfl) (fun _ _ d _ _ h => by cases d <;> exact h) ?_
 generalize w2.drew = wd at *
 repeat (first
  | (refine pl1 (v := ?_) (a' := ?_) rfl rfl (Or.inl ⟨by rfl, ?_⟩) ?_ ?_; rotate_left; (intro w'; go_simp; with_reducible rfl); rotate_left; (simp only [Act.put, List.setIfInBounds_toArray, List.set_cons_zero, List.set_cons_succ, i64_w, i32_w]; rfl))
  | (refine pl2 (v := ?_) (a' := ?_) rfl rfl hHeld (Or.inl ⟨by rfl, ?_⟩) ?_ ?_; rotate_left; (rintro w' ⟨s0, s1, s2, s3⟩; go_simp; with_reducible rfl); rotate_left; (simp only [Act.put, List.setIfInBounds_toArray, List.set_cons_zero, List.set_cons_succ, i64_w, i32_w]; rfl)))
 refine pl_end ?_
 have HT : rtab .any _ = _ := (by kernel_rfl : rtab .any (opsOf Try.f41 4) = (true, [([], []), ([0], [0]), ([1], [1]), ([], []), ([3], [3]), ([4], [4]), ([2, 5], [2, 5]), ([], []), ([7], [7]), ([8], [8]), ([], []), ([10], [10]), ([11], [11]), ([9, 12, 6], [9, 12]), ([6, 13], [6, 13]), ([], []), ([15, 14, 13, 0, 1, 2, 3, 4, 5, 6, 7, 8, 9, 10, 11, 12, 13, 14, 15], [14, 15])]))
 show wpAnyLast _ _ _ _ _ _ 5 #[true, true, true, true, true, true, false, true, true, true, true, true, true, false, false, false, false] _ _
 refine join_ (σ := Value × Value × Nat) 1 #[true, true, true, true, true, true, true, true, true, true, true, true, true, true, true, true, false] (fun s => [(24, s.1), (31, s.2.1), (32, .agg #[s.1, s.2.1, .slice none 0 0, .slice none 0 0]), (5, .pointer (some ⟨s.2.2, 0, none⟩))]) (fun s w' => Since w1 w' ∧ Kd.R k79 79 w' w1.heap.size (fun _ => True) s.1 (rows x8 0 x6) ∧ Kd.R k79 79 w' w1.heap.size (fun _ => True) s.2.1 (rows x9 0 x7) ∧ Blk w' s.2.2 81 #[.slice none 0 0, .slice none 0 0, .slice none 0 0, .slice none 0 0] ∧ w1.heap.size ≤ s.2.2) ?_ ?_
 rotate_left
 ·intro hCont
  clear hHeld
  refine two_ (i := 6) (j := 15) (Ni := some 24) (Nj := some 5) #[true, true, true, true, true, true, true, true, true, true, true, true, true, false, false, false, false] #[true, true, true, true, true, true, false, true, true, true, true, true, true, false, false, true, false] rfl rfl rfl rfl (two_of HT (by kernel_rfl)) (by decide) (by decide) (fun K hK => ?_) (fun K hK => ?_)
  ·skip
   refine goes_ Try.func66 (by kernel_rfl) rfl #[.slice A6 x6.length c6, .slice A8 x8.length c8] (by rfl) rfl rfl (by (try simp only [List.map_toArray, List.map_cons, List.map_nil]); first | done | rfl) ?_
   refine (pullback_pairs.calls K1 _ _ x6 _ _ x8 (rows x8 0 x6) _ (R6.below SB.get).at_ R6.cap (R8.below SB.get).at_ R8.cap (hK1 _ (Nat.le_refl _))).mono ?_
   rintro e we ⟨z1, rfl, hz1, hb⟩
   obtain ⟨_, _, rfl⟩ := Kd.R_slice hz1
   refine ⟨_, rfl, ?_⟩
   replace hz1 := Kd.R_lower hz1 SB.get.size
   replace SB := SB.step hb
   refine hK.out _ _ ⟨(BX.below SB.get).at 6 rfl, (BX.below SB.get).at 8 rfl, (BX.below SB.get).at 7 rfl, (BX.below SB.get).at 9 rfl⟩ (fun _ => ?_)
   clear hb
   clear hK K
   refine norm_ (a' := ?_) ?_ ?_
   rotate_left
   ·show Act.put _ (some 24) _ = _
    simp only [Act.put, List.setIfInBounds_toArray, List.set_cons_zero, List.set_cons_succ, i64_w, i32_w]
    rfl
   refine two_ (i := 13) (j := 15) (Ni := some 31) (Nj := some 5) #[true, true, true, true, true, true, true, true, true, true, true, true, true, true, false, false, false] #[true, true, true, true, true, true, true, true, true, true, true, true, true, false, false, true, false] rfl rfl rfl rfl (two_of HT (by kernel_rfl)) (by decide) (by decide) (fun K hK => ?_) (fun K hK => ?_)
   ·skip
    refine goes_ Try.func66 (by kernel_rfl) rfl #[.slice A7 x7.length c7, .slice A9 x9.length c9] (by rfl) rfl rfl (by (try simp only [List.map_toArray, List.map_cons, List.map_nil]); first | done | rfl) ?_
    refine (pullback_pairs.calls K2 _ _ x7 _ _ x9 (rows x9 0 x7) _ (R7.below SB.get).at_ R7.cap (R9.below SB.get).at_ R9.cap (hK2 _ (Nat.le_refl _))).mono ?_
    rintro e wf ⟨z2, rfl, hz2, hb⟩
    obtain ⟨_, _, rfl⟩ := Kd.R_slice hz2
    refine ⟨_, rfl, ?_⟩
    replace hz2 := Kd.R_lower hz2 SB.get.size
    replace SB := SB.step hb
    replace hz1 := Kd.R_below hz1 hb
    refine hK.out _ _ ⟨(BX.below SB.get).at 6 rfl, (BX.below SB.get).at 8 rfl, (BX.below SB.get).at 7 rfl, (BX.below SB.get).at 9 rfl⟩ (fun _ => ?_)
    clear hb
    clear hK K
    refine norm_ (a' := ?_) ?_ ?_
    rotate_left
    ·show Act.put _ (some 31) _ = _
     simp only [Act.put, List.setIfInBounds_toArray, List.set_cons_zero, List.set_cons_succ, i64_w, i32_w]
     rfl
    refine pure_ (i := 14) (N := some 32) (v := ?_) (a' := ?_) #[true, true, true, true, true, true, true, true, true, true, true, true, true, true, true, false, false] rfl rfl (any_of HT (by kernel_rfl)) (fun _ _ _ h => h) (Or.inl ⟨by rfl, ?_⟩) ?_ ?_
    rotate_left
    ·intro w'; go_simp; with_reducible rfl
    rotate_left
    ·(simp only [Act.put, List.setIfInBounds_toArray, List.set_cons_zero, List.set_cons_succ, i64_w, i32_w]; rfl)
    refine one_ (i := 15) (N := some 5) #[true, true, true, true, true, true, true, true, true, true, true, true, true, true, true, true, false] rfl rfl (one_of HT (by kernel_rfl)) (by decide) (fun K hK => ?_)
    refine value_ (w1 := wf.alloc (.cells #[.slice none 0 0, .slice none 0 0, .slice none 0 0, .slice none 0 0] 81)) (v := .pointer (some ⟨wf.heap.size, 0, none⟩)) (by rfl) rfl ?_ ?_
    ·first | (go_simp; done) | (go_simp; rfl)
    obtain ⟨BG, hb⟩ := blk_new1 wf 81 #[.slice none 0 0, .slice none 0 0, .slice none 0 0, .slice none 0 0]
    have hle := SB.get.size
    replace SB := SB.step hb
    replace hz1 := Kd.R_below hz1 hb
    replace hz2 := Kd.R_below hz2 hb
    refine hK.out _ _ ⟨(BX.below SB.get).at 6 rfl, (BX.below SB.get).at 8 rfl, (BX.below SB.get).at 7 rfl, (BX.below SB.get).at 9 rfl⟩ (fun _ => ?_)
    clear hb
    generalize wf.alloc (.cells #[.slice none 0 0, .slice none 0 0, .slice none 0 0, .slice none 0 0] 81) = wg at *
    generalize wf.heap.size = g5 at BG hle ⊢
    clear hK K
    refine norm_ (a' := ?_) ?_ ?_
    rotate_left
    ·show Act.put _ (some 5) _ = _
     simp only [Act.put, List.setIfInBounds_toArray, List.set_cons_zero, List.set_cons_succ, i64_w, i32_w]
     rfl
    exact hCont ⟨_, _, _⟩ _ ⟨SB, hz1, hz2, BG, hle⟩
   ·skip
    refine value_ (w1 := we.alloc (.cells #[.slice none 0 0, .slice none 0 0, .slice none 0 0, .slice none 0 0] 81)) (v := .pointer (some ⟨we.heap.size, 0, none⟩)) (by rfl) rfl ?_ ?_
    ·first | (go_simp; done) | (go_simp; rfl)
    obtain ⟨BG, hb⟩ := blk_new1 we 81 #[.slice none 0 0, .slice none 0 0, .slice none 0 0, .slice none 0 0]
    have hle := SB.get.size
    replace SB := SB.step hb
    replace hz1 := Kd.R_below hz1 hb
    refine hK.out _ _ ⟨(BX.below SB.get).at 6 rfl, (BX.below SB.get).at 8 rfl, (BX.below SB.get).at 7 rfl, (BX.below SB.get).at 9 rfl⟩ (fun _ => ?_)
    clear hb
    generalize we.alloc (.cells #[.slice none 0 0, .slice none 0 0, .slice none 0 0, .slice none 0 0] 81) = wf at *
    generalize we.heap.size = g5 at BG hle ⊢
    clear hK K
    refine norm_ (a' := ?_) ?_ ?_
    rotate_left
    ·show Act.put _ (some 5) _ = _
     simp only [Act.put, List.setIfInBounds_toArray, List.set_cons_zero, List.set_cons_succ, i64_w, i32_w]
     rfl
    refine one_ (i := 13) (N := some 31) #[true, true, true, true, true, true, true, true, true, true, true, true, true, true, false, true, false] rfl rfl (one_of HT (by kernel_rfl)) (by decide) (fun K hK => ?_)
    refine goes_ Try.func66 (by kernel_rfl) rfl #[.slice A7 x7.length c7, .slice A9 x9.length c9] (by rfl) rfl rfl (by (try simp only [List.map_toArray, List.map_cons, List.map_nil]); first | done | rfl) ?_
    refine (pullback_pairs.calls K2 _ _ x7 _ _ x9 (rows x9 0 x7) _ (R7.below SB.get).at_ R7.cap (R9.below SB.get).at_ R9.cap (hK2 _ (Nat.le_refl _))).mono ?_
    rintro e wg ⟨z2, rfl, hz2, hb⟩
    obtain ⟨_, _, rfl⟩ := Kd.R_slice hz2
    refine ⟨_, rfl, ?_⟩
    replace hz2 := Kd.R_lower hz2 SB.get.size
    replace SB := SB.step hb
    replace hz1 := Kd.R_below hz1 hb
    replace BG := BG.below hb
    refine hK.out _ _ ⟨(BX.below SB.get).at 6 rfl, (BX.below SB.get).at 8 rfl, (BX.below SB.get).at 7 rfl, (BX.below SB.get).at 9 rfl⟩ (fun _ => ?_)
    clear hb
    clear hK K
    refine norm_ (a' := ?_) ?_ ?_
    rotate_left
    ·show Act.put _ (some 31) _ = _
     simp only [Act.put, List.setIfInBounds_toArray, List.set_cons_zero, List.set_cons_succ, i64_w, i32_w]
     rfl
    refine pure_ (i := 14) (N := some 32) (v := ?_) (a' := ?_) #[true, true, true, true, true, true, true, true, true, true, true, true, true, true, true, true, false] rfl rfl (any_of HT (by kernel_rfl)) (fun _ _ _ h => h) (Or.inl ⟨by rfl, ?_⟩) ?_ ?_
    rotate_left
    ·intro w'; go_simp; with_reducible rfl
    rotate_left
    ·(simp only [Act.put, List.setIfInBounds_toArray, List.set_cons_zero, List.set_cons_succ, i64_w, i32_w]; rfl)
    exact hCont ⟨_, _, _⟩ _ ⟨SB, hz1, hz2, BG, hle⟩
  ·skip
   refine value_ (w1 := wd.alloc (.cells #[.slice none 0 0, .slice none 0 0, .slice none 0 0, .slice none 0 0] 81)) (v := .pointer (some ⟨wd.heap.size, 0, none⟩)) (by rfl) rfl ?_ ?_
   ·first | (go_simp; done) | (go_simp; rfl)
   obtain ⟨BG, hb⟩ := blk_new1 wd 81 #[.slice none 0 0, .slice none 0 0, .slice none 0 0, .slice none 0 0]
   have hle := SB.get.size
   replace SB := SB.step hb
   refine hK.out _ _ ⟨(BX.below SB.get).at 6 rfl, (BX.below SB.get).at 8 rfl, (BX.below SB.get).at 7 rfl, (BX.below SB.get).at 9 rfl⟩ (fun _ => ?_)
   clear hb
   generalize wd.alloc (.cells #[.slice none 0 0, .slice none 0 0, .slice none 0 0, .slice none 0 0] 81) = we at *
   generalize wd.heap.size = g5 at BG hle ⊢
   clear hK K
   refine norm_ (a' := ?_) ?_ ?_
   rotate_left
   ·show Act.put _ (some 5) _ = _
    simp only [Act.put, List.setIfInBounds_toArray, List.set_cons_zero, List.set_cons_succ, i64_w, i32_w]
    rfl
   refine one_ (i := 6) (N := some 24) #[true, true, true, true, true, true, true, true, true, true, true, true, true, false, false, true, false] rfl rfl (one_of HT (by kernel_rfl)) (by decide) (fun K hK => ?_)
   refine goes_ Try.func66 (by kernel_rfl) rfl #[.slice A6 x6.length c6, .slice A8 x8.length c8] (by rfl) rfl rfl (by (try simp only [List.map_toArray, List.map_cons, List.map_nil]); first | done | rfl) ?_
   refine (pullback_pairs.calls K1 _ _ x6 _ _ x8 (rows x8 0 x6) _ (R6.below SB.get).at_ R6.cap (R8.below SB.get).at_ R8.cap (hK1 _ (Nat.le_refl _))).mono ?_
   rintro e wf ⟨z1, rfl, hz1, hb⟩
   obtain ⟨_, _, rfl⟩ := Kd.R_slice hz1
   refine ⟨_, rfl, ?_⟩
   replace hz1 := Kd.R_lower hz1 SB.get.size
   replace SB := SB.step hb
   replace BG := BG.below hb
   refine hK.out _ _ ⟨(BX.below SB.get).at 6 rfl, (BX.below SB.get).at 8 rfl, (BX.below SB.get).at 7 rfl, (BX.below SB.get).at 9 rfl⟩ (fun _ => ?_)
   clear hb
   clear hK K
   refine norm_ (a' := ?_) ?_ ?_
   rotate_left
   ·show Act.put _ (some 24) _ = _
    simp only [Act.put, List.setIfInBounds_toArray, List.set_cons_zero, List.set_cons_succ, i64_w, i32_w]
    rfl
   refine one_ (i := 13) (N := some 31) #[true, true, true, true, true, true, true, true, true, true, true, true, true, true, false, true, false] rfl rfl (one_of HT (by kernel_rfl)) (by decide) (fun K hK => ?_)
   refine goes_ Try.func66 (by kernel_rfl) rfl #[.slice A7 x7.length c7, .slice A9 x9.length c9] (by rfl) rfl rfl (by (try simp only [List.map_toArray, List.map_cons, List.map_nil]); first | done | rfl) ?_
   refine (pullback_pairs.calls K2 _ _ x7 _ _ x9 (rows x9 0 x7) _ (R7.below SB.get).at_ R7.cap (R9.below SB.get).at_ R9.cap (hK2 _ (Nat.le_refl _))).mono ?_
   rintro e wg ⟨z2, rfl, hz2, hb⟩
   obtain ⟨_, _, rfl⟩ := Kd.R_slice hz2
   refine ⟨_, rfl, ?_⟩
   replace hz2 := Kd.R_lower hz2 SB.get.size
   replace SB := SB.step hb
   replace hz1 := Kd.R_below hz1 hb
   replace BG := BG.below hb
   refine hK.out _ _ ⟨(BX.below SB.get).at 6 rfl, (BX.below SB.get).at 8 rfl, (BX.below SB.get).at 7 rfl, (BX.below SB.get).at 9 rfl⟩ (fun _ => ?_)
   clear hb
   clear hK K
   refine norm_ (a' := ?_) ?_ ?_
   rotate_left
   ·show Act.put _ (some 31) _ = _
    simp only [Act.put, List.setIfInBounds_toArray, List.set_cons_zero, List.set_cons_succ, i64_w, i32_w]
    rfl
   refine pure_ (i := 14) (N := some 32) (v := ?_) (a' := ?_) #[true, true, true, true, true, true, true, true, true, true, true, true, true, true, true, true, false] rfl rfl (any_of HT (by kernel_rfl)) (fun _ _ _ h => h) (Or.inl ⟨by rfl, ?_⟩) ?_ ?_
   rotate_left
   ·intro w'; go_simp; with_reducible rfl
   rotate_left
   ·(simp only [Act.put, List.setIfInBounds_toArray, List.set_cons_zero, List.set_cons_succ, i64_w, i32_w]; rfl)
   exact hCont ⟨_, _, _⟩ _ ⟨SB, hz1, hz2, BG, hle⟩
 rintro ⟨z1, z2, g5⟩ w4 ⟨SB4, hz1, hz2, BG, hle⟩
 clear SB hHeld HT hK1 hK2
 have SB := SB4
 clear SB4
 refine norm_ (a' := ?_) ?_ ?_
 rotate_left
 ·simp only [putAll, Act.put, List.setIfInBounds_toArray, List.set_cons_zero, List.set_cons_succ]
  rfl
 obtain ⟨AP, cP, rfl⟩ := Kd.R_slice hz1
 obtain ⟨AQ, cQ, rfl⟩ := Kd.R_slice hz2
 refine plan_post [(16, 3, none)] ((true, [([], []), ([0], [0]), ([1], [1]), ([], []), ([3], [3]), ([4], [4]), ([2, 5], [2, 5]), ([], []), ([7], [7]), ([8], [8]), ([], []), ([10], [10]), ([11], [11]), ([9, 12, 6], [9, 12]), ([6, 13], [6, 13]), ([], []), ([15, 14, 13, 0, 1, 2, 3, 4, 5, 6, 7, 8, 9, 10, 11, 12, 13, 14, 15], [14, 15])])) [0, 1, 3, 0, 8, 24, 63, 0, 128, 384, 0, 1024, 3072, 8191, 16383, 0, 65535] (by kernel_rfl) (by kernel_rfl) rfl (by kernel_rfl) (by kernel_rfl) (fun _ _ d _ _ h => by cases d <;> exact h) ?_
 refine pl3 rfl rfl (fun K hK => ?_)
 refine opl_storeE rfl rfl 81 (.tmp 5) (.tmp 32) rfl g5 0 81 [.slice none 0 0, .slice none 0 0, .slice none 0 0, .slice none 0 0] [.slice AP (rows x8 0 x6).length cP, .slice AQ (rows x9 0 x7).length cQ, .slice none 0 0, .slice none 0 0] rfl rfl (by kernel_rfl) ⟨⟨_, _, _, rfl⟩, ⟨_, _, _, rfl⟩, ⟨_, _, _, rfl⟩, ⟨_, _, _, rfl⟩, trivial⟩ BG ⟨⟨_, _, _, rfl⟩, ⟨_, _, _, rfl⟩, ⟨_, _, _, rfl⟩, ⟨_, _, _, rfl⟩, trivial⟩ (Nat.le_of_ble_eq_true rfl) SB hle ?_
 intro w5 hE BG' SB'
 have hz1' : Kd.R k79 79 w5 w1.heap.size (fun _ => True) (.slice AP (rows x8 0 x6).length cP) (rows x8 0 x6) := by rw [hE]; exact R_cells (by decide) _ _ hz1 BG.get
 have hz2' : Kd.R k79 79 w5 w1.heap.size (fun _ => True) (.slice AQ (rows x9 0 x7).length cQ) (rows x9 0 x7) := by rw [hE]; exact R_cells (by decide) _ _ hz2 BG.get
 refine hK.out _ _ ?_
 clear hK K hE hz1 hz2 BG SB
 have oq : Oq w1 g5 (.slice AP (rows x8 0 x6).length cP) (.slice AQ (rows x9 0 x7).length cQ) (.slice none 0 0) (.slice none 0 0) (.slice none 0 0) (.slice none 0 0) (rows x8 0 x6) (rows x9 0 x7) [] [] w5 := ⟨SB', BG', hle, hz1', hz2', Kd.R_nil _ _ _ _ _, Kd.R_nil _ _ _ _ _⟩
 clear SB' BG' hle hz1' hz2'
 refine pl_end ?_
 obtain ⟨_, _, _, _⟩ := oq.c
 go_upto_region 5 with fail
 have hm : (((rows x8 0 x6).length : Int) > 40) ∨ (((rows x9 0 x7).length : Int) > 80) := by have := hn_.out; omega
 have SB := oq.sb
 by_cases k1 : (40 : Int) < ((rows x8 0 x6).length : Int)
 ·have d1 : decide ((40 : Int) < ((rows x8 0 x6).length : Int)) = true := decide_eq_true k1
  go_upto_region 6 with fail
  replace B2 := B2.below SB.get
  replace SB := S0.step SB.get
  have RS : TrueW w5 := ⟨trivial⟩
  go_wp2_with ((with_reducible refine gate_store (t := 81) (p := 2) (v := .tmp 43) rfl ?_); refine wpl_store rfl rfl 81 (.tmp 2) (.tmp 43) rfl g2 0 81 [.slice none 0 0, .slice none 0 0, .slice none 0 0, .slice none 0 0] [.slice none 0 0, .slice none 0 0, .slice none 0 0, .slice none 0 0] rfl rfl (by kernel_rfl) ⟨⟨_, _, _, rfl⟩, ⟨_, _, _, rfl⟩, ⟨_, _, _, rfl⟩, ⟨_, _, _, rfl⟩, trivial⟩ B2 ⟨⟨_, _, _, rfl⟩, ⟨_, _, _, rfl⟩, ⟨_, _, _, rfl⟩, ⟨_, _, _, rfl⟩, trivial⟩ (Nat.le_of_ble_eq_true rfl) RS SB n2 ?_; clear RS SB B2; intro w9 RS B2 SB)
  refine bodyPost_ret (results_list (rs := [.cell 2 81, .tmp 3]) rfl (by simp) (.cell g2 81 #[.slice none 0 0, .slice none 0 0, .slice none 0 0, .slice none 0 0] (0, 0) _ rfl B2.get Try.underlying81 rfl (by kernel_rfl) (.tmp .nil))) rfl ?_
  exact ⟨_, _, _, _, rfl, Kd.R_nil _ _ _ _ _, Kd.R_nil _ _ _ _ _, Kd.R_nil _ _ _ _ _, Kd.R_nil _ _ _ _ _, SB.get⟩
 ·have d1 : decide ((40 : Int) < ((rows x8 0 x6).length : Int)) = false := decide_eq_false k1
  have k2 : (80 : Int) < ((rows x9 0 x7).length : Int) := by omega
  have d2 : decide ((80 : Int) < ((rows x9 0 x7).length : Int)) = true := decide_eq_true k2
  go_upto_region 6 with fail
  replace B2 := B2.below SB.get
  replace SB := S0.step SB.get
  have RS : TrueW w5 := ⟨trivial⟩
  go_wp2_with ((with_reducible refine gate_store (t := 81) (p := 2) (v := .tmp 43) rfl ?_); refine wpl_store rfl rfl 81 (.tmp 2) (.tmp 43) rfl g2 0 81 [.slice none 0 0, .slice none 0 0, .slice none 0 0, .slice none 0 0] [.slice none 0 0, .slice none 0 0, .slice none 0 0, .slice none 0 0] rfl rfl (by kernel_rfl) ⟨⟨_, _, _, rfl⟩, ⟨_, _, _, rfl⟩, ⟨_, _, _, rfl⟩, ⟨_, _, _, rfl⟩, trivial⟩ B2 ⟨⟨_, _, _, rfl⟩, ⟨_, _, _, rfl⟩, ⟨_, _, _, rfl⟩, ⟨_, _, _, rfl⟩, trivial⟩ (Nat.le_of_ble_eq_true rfl) RS SB n2 ?_; clear RS SB B2; intro w9 RS B2 SB)
  refine bodyPost_ret (results_list (rs := [.cell 2 81, .tmp 3]) rfl (by simp) (.cell g2 81 #[.slice none 0 0, .slice none 0 0, .slice none 0 0, .slice none 0 0] (0, 0) _ rfl B2.get Try.underlying81 rfl (by kernel_rfl) (.tmp .nil))) rfl ?_
  exact ⟨_, _, _, _, rfl, Kd.R_nil _ _ _ _ _, Kd.R_nil _ _ _ _ _, Kd.R_nil _ _ _ _ _, Kd.R_nil _ _ _ _ _, SB.get⟩
set_option maxHeartbeats 4000000 in
set_option maxRecDepth 100000 in
theorem of_c (A0 : Option Addr) (c0 : Nat) (x0 : List Int) (A1 : Option Addr) (c1 : Nat) (x1 : List S94) (A2 : Option Addr) (c2 : Nat) (x2 : List Int) (A3 : Option Addr) (c3 : Nat) (x3 : List S94) (A4 : Option Addr) (c4 : Nat) (x4 : List Int) (A5 : Option Addr) (c5 : Nat) (x5 : List S94) (A6 : Option Addr) (c6 : Nat) (x6 : List Int) (A7 : Option Addr) (c7 : Nat) (x7 : List Int) (A8 : Option Addr) (c8 : Nat) (x8 : List Int) (A9 : Option Addr) (c9 : Nat) (x9 : List Int) (w : World)
  (R0 : Row (Kd.int .i64) w A0 c0 x0) (R1 : Row k94 w A1 c1 x1) (R2 : Row (Kd.int .i64) w A2 c2 x2) (R3 : Row k94 w A3 c3 x3) (R4 : Row (Kd.int .i64) w A4 c4 x4) (R5 : Row k94 w A5 c5 x5) (R6 : Row (Kd.int .i64) w A6 c6 x6) (R7 : Row (Kd.int .i64) w A7 c7 x7) (R8 : Row (Kd.int .i64) w A8 c8 x8) (R9 : Row (Kd.int .i64) w A9 c9 x9)
  (hg : giv x0 x1 x2 x3 x4 x5 x6 x7 x8 x9 = 0) (hn : (rows x8 0 x6).length ≤ 40 ∧ (rows x9 0 x7).length ≤ 80) :
  Calls Try.prog 41 #[.agg #[.slice A0 x0.length c0, .slice A1 x1.length c1, .slice A2 x2.length c2, .slice A3 x3.length c3, .slice A4 x4.length c4, .slice A5 x5.length c5, .slice A6 x6.length c6, .slice A7 x7.length c7, .slice A8 x8.length c8, .slice A9 x9.length c9]] w fun e w' => ∃ v0 v1 v2 v3 : Value, e = .returned (.tuple #[.agg #[v0, v1, v2, v3], .int .i64 0]) ∧ Kd.R k79 79 w' w.heap.size (fun _ => True) v0 (rows x8 0 x6) ∧ Kd.R k79 79 w' w.heap.size (fun _ => True) v1 (rows x9 0 x7) ∧ Kd.R (Kd.int .i64) 3 w' w.heap.size (fun _ => True) v2 ((rows x8 0 x6).map (fun p => rd x0 p.f0)) ∧ Kd.R k94 94 w' w.heap.size (fun _ => True) v3 ((rows x9 0 x7).map (edg x1 x3 (rows x8 0 x6))) ∧ Below w.heap.size w w' := by
 have hu25 := Try.underlying25
 have hu27 := Try.underlying27
 have hu29 := Try.underlying29
 have hu79 := Try.underlying79
 have hu81 := Try.underlying81
 have hu94 := Try.underlying94
 have hg_ := Aside0.mk hg
 have hn_ := Aside0.mk hn
 clear hg hn
 go_enter Try.func41, Try.ntmps41
 go_upto_region 1 with fail
 obtain ⟨w1, hv, BX, B2, hb⟩ := nw2 w 29 #[.slice A0 x0.length c0, .slice A1 x1.length c1, .slice A2 x2.length c2, .slice A3 x3.length c3, .slice A4 x4.length c4, .slice A5 x5.length c5, .slice A6 x6.length c6, .slice A7 x7.length c7, .slice A8 x8.length c8, .slice A9 x9.length c9] 81 #[.slice none 0 0, .slice none 0 0, .slice none 0 0, .slice none 0 0]
 rw [← hv]
 have S0 : Since w w1 := ⟨hb⟩
 have SB := Since.refl w1
 have n2 : w.heap.size ≤ w.heap.size + 1 := Nat.le_succ _
 clear hv
 replace R0 := R0.below hb
 replace R1 := R1.below hb
 replace R2 := R2.below hb
 replace R3 := R3.below hb
 replace R4 := R4.below hb
 replace R5 := R5.below hb
 replace R6 := R6.below hb
 replace R7 := R7.below hb
 replace R8 := R8.below hb
 replace R9 := R9.below hb
 clear hb
 generalize w.heap.size + 1 = g2 at *
 obtain ⟨gd, hgd, BX⟩ : ∃ gd, gd = w.heap.size ∧ Blk w1 gd 29 #[.slice A0 x0.length c0, .slice A1 x1.length c1, .slice A2 x2.length c2, .slice A3 x3.length c3, .slice A4 x4.length c4, .slice A5 x5.length c5, .slice A6 x6.length c6, .slice A7 x7.length c7, .slice A8 x8.length c8, .slice A9 x9.length c9] := ⟨_, rfl, BX⟩
 rw [← hgd]
 clear hgd
 obtain ⟨_, _, _, _, _, _, _, _, _, _⟩ := BX.q10
 go_wp2_with fail
 refine (pullback_given.calls _ _ x0 _ _ x1 _ _ x2 _ _ x3 _ _ x4 _ _ x5 _ _ x6 _ _ x7 _ _ x8 _ _ x9 (giv x0 x1 x2 x3 x4 x5 x6 x7 x8 x9) _ R0.at_ R0.cap R1.at_ R1.cap R2.at_ R2.cap R3.at_ R3.cap R4.at_ R4.cap R5.at_ R5.cap R6.at_ R6.cap R7.at_ R7.cap R8.at_ R8.cap R9.at_ R9.cap (given_eq' x0 x1 x2 x3 x4 x5 x6 x7 x8 x9)).mono ?_
 rintro e w2 ⟨rfl, hb⟩
 replace SB := SB.step hb
 clear hb
 rw [hg_.out]
 go_upto_region 4 with fail
 obtain ⟨mv1, mv2⟩ := giv_len _ _ _ _ _ _ _ _ _ _ hg_.out
 obtain ⟨v1, -, a1, a2, -⟩ := mvalid_iff.mp mv1
 obtain ⟨v2, -, b1, b2, -⟩ := mvalid_iff.mp mv2
 obtain ⟨l1, l2, -⟩ := validE_iff.mp v1
 obtain ⟨l3, l4, -⟩ := validE_iff.mp v2
 obtain ⟨K1, hK1⟩ := pairs_ev x6 x8 (by omega) (by omega)
 obtain ⟨K2, hK2⟩ := pairs_ev x7 x9 (by omega) (by omega)
 replace mv1 := Aside0.mk mv1
 replace mv2 := Aside0.mk mv2
 clear v1 v2 a1 a2 b1 b2 l1 l2 l3 l4
 replace SB := SB.step (below_drew1 (Below.refl _ _))
 have hHeld : w2.drew.cell? ⟨gd, 6, none⟩ = some (.slice A6 x6.length c6) ∧ w2.drew.cell? ⟨gd, 8, none⟩ = some (.slice A8 x8.length c8) ∧ w2.drew.cell? ⟨gd, 7, none⟩ = some (.slice A7 x7.length c7) ∧ w2.drew.cell? ⟨gd, 9, none⟩ = some (.slice A9 x9.length c9) := ⟨(BX.below SB.get).at 6 rfl, (BX.below SB.get).at 8 rfl, (BX.below SB.get).at 7 rfl, (BX.below SB.get).at 9 rfl⟩
 refine plan_pre (fun w' => w'.cell? ⟨gd, 6, none⟩ = some (.slice A6 x6.length c6) ∧ w'.cell? ⟨gd, 8, none⟩ = some (.slice A8 x8.length c8) ∧ w'.cell? ⟨gd, 7, none⟩ = some (.slice A7 x7.length c7) ∧ w'.cell? ⟨gd, 9, none⟩ = some (.slice A9 x9.length c9)) [16] [(0, 1, some 18), (1, 1, some 19), (2, 2, some 20), (3, 1, some 21), (4, 1, some 22), (5, 2, some 23), (7, 1, some 25), (8, 1, some 26), (9, 2, some 27), (10, 1, some 28), (11, 1, some 29), (12, 2, some 30)] 5 ((true, [([], []), ([0], [0]), ([1], [1]), ([], []), ([3], [3]), ([4], [4]), ([2, 5], [2, 5]), ([], []), ([7], [7]), ([8], [8]), ([], []), ([10], [10]), ([11], [11]), ([9, 12, 6], [9, 12]), ([6, 13], [6, 13]), ([], []), ([15, 14, 13, 0, 1, 2, 3, 4, 5, 6, 7, 8, 9, 10, 11, 12, 13, 14, 15], [14, 15])])) [0, 1, 3, 0, 8, 24, 63, 0, 128, 384, 0, 1024, 3072, 8191, 16383, 0, 65535] (by kernel_rfl) (by kernel_rfl) rfl rfl (by kernel_rfl) (fun _ _ d _ _ h => by cases d <;> exact h) ?_
 generalize w2.drew = wd at *
 repeat (first
  | (refine pl1 (v := ?_) (a' := ?_) rfl rfl (Or.inl ⟨by rfl, ?_⟩) ?_ ?_; rotate_left; (intro w'; go_simp; with_reducible rfl); rotate_left; (simp only [Act.put, List.setIfInBounds_toArray, List.set_cons_zero, List.set_cons_succ, i64_w, i32_w]; rfl))
  | (refine pl2 (v := ?_) (a' := ?_) rfl rfl hHeld (Or.inl ⟨by rfl, ?_⟩) ?_ ?_; rotate_left; (rintro w' ⟨s0, s1, s2, s3⟩; go_simp; with_reducible rfl); rotate_left; (simp only [Act.put, List.setIfInBounds_toArray, List.set_cons_zero, List.set_cons_succ, i64_w, i32_w]; rfl)))
 refine pl_end ?_
 have HT : rtab .any _ = _ := (by kernel_rfl : rtab .any (opsOf Try.f41 4) = (true, [([], []), ([0], [0]), ([1], [1]), ([], []), ([3], [3]), ([4], [4]), ([2, 5], [2, 5]), ([], []), ([7], [7]), ([8], [8]), ([], []), ([10], [10]), ([11], [11]), ([9, 12, 6], [9, 12]), ([6, 13], [6, 13]), ([], []), ([15, 14, 13, 0, 1, 2, 3, 4, 5, 6, 7, 8, 9, 10, 11, 12, 13, 14, 15], [14, 15])]))
 show wpAnyLast _ _ _ _ _ _ 5 #[true, true, true, true, true, true, false, true, true, true, true, true, true, false, false, false, false] _ _
 refine join_ (σ := Value × Value × Nat) 1 #[true, true, true, true, true, true, true, true, true, true, true, true, true, true, true, true, false] (fun s => [(24, s.1), (31, s.2.1), (32, .agg #[s.1, s.2.1, .slice none 0 0, .slice none 0 0]), (5, .pointer (some ⟨s.2.2, 0, none⟩))]) (fun s w' => Since w1 w' ∧ Kd.R k79 79 w' w1.heap.size (fun _ => True) s.1 (rows x8 0 x6) ∧ Kd.R k79 79 w' w1.heap.size (fun _ => True) s.2.1 (rows x9 0 x7) ∧ Blk w' s.2.2 81 #[.slice none 0 0, .slice none 0 0, .slice none 0 0, .slice none 0 0] ∧ w1.heap.size ≤ s.2.2) ?_ ?_
 rotate_left
 ·intro hCont
  clear hHeld
  refine two_ (i := 6) (j := 15) (Ni := some 24) (Nj := some 5) #[true, true, true, true, true, true, true, true, true, true, true, true, true, false, false, false, false] #[true, true, true, true, true, true, false, true, true, true, true, true, true, false, false, true, false] rfl rfl rfl rfl (two_of HT (by kernel_rfl)) (by decide) (by decide) (fun K hK => ?_) (fun K hK => ?_)
  ·skip
   refine goes_ Try.func66 (by kernel_rfl) rfl #[.slice A6 x6.length c6, .slice A8 x8.length c8] (by rfl) rfl rfl (by (try simp only [List.map_toArray, List.map_cons, List.map_nil]); first | done | rfl) ?_
   refine (pullback_pairs.calls K1 _ _ x6 _ _ x8 (rows x8 0 x6) _ (R6.below SB.get).at_ R6.cap (R8.below SB.get).at_ R8.cap (hK1 _ (Nat.le_refl _))).mono ?_
   rintro e we ⟨z1, rfl, hz1, hb⟩
   obtain ⟨_, _, rfl⟩ := Kd.R_slice hz1
   refine ⟨_, rfl, ?_⟩
   replace hz1 := Kd.R_lower hz1 SB.get.size
   replace SB := SB.step hb
   refine hK.out _ _ ⟨(BX.below SB.get).at 6 rfl, (BX.below SB.get).at 8 rfl, (BX.below SB.get).at 7 rfl, (BX.below SB.get).at 9 rfl⟩ (fun _ => ?_)
   clear hb
   clear hK K
   refine norm_ (a' := ?_) ?_ ?_
   rotate_left
   ·show Act.put _ (some 24) _ = _
    simp only [Act.put, List.setIfInBounds_toArray, List.set_cons_zero, List.set_cons_succ, i64_w, i32_w]
    rfl
   refine two_ (i := 13) (j := 15) (Ni := some 31) (Nj := some 5) #[true, true, true, true, true, true, true, true, true, true, true, true, true, true, false, false, false] #[true, true, true, true, true, true, true, true, true, true, true, true, true, false, false, true, false] rfl rfl rfl rfl (two_of HT (by kernel_rfl)) (by decide) (by decide) (fun K hK => ?_) (fun K hK => ?_)
   ·skip
    refine goes_ Try.func66 (by kernel_rfl) rfl #[.slice A7 x7.length c7, .slice A9 x9.length c9] (by rfl) rfl rfl (by (try simp only [List.map_toArray, List.map_cons, List.map_nil]); first | done | rfl) ?_
    refine (pullback_pairs.calls K2 _ _ x7 _ _ x9 (rows x9 0 x7) _ (R7.below SB.get).at_ R7.cap (R9.below SB.get).at_ R9.cap (hK2 _ (Nat.le_refl _))).mono ?_
    rintro e wf ⟨z2, rfl, hz2, hb⟩
    obtain ⟨_, _, rfl⟩ := Kd.R_slice hz2
    refine ⟨_, rfl, ?_⟩
    replace hz2 := Kd.R_lower hz2 SB.get.size
    replace SB := SB.step hb
    replace hz1 := Kd.R_below hz1 hb
    refine hK.out _ _ ⟨(BX.below SB.get).at 6 rfl, (BX.below SB.get).at 8 rfl, (BX.below SB.get).at 7 rfl, (BX.below SB.get).at 9 rfl⟩ (fun _ => ?_)
    clear hb
    clear hK K
    refine norm_ (a' := ?_) ?_ ?_
    rotate_left
    ·show Act.put _ (some 31) _ = _
     simp only [Act.put, List.setIfInBounds_toArray, List.set_cons_zero, List.set_cons_succ, i64_w, i32_w]
     rfl
    refine pure_ (i := 14) (N := some 32) (v := ?_) (a' := ?_) #[true, true, true, true, true, true, true, true, true, true, true, true, true, true, true, false, false] rfl rfl (any_of HT (by kernel_rfl)) (fun _ _ _ h => h) (Or.inl ⟨by rfl, ?_⟩) ?_ ?_
    rotate_left
    ·intro w'; go_simp; with_reducible rfl
    rotate_left
    ·(simp only [Act.put, List.setIfInBounds_toArray, List.set_cons_zero, List.set_cons_succ, i64_w, i32_w]; rfl)
    refine one_ (i := 15) (N := some 5) #[true, true, true, true, true, true, true, true, true, true, true, true, true, true, true, true, false] rfl rfl (one_of HT (by kernel_rfl)) (by decide) (fun K hK => ?_)
    refine value_ (w1 := wf.alloc (.cells #[.slice none 0 0, .slice none 0 0, .slice none 0 0, .slice none 0 0] 81)) (v := .pointer (some ⟨wf.heap.size, 0, none⟩)) (by rfl) rfl ?_ ?_
    ·first | (go_simp; done) | (go_simp; rfl)
    obtain ⟨BG, hb⟩ := blk_new1 wf 81 #[.slice none 0 0, .slice none 0 0, .slice none 0 0, .slice none 0 0]
    have hle := SB.get.size
    replace SB := SB.step hb
    replace hz1 := Kd.R_below hz1 hb
    replace hz2 := Kd.R_below hz2 hb
    refine hK.out _ _ ⟨(BX.below SB.get).at 6 rfl, (BX.below SB.get).at 8 rfl, (BX.below SB.get).at 7 rfl, (BX.below SB.get).at 9 rfl⟩ (fun _ => ?_)
    clear hb
    generalize wf.alloc (.cells #[.slice none 0 0, .slice none 0 0, .slice none 0 0, .slice none 0 0] 81) = wg at *
    generalize wf.heap.size = g5 at BG hle ⊢
    clear hK K
    refine norm_ (a' := ?_) ?_ ?_
    rotate_left
    ·show Act.put _ (some 5) _ = _
     simp only [Act.put, List.setIfInBounds_toArray, List.set_cons_zero, List.set_cons_succ, i64_w, i32_w]
     rfl
    exact hCont ⟨_, _, _⟩ _ ⟨SB, hz1, hz2, BG, hle⟩
   ·skip
    refine value_ (w1 := we.alloc (.cells #[.slice none 0 0, .slice none 0 0, .slice none 0 0, .slice none 0 0] 81)) (v := .pointer (some ⟨we.heap.size, 0, none⟩)) (by rfl) rfl ?_ ?_
    ·first | (go_simp; done) | (go_simp; rfl)
    obtain ⟨BG, hb⟩ := blk_new1 we 81 #[.slice none 0 0, .slice none 0 0, .slice none 0 0, .slice none 0 0]
    have hle := SB.get.size
    replace SB := SB.step hb
    replace hz1 := Kd.R_below hz1 hb
    refine hK.out _ _ ⟨(BX.below SB.get).at 6 rfl, (BX.below SB.get).at 8 rfl, (BX.below SB.get).at 7 rfl, (BX.below SB.get).at 9 rfl⟩ (fun _ => ?_)
    clear hb
    generalize we.alloc (.cells #[.slice none 0 0, .slice none 0 0, .slice none 0 0, .slice none 0 0] 81) = wf at *
    generalize we.heap.size = g5 at BG hle ⊢
    clear hK K
    refine norm_ (a' := ?_) ?_ ?_
    rotate_left
    ·show Act.put _ (some 5) _ = _
     simp only [Act.put, List.setIfInBounds_toArray, List.set_cons_zero, List.set_cons_succ, i64_w, i32_w]
     rfl
    refine one_ (i := 13) (N := some 31) #[true, true, true, true, true, true, true, true, true, true, true, true, true, true, false, true, false] rfl rfl (one_of HT (by kernel_rfl)) (by decide) (fun K hK => ?_)
    refine goes_ Try.func66 (by kernel_rfl) rfl #[.slice A7 x7.length c7, .slice A9 x9.length c9] (by rfl) rfl rfl (by (try simp only [List.map_toArray, List.map_cons, List.map_nil]); first | done | rfl) ?_
    refine (pullback_pairs.calls K2 _ _ x7 _ _ x9 (rows x9 0 x7) _ (R7.below SB.get).at_ R7.cap (R9.below SB.get).at_ R9.cap (hK2 _ (Nat.le_refl _))).mono ?_
    rintro e wg ⟨z2, rfl, hz2, hb⟩
    obtain ⟨_, _, rfl⟩ := Kd.R_slice hz2
    refine ⟨_, rfl, ?_⟩
    replace hz2 := Kd.R_lower hz2 SB.get.size
    replace SB := SB.step hb
    replace hz1 := Kd.R_below hz1 hb
    replace BG := BG.below hb
    refine hK.out _ _ ⟨(BX.below SB.get).at 6 rfl, (BX.below SB.get).at 8 rfl, (BX.below SB.get).at 7 rfl, (BX.below SB.get).at 9 rfl⟩ (fun _ => ?_)
    clear hb
    clear hK K
    refine norm_ (a' := ?_) ?_ ?_
    rotate_left
    ·show Act.put _ (some 31) _ = _
     simp only [Act.put, List.setIfInBounds_toArray, List.set_cons_zero, List.set_cons_succ, i64_w, i32_w]
     rfl
    refine pure_ (i := 14) (N := some 32) (v := ?_) (a' := ?_) #[true, true, true, true, true, true, true, true, true, true, true, true, true, true, true, true, false] rfl rfl (any_of HT (by kernel_rfl)) (fun _ _ _ h => h) (Or.inl ⟨by rfl, ?_⟩) ?_ ?_
    rotate_left
    ·intro w'; go_simp; with_reducible rfl
    rotate_left
    ·(simp only [Act.put, List.setIfInBounds_toArray, List.set_cons_zero, List.set_cons_succ, i64_w, i32_w]; rfl)
    exact hCont ⟨_, _, _⟩ _ ⟨SB, hz1, hz2, BG, hle⟩
  ·skip
   refine value_ (w1 := wd.alloc (.cells #[.slice none 0 0, .slice none 0 0, .slice none 0 0, .slice none 0 0] 81)) (v := .pointer (some ⟨wd.heap.size, 0, none⟩)) (by rfl) rfl ?_ ?_
   ·first | (go_simp; done) | (go_simp; rfl)
   obtain ⟨BG, hb⟩ := blk_new1 wd 81 #[.slice none 0 0, .slice none 0 0, .slice none 0 0, .slice none 0 0]
   have hle := SB.get.size
   replace SB := SB.step hb
   refine hK.out _ _ ⟨(BX.below SB.get).at 6 rfl, (BX.below SB.get).at 8 rfl, (BX.below SB.get).at 7 rfl, (BX.below SB.get).at 9 rfl⟩ (fun _ => ?_)
   clear hb
   generalize wd.alloc (.cells #[.slice none 0 0, .slice none 0 0, .slice none 0 0, .slice none 0 0] 81) = we at *
   generalize wd.heap.size = g5 at BG hle ⊢
   clear hK K
   refine norm_ (a' := ?_) ?_ ?_
   rotate_left
   ·show Act.put _ (some 5) _ = _
    simp only [Act.put, List.setIfInBounds_toArray, List.set_cons_zero, List.set_cons_succ, i64_w, i32_w]
    rfl
   refine one_ (i := 6) (N := some 24) #[true, true, true, true, true, true, true, true, true, true, true, true, true, false, false, true, false] rfl rfl (one_of HT (by kernel_rfl)) (by decide) (fun K hK => ?_)
   refine goes_ Try.func66 (by kernel_rfl) rfl #[.slice A6 x6.length c6, .slice A8 x8.length c8] (by rfl) rfl rfl (by (try simp only [List.map_toArray, List.map_cons, List.map_nil]); first | done | rfl) ?_
   refine (pullback_pairs.calls K1 _ _ x6 _ _ x8 (rows x8 0 x6) _ (R6.below SB.get).at_ R6.cap (R8.below SB.get).at_ R8.cap (hK1 _ (Nat.le_refl _))).mono ?_
   rintro e wf ⟨z1, rfl, hz1, hb⟩
   obtain ⟨_, _, rfl⟩ := Kd.R_slice hz1
   refine ⟨_, rfl, ?_⟩
   replace hz1 := Kd.R_lower hz1 SB.get.size
   replace SB := SB.step hb
   replace BG := BG.below hb
   refine hK.out _ _ ⟨(BX.below SB.get).at 6 rfl, (BX.below SB.get).at 8 rfl, (BX.below SB.get).at 7 rfl, (BX.below SB.get).at 9 rfl⟩ (fun _ => ?_)
   clear hb
   clear hK K
   refine norm_ (a' := ?_) ?_ ?_
   rotate_left
   ·show Act.put _ (some 24) _ = _
    simp only [Act.put, List.setIfInBounds_toArray, List.set_cons_zero, List.set_cons_succ, i64_w, i32_w]
    rfl
   refine one_ (i := 13) (N := some 31) #[true, true, true, true, true, true, true, true, true, true, true, true, true, true, false, true, false] rfl rfl (one_of HT (by kernel_rfl)) (by decide) (fun K hK => ?_)
   refine goes_ Try.func66 (by kernel_rfl) rfl #[.slice A7 x7.length c7, .slice A9 x9.length c9] (by rfl) rfl rfl (by (try simp only [List.map_toArray, List.map_cons, List.map_nil]); first | done | rfl) ?_
   refine (pullback_pairs.calls K2 _ _ x7 _ _ x9 (rows x9 0 x7) _ (R7.below SB.get).at_ R7.cap (R9.below SB.get).at_ R9.cap (hK2 _ (Nat.le_refl _))).mono ?_
   rintro e wg ⟨z2, rfl, hz2, hb⟩
   obtain ⟨_, _, rfl⟩ := Kd.R_slice hz2
   refine ⟨_, rfl, ?_⟩
   replace hz2 := Kd.R_lower hz2 SB.get.size
   replace SB := SB.step hb
   replace hz1 := Kd.R_below hz1 hb
   replace BG := BG.below hb
   refine hK.out _ _ ⟨(BX.below SB.get).at 6 rfl, (BX.below SB.get).at 8 rfl, (BX.below SB.get).at 7 rfl, (BX.below SB.get).at 9 rfl⟩ (fun _ => ?_)
   clear hb
   clear hK K
   refine norm_ (a' := ?_) ?_ ?_
   rotate_left
   ·show Act.put _ (some 31) _ = _
    simp only [Act.put, List.setIfInBounds_toArray, List.set_cons_zero, List.set_cons_succ, i64_w, i32_w]
    rfl
   refine pure_ (i := 14) (N := some 32) (v := ?_) (a' := ?_) #[true, true, true, true, true, true, true, true, true, true, true, true, true, true, true, true, false] rfl rfl (any_of HT (by kernel_rfl)) (fun _ _ _ h => h) (Or.inl ⟨by rfl, ?_⟩) ?_ ?_
   rotate_left
   ·intro w'; go_simp; with_reducible rfl
   rotate_left
   ·(simp only [Act.put, List.setIfInBounds_toArray, List.set_cons_zero, List.set_cons_succ, i64_w, i32_w]; rfl)
   exact hCont ⟨_, _, _⟩ _ ⟨SB, hz1, hz2, BG, hle⟩
 rintro ⟨z1, z2, g5⟩ w4 ⟨SB4, hz1, hz2, BG, hle⟩
 clear SB hHeld HT hK1 hK2
 have SB := SB4
 clear SB4
 refine norm_ (a' := ?_) ?_ ?_
 rotate_left
 ·simp only [putAll, Act.put, List.setIfInBounds_toArray, List.set_cons_zero, List.set_cons_succ]
  rfl
 obtain ⟨AP, cP, rfl⟩ := Kd.R_slice hz1
 obtain ⟨AQ, cQ, rfl⟩ := Kd.R_slice hz2
 refine plan_post [(16, 3, none)] ((true, [([], []), ([0], [0]), ([1], [1]), ([], []), ([3], [3]), ([4], [4]), ([2, 5], [2, 5]), ([], []), ([7], [7]), ([8], [8]), ([], []), ([10], [10]), ([11], [11]), ([9, 12, 6], [9, 12]), ([6, 13], [6, 13]), ([], []), ([15, 14, 13, 0, 1, 2, 3, 4, 5, 6, 7, 8, 9, 10, 11, 12, 13, 14, 15], [14, 15])])) [0, 1, 3, 0, 8, 24, 63, 0, 128, 384, 0, 1024, 3072, 8191, 16383, 0, 65535] (by kernel_rfl) (by kernel_rfl) rfl (by kernel_rfl) (by kernel_rfl) (fun _ _ d _ _ h => by cases d <;> exact h) ?_
 refine pl3 rfl rfl (fun K hK => ?_)
 refine opl_storeE rfl rfl 81 (.tmp 5) (.tmp 32) rfl g5 0 81 [.slice none 0 0, .slice none 0 0, .slice none 0 0, .slice none 0 0] [.slice AP (rows x8 0 x6).length cP, .slice AQ (rows x9 0 x7).length cQ, .slice none 0 0, .slice none 0 0] rfl rfl (by kernel_rfl) ⟨⟨_, _, _, rfl⟩, ⟨_, _, _, rfl⟩, ⟨_, _, _, rfl⟩, ⟨_, _, _, rfl⟩, trivial⟩ BG ⟨⟨_, _, _, rfl⟩, ⟨_, _, _, rfl⟩, ⟨_, _, _, rfl⟩, ⟨_, _, _, rfl⟩, trivial⟩ (Nat.le_of_ble_eq_true rfl) SB hle ?_
 intro w5 hE BG' SB'
 have hz1' : Kd.R k79 79 w5 w1.heap.size (fun _ => True) (.slice AP (rows x8 0 x6).length cP) (rows x8 0 x6) := by rw [hE]; exact R_cells (by decide) _ _ hz1 BG.get
 have hz2' : Kd.R k79 79 w5 w1.heap.size (fun _ => True) (.slice AQ (rows x9 0 x7).length cQ) (rows x9 0 x7) := by rw [hE]; exact R_cells (by decide) _ _ hz2 BG.get
 refine hK.out _ _ ?_
 clear hK K hE hz1 hz2 BG SB
 have oq : Oq w1 g5 (.slice AP (rows x8 0 x6).length cP) (.slice AQ (rows x9 0 x7).length cQ) (.slice none 0 0) (.slice none 0 0) (.slice none 0 0) (.slice none 0 0) (rows x8 0 x6) (rows x9 0 x7) [] [] w5 := ⟨SB', BG', hle, hz1', hz2', Kd.R_nil _ _ _ _ _, Kd.R_nil _ _ _ _ _⟩
 clear SB' BG' hle hz1' hz2'
 refine pl_end ?_
 have d1 : decide ((40 : Int) < ((rows x8 0 x6).length : Int)) = false := decide_eq_false (by have := hn_.out.1; omega)
 have d2 : decide ((80 : Int) < ((rows x9 0 x7).length : Int)) = false := decide_eq_false (by have := hn_.out.2; omega)
 obtain ⟨_, _, _, _⟩ := oq.c
 go_upto_region 7 with fail
 go_wp2_with fail
 go_loopg [47] (rows x8 0 x6).length (fun kq v47 w' => ∃ (i : Nat) (lN : List Int) (vN : Value), v47 = .int .i64 i ∧ Aside0 (i + kq = (rows x8 0 x6).length ∧ lN = ((rows x8 0 x6).take i).map (fun p => rd x0 p.f0)) ∧ Oq w1 g5 (.slice AP (rows x8 0 x6).length cP) (.slice AQ (rows x9 0 x7).length cQ) (vN) (.slice none 0 0) (vN) (.slice none 0 0) (rows x8 0 x6) (rows x9 0 x7) lN [] w')
 case atStart => exact ⟨0, [], _, rfl, ⟨by omega, rfl⟩, oq⟩
 case round =>
  clear oq
  obtain ⟨i, lN, vN, rfl, A, oq⟩ := hrel
  by_cases k : (i : Int) < ((rows x8 0 x6).length : Int)
  ·skip
   have d1 : decide ((i : Int) < ((rows x8 0 x6).length : Int)) = true := decide_eq_true k
   obtain ⟨c1, c2, -⟩ := rows_mem.mp (rd79_mem (rows x8 0 x6) (i : Int) (by omega) k)
   have c3 : (rd_T79 (rows x8 0 x6) (i : Int)).f0 < (x0.length : Int) := by have := (mvalid_iff.mp mv1.out).2.2.1; omega
   obtain ⟨ap, eap, hp0, hp1⟩ := at_T79 oq.rP.at_ (i : Int) (by omega) k
   cases eap
   rw [Int.toNat_natCast] at hp0 hp1
   have q0 : (0 ≤ (i : Int)) = True := eq_true (by omega)
   have q1 := eq_true k
   have k_ := Aside0.mk k
   clear k
   go_upto_region 10 with fail
   obtain ⟨wa, hv, B7, hb⟩ := nw1 wr 79 #[.int .i64 (rd_T79 (rows x8 0 x6) (i : Int)).f0, .int .i64 (rd_T79 (rows x8 0 x6) (i : Int)).f1]
   rw [← hv]
   clear hv
   replace oq := oq.below hb
   clear hb hp0 hp1
   generalize wr.heap.size = g7 at B7 ⊢
   obtain ⟨ad0, ead, hc⟩ := Kd.at_int R0.at_ (rd_T79 (rows x8 0 x6) (i : Int)).f0 c1 c3
   cases ead
   have p0 := eq_true c1
   have p1 := eq_true c3
   have hbd := below_drew1 (Below.refl wa.heap.size wa)
   replace oq := oq.below hbd
   replace B7 := B7.below hbd
   clear hbd
   have hHeld : wa.drew.cell? ⟨g5, 2, none⟩ = some (vN) ∧ wa.drew.cell? ⟨gd, 0, none⟩ = some (.slice (some ad0) x0.length c0) ∧ wa.drew.cell? ⟨g7, 0, none⟩ = some (.int .i64 (rd_T79 (rows x8 0 x6) (i : Int)).f0) ∧ wa.drew.cell? (ad0.add (rd_T79 (rows x8 0 x6) (i : Int)).f0.toNat) = some (.int .i64 (rd x0 (rd_T79 (rows x8 0 x6) (i : Int)).f0)) := ⟨oq.c.2.2.1, (BX.below oq.sb.get).at 0 rfl, B7.at 0 rfl, oq.sb.c hc⟩
   refine plan_ (fun w' => w'.cell? ⟨g5, 2, none⟩ = some (vN) ∧ w'.cell? ⟨gd, 0, none⟩ = some (.slice (some ad0) x0.length c0) ∧ w'.cell? ⟨g7, 0, none⟩ = some (.int .i64 (rd_T79 (rows x8 0 x6) (i : Int)).f0) ∧ w'.cell? (ad0.add (rd_T79 (rows x8 0 x6) (i : Int)).f0.toNat) = some (.int .i64 (rd x0 (rd_T79 (rows x8 0 x6) (i : Int)).f0))) [11, 14] [(0, 1, some 51), (1, 1, some 52), (2, 2, some 53), (3, 1, some 54), (4, 1, some 55), (5, 2, some 56), (6, 1, some 57), (7, 2, some 58), (8, 1, some 59), (9, 2, some 60), (10, 0, some 61), (11, 3, some 62), (12, 1, some 63), (13, 1, some 64), (14, 3, none)] ((true, [([], []), ([0], [0]), ([1], [1]), ([], []), ([3], [3]), ([4], [4]), ([], []), ([6], [6]), ([5, 7], [5, 7]), ([8], [8]), ([9], [9]), ([2, 10], [2, 10]), ([0, 1, 2, 3, 4, 5, 6, 7, 8, 9, 10, 11], []), ([12, 0, 1, 2, 3, 4, 5, 6, 7, 8, 9, 10, 11], [12]), ([13, 11, 11, 0, 1, 2, 3, 4, 5, 6, 7, 8, 9, 10, 11], [11, 13])])) [0, 1, 3, 0, 8, 24, 0, 64, 248, 504, 1016, 2047, 4095, 8191, 16383] (by kernel_rfl) (by kernel_rfl) rfl rfl (by kernel_rfl) (by kernel_rfl) (fun _ _ d _ _ h => by cases d <;> exact h) ?_
   generalize wa.drew = wd at *
   repeat (first
    | (refine pl1 (v := ?_) (a' := ?_) rfl rfl (Or.inl ⟨by rfl, ?_⟩) ?_ ?_; rotate_left; (intro w'; go_simp; with_reducible rfl); rotate_left; (simp only [Act.put, List.setIfInBounds_toArray, List.set_cons_zero, List.set_cons_succ, i64_w, i32_w]; rfl))
    | (refine pl2 (v := ?_) (a' := ?_) rfl rfl hHeld (Or.inl ⟨by rfl, ?_⟩) ?_ ?_; rotate_left; (rintro w' ⟨s0, s1, s2, s3⟩; go_simp; with_reducible rfl); rotate_left; (simp only [Act.put, List.setIfInBounds_toArray, List.set_cons_zero, List.set_cons_succ, i64_w, i32_w]; rfl)))
   refine pl0 rfl rfl (fun K hK => ?_)
   refine value_ (w1 := wd.alloc (.cells #[.int .i64 (rd x0 (rd_T79 (rows x8 0 x6) (i : Int)).f0)] 3)) (v := .slice (some ⟨wd.heap.size, 0, none⟩) 1 1) (by rfl) rfl ?_ ?_
   ·first | (go_simp; done) | (go_simp; rfl)
   obtain ⟨Z1, hbz⟩ := blk_new1 wd 3 #[.int .i64 (rd x0 (rd_T79 (rows x8 0 x6) (i : Int)).f0)]
   replace oq := oq.below hbz
   replace B7 := B7.below hbz
   refine hK.out _ _ ⟨oq.c.2.2.1, (BX.below oq.sb.get).at 0 rfl, B7.at 0 rfl, oq.sb.c hc⟩ (fun _ => ?_)
   clear hbz
   generalize wd.alloc (.cells #[.int .i64 (rd x0 (rd_T79 (rows x8 0 x6) (i : Int)).f0)] 3) = we at *
   generalize wd.heap.size = gz at Z1 ⊢
   clear hK K
   refine plN (a' := ?_) ?_ ?_
   rotate_left
   ·(simp only [Act.put, List.setIfInBounds_toArray, List.set_cons_zero, List.set_cons_succ, i64_w, i32_w]; rfl)
   have l1 : lN.length ≤ 40 := by have := A.out.2; have h2 := k_.out; have h3 := hn_.out.1; rw [this, List.length_map, List.length_take]; omega
   refine pl3 rfl rfl (fun K hK => ?_)
   refine Kd.R_append_rows_step (Kd.int .i64) (w0 := w1) w1.heap.size (by rfl) (.tmp 53) (.tmp 61) 22 3 (.int .i64 0) 8 rfl Try.underlying22 info3 rfl (by decide) (by omega) vN lN [(rd x0 (rd_T79 (rows x8 0 x6) (i : Int)).f0)] _ _ _ (fun _ => True) (fun _ => False) rfl rfl oq.oN (Z1.row (l := [(rd x0 (rd_T79 (rows x8 0 x6) (i : Int)).f0)]) (by simp)).at_ (fun _ _ h => h) (fun _ h => h.elim) (fun _ _ => trivial) oq.sb.get oq.sb.get.size (by omega) ?_
   intro v1 wf ho hbl hgr hat
   replace oq := oq.appN ho hbl hgr
   clear ho hbl hgr hat Z1 B7
   obtain ⟨AN, cN, rfl⟩ := Kd.R_slice oq.oN
   refine hK.out _ _ ?_
   clear hK K
   refine plN (a' := ?_) ?_ ?_
   rotate_left
   ·(simp only [Act.put, List.setIfInBounds_toArray, List.set_cons_zero, List.set_cons_succ, i64_w, i32_w]; rfl)
   repeat (first
    | (refine pl1 (v := ?_) (a' := ?_) rfl rfl (Or.inl ⟨by rfl, ?_⟩) ?_ ?_; rotate_left; (intro w'; go_simp; with_reducible rfl); rotate_left; (simp only [Act.put, List.setIfInBounds_toArray, List.set_cons_zero, List.set_cons_succ, i64_w, i32_w]; rfl))
    | (refine pl2 (v := ?_) (a' := ?_) rfl rfl hHeld (Or.inl ⟨by rfl, ?_⟩) ?_ ?_; rotate_left; (rintro w' ⟨s0, s1, s2, s3⟩; go_simp; with_reducible rfl); rotate_left; (simp only [Act.put, List.setIfInBounds_toArray, List.set_cons_zero, List.set_cons_succ, i64_w, i32_w]; rfl)))
   refine pl3 rfl rfl (fun K hK => ?_)
   obtain ⟨hs0, hs1, hs2, hs3⟩ := oq.c
   have hf := blk_frozen oq.bg.get 2
   refine skip_ (w1 := wf.setCell ⟨g5, 2, none⟩ (.slice AN (lN ++ [(rd x0 (rd_T79 (rows x8 0 x6) (i : Int)).f0)]).length cN)) (by rfl) rfl ?_ ?_
   ·first | (go_simp; done) | (go_simp; rfl)
   refine hK.out _ _ ?_
   clear hK K hs0 hs1 hs2 hs3 hf
   replace oq := oq.put2 (.slice AN (lN ++ [(rd x0 (rd_T79 (rows x8 0 x6) (i : Int)).f0)]).length cN)
   generalize wf.setCell _ _ = wg at *
   refine pl_end ?_
   go_wp2_with fail
   go_roundg (gk - 1)
   case measure => have := k_.out; have := A.out.1; omega
   case rel => exact ⟨i + 1, _, _, by rw [show wrap64 ((i : Int) + 1) = ((i + 1 : Nat) : Int) from by (have h1 := k_.out; have h2 := hn_.out; unfold wrap64; omega)], ⟨by have := A.out.1; have := k_.out; omega, by rw [A.out.2]; exact take_map (fun p => rd x0 p.f0) (rows x8 0 x6) i (by have := k_.out; omega)⟩, oq⟩
  ·skip
   have d1 : decide ((i : Int) < ((rows x8 0 x6).length : Int)) = false := decide_eq_false k
   have q1 := eq_false k
   obtain rfl : lN = ((rows x8 0 x6).map (fun p => rd x0 p.f0)) := by have h1 := A.out.1; have h2 := A.out.2; rw [h2, List.take_of_length_le (by omega)]
   clear A k
   obtain ⟨AN, cN, rfl⟩ := Kd.R_slice oq.oN
   simp only [List.length_map] at oq
   obtain ⟨_, _, _, _⟩ := oq.c
   go_upto_region 12 with fail
   go_wp2_with fail
   go_loopg [69] (rows x9 0 x7).length (fun kq v69 w' => ∃ (i : Nat) (lE : List S94) (vE : Value), v69 = .int .i64 i ∧ Aside0 (i + kq = (rows x9 0 x7).length ∧ lE = ((rows x9 0 x7).take i).map (edg x1 x3 (rows x8 0 x6))) ∧ Oq w1 g5 (.slice AP (rows x8 0 x6).length cP) (.slice AQ (rows x9 0 x7).length cQ) (.slice AN (rows x8 0 x6).length cN) (vE) (.slice AN (rows x8 0 x6).length cN) (vE) (rows x8 0 x6) (rows x9 0 x7) ((rows x8 0 x6).map (fun p => rd x0 p.f0)) lE w')
   case atStart => exact ⟨0, [], _, rfl, ⟨by omega, rfl⟩, oq⟩
   case round =>
    clear oq
    obtain ⟨i, lE, vE, rfl, A, oq⟩ := hrel
    by_cases k : (i : Int) < ((rows x9 0 x7).length : Int)
    ·skip
     have d1 : decide ((i : Int) < ((rows x9 0 x7).length : Int)) = true := decide_eq_true k
     obtain ⟨u1, u2, u3, u4, -⟩ := rows_mem.mp (rd79_mem (rows x9 0 x7) (i : Int) (by omega) k)
     have u5 : (rd_T79 (rows x9 0 x7) (i : Int)).f0 < (x1.length : Int) := by have := (mvalid_iff.mp mv1.out).2.2.2.1; omega
     have u6 : (rd_T79 (rows x9 0 x7) (i : Int)).f1 < (x3.length : Int) := by have := (mvalid_iff.mp mv2.out).2.2.2.1; omega
     obtain ⟨aq, eaq, hq0, hq1⟩ := at_T79 oq.rQ.at_ (i : Int) (by omega) k
     cases eaq
     rw [Int.toNat_natCast] at hq0 hq1
     have q0 : (0 ≤ (i : Int)) = True := eq_true (by omega)
     have q1 := eq_true k
     have k_ := Aside0.mk k
     clear k
     go_upto_region 15 with fail
     obtain ⟨wa, hv, B9, hb⟩ := nw1 wr 79 #[.int .i64 (rd_T79 (rows x9 0 x7) (i : Int)).f0, .int .i64 (rd_T79 (rows x9 0 x7) (i : Int)).f1]
     rw [← hv]
     clear hv
     replace oq := oq.below hb
     clear hb hq0 hq1
     generalize wr.heap.size = g9 at B9 ⊢
     obtain ⟨ae, eae, hx0, hx1, hx2⟩ := at_T94 R1.at_ (rd_T79 (rows x9 0 x7) (i : Int)).f0 u1 u5
     cases eae
     obtain ⟨af, eaf, hy0, hy1, hy2⟩ := at_T94 R3.at_ (rd_T79 (rows x9 0 x7) (i : Int)).f1 u3 u6
     cases eaf
     have p0 := eq_true u1
     have p1 := eq_true u5
     have p2 := eq_true u3
     have p3 := eq_true u6
     have hbd := below_drew1 (Below.refl wa.heap.size wa)
     replace oq := oq.below hbd
     replace B9 := B9.below hbd
     clear hbd
     have hHeld : wa.drew.cell? ⟨gd, 1, none⟩ = some (.slice (some ae) x1.length c1) ∧ wa.drew.cell? ⟨g9, 0, none⟩ = some (.int .i64 (rd_T79 (rows x9 0 x7) (i : Int)).f0) ∧ wa.drew.cell? (ae.add ((rd_T79 (rows x9 0 x7) (i : Int)).f0.toNat * 3)) = some (.int .i64 (rd_T94 x1 (rd_T79 (rows x9 0 x7) (i : Int)).f0).f0) ∧ wa.drew.cell? ⟨(ae.add ((rd_T79 (rows x9 0 x7) (i : Int)).f0.toNat * 3)).block, (ae.add ((rd_T79 (rows x9 0 x7) (i : Int)).f0.toNat * 3)).off + 1, none⟩ = some (.int .i64 (rd_T94 x1 (rd_T79 (rows x9 0 x7) (i : Int)).f0).f1) ∧ wa.drew.cell? ⟨(ae.add ((rd_T79 (rows x9 0 x7) (i : Int)).f0.toNat * 3)).block, (ae.add ((rd_T79 (rows x9 0 x7) (i : Int)).f0.toNat * 3)).off + 2, none⟩ = some (.int .i64 (rd_T94 x1 (rd_T79 (rows x9 0 x7) (i : Int)).f0).f2) ∧ wa.drew.cell? ⟨gd, 3, none⟩ = some (.slice (some af) x3.length c3) ∧ wa.drew.cell? ⟨g9, 1, none⟩ = some (.int .i64 (rd_T79 (rows x9 0 x7) (i : Int)).f1) ∧ wa.drew.cell? (af.add ((rd_T79 (rows x9 0 x7) (i : Int)).f1.toNat * 3)) = some (.int .i64 (rd_T94 x3 (rd_T79 (rows x9 0 x7) (i : Int)).f1).f0) ∧ wa.drew.cell? ⟨(af.add ((rd_T79 (rows x9 0 x7) (i : Int)).f1.toNat * 3)).block, (af.add ((rd_T79 (rows x9 0 x7) (i : Int)).f1.toNat * 3)).off + 1, none⟩ = some (.int .i64 (rd_T94 x3 (rd_T79 (rows x9 0 x7) (i : Int)).f1).f1) ∧ wa.drew.cell? ⟨(af.add ((rd_T79 (rows x9 0 x7) (i : Int)).f1.toNat * 3)).block, (af.add ((rd_T79 (rows x9 0 x7) (i : Int)).f1.toNat * 3)).off + 2, none⟩ = some (.int .i64 (rd_T94 x3 (rd_T79 (rows x9 0 x7) (i : Int)).f1).f2) := ⟨(BX.below oq.sb.get).at 1 rfl, B9.at 0 rfl, oq.sb.c hx0, oq.sb.c hx1, oq.sb.c hx2, (BX.below oq.sb.get).at 3 rfl, B9.at 1 rfl, oq.sb.c hy0, oq.sb.c hy1, oq.sb.c hy2⟩
     clear hx0 hx1 hx2 hy0 hy1 hy2 B9
     refine plan_pre (fun w' => w'.cell? ⟨gd, 1, none⟩ = some (.slice (some ae) x1.length c1) ∧ w'.cell? ⟨g9, 0, none⟩ = some (.int .i64 (rd_T79 (rows x9 0 x7) (i : Int)).f0) ∧ w'.cell? (ae.add ((rd_T79 (rows x9 0 x7) (i : Int)).f0.toNat * 3)) = some (.int .i64 (rd_T94 x1 (rd_T79 (rows x9 0 x7) (i : Int)).f0).f0) ∧ w'.cell? ⟨(ae.add ((rd_T79 (rows x9 0 x7) (i : Int)).f0.toNat * 3)).block, (ae.add ((rd_T79 (rows x9 0 x7) (i : Int)).f0.toNat * 3)).off + 1, none⟩ = some (.int .i64 (rd_T94 x1 (rd_T79 (rows x9 0 x7) (i : Int)).f0).f1) ∧ w'.cell? ⟨(ae.add ((rd_T79 (rows x9 0 x7) (i : Int)).f0.toNat * 3)).block, (ae.add ((rd_T79 (rows x9 0 x7) (i : Int)).f0.toNat * 3)).off + 2, none⟩ = some (.int .i64 (rd_T94 x1 (rd_T79 (rows x9 0 x7) (i : Int)).f0).f2) ∧ w'.cell? ⟨gd, 3, none⟩ = some (.slice (some af) x3.length c3) ∧ w'.cell? ⟨g9, 1, none⟩ = some (.int .i64 (rd_T79 (rows x9 0 x7) (i : Int)).f1) ∧ w'.cell? (af.add ((rd_T79 (rows x9 0 x7) (i : Int)).f1.toNat * 3)) = some (.int .i64 (rd_T94 x3 (rd_T79 (rows x9 0 x7) (i : Int)).f1).f0) ∧ w'.cell? ⟨(af.add ((rd_T79 (rows x9 0 x7) (i : Int)).f1.toNat * 3)).block, (af.add ((rd_T79 (rows x9 0 x7) (i : Int)).f1.toNat * 3)).off + 1, none⟩ = some (.int .i64 (rd_T94 x3 (rd_T79 (rows x9 0 x7) (i : Int)).f1).f1) ∧ w'.cell? ⟨(af.add ((rd_T79 (rows x9 0 x7) (i : Int)).f1.toNat * 3)).block, (af.add ((rd_T79 (rows x9 0 x7) (i : Int)).f1.toNat * 3)).off + 2, none⟩ = some (.int .i64 (rd_T94 x3 (rd_T79 (rows x9 0 x7) (i : Int)).f1).f2)) [17] [(0, 1, some 73), (1, 1, some 74), (2, 2, some 75), (3, 1, some 76), (4, 2, some 77), (5, 1, some 78), (6, 2, some 79), (7, 1, some 80), (8, 1, some 81), (9, 2, some 82), (10, 1, some 83), (11, 2, some 84), (12, 1, some 85), (13, 2, some 86)] 4 ((true, [([], []), ([0], [0]), ([1], [1]), ([], []), ([3], [3]), ([2, 4], [2, 4]), ([5], [5]), ([], []), ([7], [7]), ([8], [8]), ([], []), ([10], [10]), ([9, 11], [9, 11]), ([12], [12]), ([], []), ([], []), ([14, 6, 0, 1, 2, 3, 4, 5, 6, 14, 15], [6, 14]), ([15, 13, 16, 0, 1, 2, 3, 4, 5, 6, 7, 8, 9, 10, 11, 12, 13, 14, 15, 16], [13, 15])])) [0, 1, 3, 0, 8, 31, 63, 0, 128, 384, 0, 1024, 3968, 8064, 0, 0, 49279, 131071] (by kernel_rfl) (by kernel_rfl) rfl rfl (by kernel_rfl) (fun _ _ d _ _ h => by cases d <;> exact h) ?_
     generalize wa.drew = wd at *
     repeat (first
      | (refine pl1 (v := ?_) (a' := ?_) rfl rfl (Or.inl ⟨by rfl, ?_⟩) ?_ ?_; rotate_left; (intro w'; go_simp; with_reducible rfl); rotate_left; (simp only [Act.put, List.setIfInBounds_toArray, List.set_cons_zero, List.set_cons_succ, i64_w, i32_w]; rfl))
      | (refine pl2 (v := ?_) (a' := ?_) rfl rfl hHeld (Or.inl ⟨by rfl, ?_⟩) ?_ ?_; rotate_left; (rintro w' ⟨s0, s1, s2, s3, s4, s5, s6, s7, s8, s9⟩; go_simp; with_reducible rfl); rotate_left; (simp only [Act.put, List.setIfInBounds_toArray, List.set_cons_zero, List.set_cons_succ, i64_w, i32_w]; rfl)))
     refine pl_end ?_
     have HT : rtab .any _ = _ := (by kernel_rfl : rtab .any (opsOf Try.f41 15) = (true, [([], []), ([0], [0]), ([1], [1]), ([], []), ([3], [3]), ([2, 4], [2, 4]), ([5], [5]), ([], []), ([7], [7]), ([8], [8]), ([], []), ([10], [10]), ([9, 11], [9, 11]), ([12], [12]), ([], []), ([], []), ([14, 6, 0, 1, 2, 3, 4, 5, 6, 14, 15], [6, 14]), ([15, 13, 16, 0, 1, 2, 3, 4, 5, 6, 7, 8, 9, 10, 11, 12, 13, 14, 15, 16], [13, 15])]))
     show wpAnyLast _ _ _ _ _ _ 4 #[true, true, true, true, true, true, true, true, true, true, true, true, true, true, false, false, false, false] _ _
     obtain ⟨h0, h1, h2, h3, h4, h5, h6, h7, h8, h9⟩ := hHeld
     have SD := Since.refl wd
     refine join_ (σ := Nat × Nat) 2 #[true, true, true, true, true, true, true, true, true, true, true, true, true, true, true, true, false, false] (fun s => [(10, .pointer (some ⟨s.1, 0, none⟩)), (11, .pointer (some ⟨s.2, 0, none⟩))]) (fun s w' => Since wd w' ∧ Blk w' s.1 94 #[.int .i64 0, .int .i64 0, .int .i64 0] ∧ Blk w' s.2 94 #[.int .i64 0, .int .i64 0, .int .i64 0] ∧ wd.heap.size ≤ s.1 ∧ wd.heap.size ≤ s.2 ∧ s.1 ≠ s.2) ?_ ?_
     rotate_left
     ·intro hCont
      refine two_ (i := 14) (j := 15) (Ni := some 10) (Nj := some 11) #[true, true, true, true, true, true, true, true, true, true, true, true, true, true, true, false, false, false] #[true, true, true, true, true, true, true, true, true, true, true, true, true, true, false, true, false, false] rfl rfl rfl rfl (two_of HT (by kernel_rfl)) (by decide) (by decide) (fun K hK => ?_) (fun K hK => ?_)
      ·skip
       refine value_ (w1 := wd.alloc (.cells #[.int .i64 0, .int .i64 0, .int .i64 0] 94)) (v := .pointer (some ⟨wd.heap.size, 0, none⟩)) (by rfl) rfl ?_ ?_
       ·first | (go_simp; done) | (go_simp; rfl)
       obtain ⟨Ba, hb⟩ := blk_new1 wd 94 #[.int .i64 0, .int .i64 0, .int .i64 0]
       have lBa := SD.get.size
       replace SD := SD.step hb
       refine hK.out _ _ ⟨SD.c h0, SD.c h1, SD.c h2, SD.c h3, SD.c h4, SD.c h5, SD.c h6, SD.c h7, SD.c h8, SD.c h9⟩ (fun _ => ?_)
       clear hb
       generalize wd.alloc (.cells #[.int .i64 0, .int .i64 0, .int .i64 0] 94) = we at *
       clear hK K
       refine norm_ (a' := ?_) ?_ ?_
       rotate_left
       ·show Act.put _ (some 10) _ = _
        simp only [Act.put, List.setIfInBounds_toArray, List.set_cons_zero, List.set_cons_succ, i64_w, i32_w]
        rfl
       refine one_ (i := 15) (N := some 11) #[true, true, true, true, true, true, true, true, true, true, true, true, true, true, true, true, false, false] rfl rfl (one_of HT (by kernel_rfl)) (by decide) (fun K hK => ?_)
       refine value_ (w1 := we.alloc (.cells #[.int .i64 0, .int .i64 0, .int .i64 0] 94)) (v := .pointer (some ⟨we.heap.size, 0, none⟩)) (by rfl) rfl ?_ ?_
       ·first | (go_simp; done) | (go_simp; rfl)
       obtain ⟨Bb, hb⟩ := blk_new1 we 94 #[.int .i64 0, .int .i64 0, .int .i64 0]
       have lBb := SD.get.size
       replace SD := SD.step hb
       have ne := Nat.ne_of_lt (blk_lt Ba.get)
       replace Ba := Ba.below hb
       refine hK.out _ _ ⟨SD.c h0, SD.c h1, SD.c h2, SD.c h3, SD.c h4, SD.c h5, SD.c h6, SD.c h7, SD.c h8, SD.c h9⟩ (fun _ => ?_)
       clear hb
       generalize we.alloc (.cells #[.int .i64 0, .int .i64 0, .int .i64 0] 94) = wf at *
       clear hK K
       refine norm_ (a' := ?_) ?_ ?_
       rotate_left
       ·show Act.put _ (some 11) _ = _
        simp only [Act.put, List.setIfInBounds_toArray, List.set_cons_zero, List.set_cons_succ, i64_w, i32_w]
        rfl
       exact hCont ⟨_, _⟩ _ ⟨SD, Ba, Bb, lBa, lBb, ne⟩
      ·skip
       refine value_ (w1 := wd.alloc (.cells #[.int .i64 0, .int .i64 0, .int .i64 0] 94)) (v := .pointer (some ⟨wd.heap.size, 0, none⟩)) (by rfl) rfl ?_ ?_
       ·first | (go_simp; done) | (go_simp; rfl)
       obtain ⟨Bb, hb⟩ := blk_new1 wd 94 #[.int .i64 0, .int .i64 0, .int .i64 0]
       have lBb := SD.get.size
       replace SD := SD.step hb
       refine hK.out _ _ ⟨SD.c h0, SD.c h1, SD.c h2, SD.c h3, SD.c h4, SD.c h5, SD.c h6, SD.c h7, SD.c h8, SD.c h9⟩ (fun _ => ?_)
       clear hb
       generalize wd.alloc (.cells #[.int .i64 0, .int .i64 0, .int .i64 0] 94) = we at *
       clear hK K
       refine norm_ (a' := ?_) ?_ ?_
       rotate_left
       ·show Act.put _ (some 11) _ = _
        simp only [Act.put, List.setIfInBounds_toArray, List.set_cons_zero, List.set_cons_succ, i64_w, i32_w]
        rfl
       refine one_ (i := 14) (N := some 10) #[true, true, true, true, true, true, true, true, true, true, true, true, true, true, true, true, false, false] rfl rfl (one_of HT (by kernel_rfl)) (by decide) (fun K hK => ?_)
       refine value_ (w1 := we.alloc (.cells #[.int .i64 0, .int .i64 0, .int .i64 0] 94)) (v := .pointer (some ⟨we.heap.size, 0, none⟩)) (by rfl) rfl ?_ ?_
       ·first | (go_simp; done) | (go_simp; rfl)
       obtain ⟨Ba, hb⟩ := blk_new1 we 94 #[.int .i64 0, .int .i64 0, .int .i64 0]
       have lBa := SD.get.size
       replace SD := SD.step hb
       have ne := Nat.ne_of_lt (blk_lt Bb.get)
       replace Bb := Bb.below hb
       refine hK.out _ _ ⟨SD.c h0, SD.c h1, SD.c h2, SD.c h3, SD.c h4, SD.c h5, SD.c h6, SD.c h7, SD.c h8, SD.c h9⟩ (fun _ => ?_)
       clear hb
       generalize we.alloc (.cells #[.int .i64 0, .int .i64 0, .int .i64 0] 94) = wf at *
       clear hK K
       refine norm_ (a' := ?_) ?_ ?_
       rotate_left
       ·show Act.put _ (some 10) _ = _
        simp only [Act.put, List.setIfInBounds_toArray, List.set_cons_zero, List.set_cons_succ, i64_w, i32_w]
        rfl
       exact hCont ⟨_, _⟩ _ ⟨SD, Ba, Bb, lBa, lBb, Ne.symm ne⟩
     rintro ⟨ga, gb⟩ wg ⟨SD', Ba, Bb, lBa, lBb, ne⟩
     clear SD HT
     have SD := SD'
     clear SD'
     refine norm_ (a' := ?_) ?_ ?_
     rotate_left
     ·simp only [putAll, Act.put, List.setIfInBounds_toArray, List.set_cons_zero, List.set_cons_succ]
      rfl
     refine plan_post [(16, 0, none), (17, 3, none)] ((true, [([], []), ([0], [0]), ([1], [1]), ([], []), ([3], [3]), ([2, 4], [2, 4]), ([5], [5]), ([], []), ([7], [7]), ([8], [8]), ([], []), ([10], [10]), ([9, 11], [9, 11]), ([12], [12]), ([], []), ([], []), ([14, 6, 0, 1, 2, 3, 4, 5, 6, 14, 15], [6, 14]), ([15, 13, 16, 0, 1, 2, 3, 4, 5, 6, 7, 8, 9, 10, 11, 12, 13, 14, 15, 16], [13, 15])])) [0, 1, 3, 0, 8, 31, 63, 0, 128, 384, 0, 1024, 3968, 8064, 0, 0, 49279, 131071] (by kernel_rfl) (by kernel_rfl) rfl (by kernel_rfl) (by kernel_rfl) (fun _ _ d _ _ h => by cases d <;> exact h) ?_
     refine pl0 rfl rfl (fun K hK => ?_)
     obtain ⟨hs0, hs1, hs2⟩ := Ba.q3
     have hf := fun j => blk_frozen Ba.get j
     refine skip_ (w1 := ((wg.setCell ⟨ga, 0, none⟩ (.int .i64 (rd_T94 x1 (rd_T79 (rows x9 0 x7) (i : Int)).f0).f0)).setCell ⟨ga, 1, none⟩ (.int .i64 (rd_T94 x1 (rd_T79 (rows x9 0 x7) (i : Int)).f0).f1)).setCell ⟨ga, 2, none⟩ (.int .i64 (rd_T94 x1 (rd_T79 (rows x9 0 x7) (i : Int)).f0).f2)) (by rfl) rfl ?_ ?_
     ·first | (go_simp; done) | (go_simp; rfl)
     replace Ba := Ba.put3 (.int .i64 (rd_T94 x1 (rd_T79 (rows x9 0 x7) (i : Int)).f0).f0) (.int .i64 (rd_T94 x1 (rd_T79 (rows x9 0 x7) (i : Int)).f0).f1) (.int .i64 (rd_T94 x1 (rd_T79 (rows x9 0 x7) (i : Int)).f0).f2)
     replace Bb := Bb.far3 (Ne.symm ne) (.int .i64 (rd_T94 x1 (rd_T79 (rows x9 0 x7) (i : Int)).f0).f0) (.int .i64 (rd_T94 x1 (rd_T79 (rows x9 0 x7) (i : Int)).f0).f1) (.int .i64 (rd_T94 x1 (rd_T79 (rows x9 0 x7) (i : Int)).f0).f2)
     replace SD := SD.put3 lBa (.int .i64 (rd_T94 x1 (rd_T79 (rows x9 0 x7) (i : Int)).f0).f0) (.int .i64 (rd_T94 x1 (rd_T79 (rows x9 0 x7) (i : Int)).f0).f1) (.int .i64 (rd_T94 x1 (rd_T79 (rows x9 0 x7) (i : Int)).f0).f2)
     refine hK.out _ _ ⟨SD.c h0, SD.c h1, SD.c h2, SD.c h3, SD.c h4, SD.c h5, SD.c h6, SD.c h7, SD.c h8, SD.c h9⟩ (fun _ => ?_)
     clear hK K hs0 hs1 hs2 hf
     generalize ((wg.setCell _ _).setCell _ _).setCell _ _ = wh at *
     refine pl3 rfl rfl (fun K hK => ?_)
     obtain ⟨hs0, hs1, hs2⟩ := Bb.q3
     have hf := fun j => blk_frozen Bb.get j
     refine skip_ (w1 := ((wh.setCell ⟨gb, 0, none⟩ (.int .i64 (rd_T94 x3 (rd_T79 (rows x9 0 x7) (i : Int)).f1).f0)).setCell ⟨gb, 1, none⟩ (.int .i64 (rd_T94 x3 (rd_T79 (rows x9 0 x7) (i : Int)).f1).f1)).setCell ⟨gb, 2, none⟩ (.int .i64 (rd_T94 x3 (rd_T79 (rows x9 0 x7) (i : Int)).f1).f2)) (by rfl) rfl ?_ ?_
     ·first | (go_simp; done) | (go_simp; rfl)
     replace Bb := Bb.put3 (.int .i64 (rd_T94 x3 (rd_T79 (rows x9 0 x7) (i : Int)).f1).f0) (.int .i64 (rd_T94 x3 (rd_T79 (rows x9 0 x7) (i : Int)).f1).f1) (.int .i64 (rd_T94 x3 (rd_T79 (rows x9 0 x7) (i : Int)).f1).f2)
     replace Ba := Ba.far3 ne (.int .i64 (rd_T94 x3 (rd_T79 (rows x9 0 x7) (i : Int)).f1).f0) (.int .i64 (rd_T94 x3 (rd_T79 (rows x9 0 x7) (i : Int)).f1).f1) (.int .i64 (rd_T94 x3 (rd_T79 (rows x9 0 x7) (i : Int)).f1).f2)
     replace SD := SD.put3 lBb (.int .i64 (rd_T94 x3 (rd_T79 (rows x9 0 x7) (i : Int)).f1).f0) (.int .i64 (rd_T94 x3 (rd_T79 (rows x9 0 x7) (i : Int)).f1).f1) (.int .i64 (rd_T94 x3 (rd_T79 (rows x9 0 x7) (i : Int)).f1).f2)
     refine hK.out _ _ ?_
     clear hK K hs0 hs1 hs2 hf
     generalize ((wh.setCell _ _).setCell _ _).setCell _ _ = wi at *
     refine pl_end ?_
     replace oq := oq.below SD.get
     clear SD h0 h1 h2 h3 h4 h5 h6 h7 h8 h9 lBa lBb ne
     go_upto_region 16 with fail
     have hbd := below_drew1 (Below.refl wi.heap.size wi)
     replace oq := oq.below hbd
     replace Ba := Ba.below hbd
     replace Bb := Bb.below hbd
     clear hbd
     have hHeld : wi.drew.cell? ⟨g5, 3, none⟩ = some (vE) ∧ wi.drew.cell? ⟨ga, 0, none⟩ = some (.int .i64 (rd_T94 x1 (rd_T79 (rows x9 0 x7) (i : Int)).f0).f0) ∧ wi.drew.cell? ⟨g5, 0, none⟩ = some (.slice AP (rows x8 0 x6).length cP) ∧ wi.drew.cell? ⟨ga, 1, none⟩ = some (.int .i64 (rd_T94 x1 (rd_T79 (rows x9 0 x7) (i : Int)).f0).f1) ∧ wi.drew.cell? ⟨gb, 1, none⟩ = some (.int .i64 (rd_T94 x3 (rd_T79 (rows x9 0 x7) (i : Int)).f1).f1) ∧ wi.drew.cell? ⟨ga, 2, none⟩ = some (.int .i64 (rd_T94 x1 (rd_T79 (rows x9 0 x7) (i : Int)).f0).f2) ∧ wi.drew.cell? ⟨gb, 2, none⟩ = some (.int .i64 (rd_T94 x3 (rd_T79 (rows x9 0 x7) (i : Int)).f1).f2) := ⟨oq.c.2.2.2, Ba.at 0 rfl, oq.c.1, Ba.at 1 rfl, Bb.at 1 rfl, Ba.at 2 rfl, Bb.at 2 rfl⟩
     have lP40 := hn_.out.1
     obtain ⟨J1, hJ1⟩ := index_ev (rows x8 0 x6) (rd_T94 x1 (rd_T79 (rows x9 0 x7) (i : Int)).f0).f1 (rd_T94 x3 (rd_T79 (rows x9 0 x7) (i : Int)).f1).f1 (by omega)
     obtain ⟨J2, hJ2⟩ := index_ev (rows x8 0 x6) (rd_T94 x1 (rd_T79 (rows x9 0 x7) (i : Int)).f0).f2 (rd_T94 x3 (rd_T79 (rows x9 0 x7) (i : Int)).f1).f2 (by omega)
     refine plan_ (fun w' => w'.cell? ⟨g5, 3, none⟩ = some (vE) ∧ w'.cell? ⟨ga, 0, none⟩ = some (.int .i64 (rd_T94 x1 (rd_T79 (rows x9 0 x7) (i : Int)).f0).f0) ∧ w'.cell? ⟨g5, 0, none⟩ = some (.slice AP (rows x8 0 x6).length cP) ∧ w'.cell? ⟨ga, 1, none⟩ = some (.int .i64 (rd_T94 x1 (rd_T79 (rows x9 0 x7) (i : Int)).f0).f1) ∧ w'.cell? ⟨gb, 1, none⟩ = some (.int .i64 (rd_T94 x3 (rd_T79 (rows x9 0 x7) (i : Int)).f1).f1) ∧ w'.cell? ⟨ga, 2, none⟩ = some (.int .i64 (rd_T94 x1 (rd_T79 (rows x9 0 x7) (i : Int)).f0).f2) ∧ w'.cell? ⟨gb, 2, none⟩ = some (.int .i64 (rd_T94 x3 (rd_T79 (rows x9 0 x7) (i : Int)).f1).f2)) [23, 26] [(0, 1, some 87), (1, 1, some 88), (2, 2, some 89), (3, 1, some 90), (4, 2, some 91), (5, 1, some 92), (6, 2, some 93), (7, 1, some 94), (8, 2, some 95), (9, 1, some 96), (10, 2, some 97), (11, 1, some 98), (13, 1, some 100), (14, 2, some 101), (15, 1, some 102), (16, 2, some 103), (17, 1, some 104), (18, 2, some 105), (19, 1, some 106), (12, 0, some 99), (20, 0, some 107), (21, 1, some 108), (22, 0, some 109), (23, 3, some 110), (24, 1, some 111), (25, 1, some 112), (26, 3, none)] ((true, [([], []), ([0], [0]), ([1], [1]), ([], []), ([3], [3]), ([], []), ([5], [5]), ([], []), ([7], [7]), ([], []), ([9], [9]), ([8, 10], [8, 10]), ([6, 11], [6, 11]), ([], []), ([13], [13]), ([], []), ([15], [15]), ([], []), ([17], [17]), ([16, 18], [16, 18]), ([14, 19, 12], [14, 19]), ([4, 12, 20], [4, 12, 20]), ([21], [21]), ([2, 22, 20], [2, 22]), ([0, 1, 2, 3, 4, 5, 6, 7, 8, 9, 10, 11, 12, 13, 14, 15, 16, 17, 18, 19, 20, 21, 22, 23], []), ([24, 0, 1, 2, 3, 4, 5, 6, 7, 8, 9, 10, 11, 12, 13, 14, 15, 16, 17, 18, 19, 20, 21, 22, 23], [24]), ([25, 23, 23, 0, 1, 2, 3, 4, 5, 6, 7, 8, 9, 10, 11, 12, 13, 14, 15, 16, 17, 18, 19, 20, 21, 22, 23], [23, 25])])) [0, 1, 3, 0, 8, 0, 32, 0, 128, 0, 512, 1920, 4064, 0, 8192, 0, 32768, 0, 131072, 491520, 1048544, 2097144, 4194296, 8388607, 16777215, 33554431, 67108863] (by kernel_rfl) (by kernel_rfl) rfl rfl (by kernel_rfl) (by kernel_rfl) (fun _ _ d _ _ h => by cases d <;> exact h) ?_
     generalize wi.drew = wj at *
     repeat (first
      | (refine pl1 (v := ?_) (a' := ?_) rfl rfl (Or.inl ⟨by rfl, ?_⟩) ?_ ?_; rotate_left; (intro w'; go_simp; with_reducible rfl); rotate_left; (simp only [Act.put, List.setIfInBounds_toArray, List.set_cons_zero, List.set_cons_succ, i64_w, i32_w]; rfl))
      | (refine pl2 (v := ?_) (a' := ?_) rfl rfl hHeld (Or.inl ⟨by rfl, ?_⟩) ?_ ?_; rotate_left; (rintro w' ⟨s0, s1, s2, s3, s4, s5, s6⟩; go_simp; with_reducible rfl); rotate_left; (simp only [Act.put, List.setIfInBounds_toArray, List.set_cons_zero, List.set_cons_succ, i64_w, i32_w]; rfl)))
     refine pl0 rfl rfl (fun K hK => ?_)
     refine goes_ Try.func73 (by kernel_rfl) rfl #[.slice AP (rows x8 0 x6).length cP, .agg #[.int .i64 (rd_T94 x1 (rd_T79 (rows x9 0 x7) (i : Int)).f0).f1, .int .i64 (rd_T94 x3 (rd_T79 (rows x9 0 x7) (i : Int)).f1).f1]] (by rfl) rfl rfl (by (try simp only [List.map_toArray, List.map_cons, List.map_nil]); first | done | rfl) ?_
     refine (api_Pair_73.calls J1 _ _ (rows x8 0 x6) (rd_T94 x1 (rd_T79 (rows x9 0 x7) (i : Int)).f0).f1 (rd_T94 x3 (rd_T79 (rows x9 0 x7) (i : Int)).f1).f1 _ _ oq.rP.at_ oq.rP.cap (hJ1 _ (Nat.le_refl _))).mono ?_
     rintro e wk ⟨rfl, hb⟩
     refine ⟨_, rfl, ?_⟩
     replace oq := oq.below hb
     replace Ba := Ba.below hb
     replace Bb := Bb.below hb
     refine hK.out _ _ ⟨oq.c.2.2.2, Ba.at 0 rfl, oq.c.1, Ba.at 1 rfl, Bb.at 1 rfl, Ba.at 2 rfl, Bb.at 2 rfl⟩ (fun _ => ?_)
     clear hb
     clear hK K
     refine plN (a' := ?_) ?_ ?_
     rotate_left
     ·(simp only [Act.put, List.setIfInBounds_toArray, List.set_cons_zero, List.set_cons_succ, i64_w, i32_w]; rfl)
     refine pl0 rfl rfl (fun K hK => ?_)
     refine goes_ Try.func73 (by kernel_rfl) rfl #[.slice AP (rows x8 0 x6).length cP, .agg #[.int .i64 (rd_T94 x1 (rd_T79 (rows x9 0 x7) (i : Int)).f0).f2, .int .i64 (rd_T94 x3 (rd_T79 (rows x9 0 x7) (i : Int)).f1).f2]] (by rfl) rfl rfl (by (try simp only [List.map_toArray, List.map_cons, List.map_nil]); first | done | rfl) ?_
     refine (api_Pair_73.calls J2 _ _ (rows x8 0 x6) (rd_T94 x1 (rd_T79 (rows x9 0 x7) (i : Int)).f0).f2 (rd_T94 x3 (rd_T79 (rows x9 0 x7) (i : Int)).f1).f2 _ _ oq.rP.at_ oq.rP.cap (hJ2 _ (Nat.le_refl _))).mono ?_
     rintro e wl ⟨rfl, hb⟩
     refine ⟨_, rfl, ?_⟩
     replace oq := oq.below hb
     replace Ba := Ba.below hb
     replace Bb := Bb.below hb
     refine hK.out _ _ ⟨oq.c.2.2.2, Ba.at 0 rfl, oq.c.1, Ba.at 1 rfl, Bb.at 1 rfl, Ba.at 2 rfl, Bb.at 2 rfl⟩ (fun _ => ?_)
     clear hb
     clear hK K
     refine plN (a' := ?_) ?_ ?_
     rotate_left
     ·(simp only [Act.put, List.setIfInBounds_toArray, List.set_cons_zero, List.set_cons_succ, i64_w, i32_w]; rfl)
     repeat (first
      | (refine pl1 (v := ?_) (a' := ?_) rfl rfl (Or.inl ⟨by rfl, ?_⟩) ?_ ?_; rotate_left; (intro w'; go_simp; with_reducible rfl); rotate_left; (simp only [Act.put, List.setIfInBounds_toArray, List.set_cons_zero, List.set_cons_succ, i64_w, i32_w]; rfl))
      | (refine pl2 (v := ?_) (a' := ?_) rfl rfl trivial (Or.inl ⟨by rfl, ?_⟩) ?_ ?_; rotate_left; (rintro w' ⟨s0, s1, s2, s3, s4, s5, s6⟩; go_simp; with_reducible rfl); rotate_left; (simp only [Act.put, List.setIfInBounds_toArray, List.set_cons_zero, List.set_cons_succ, i64_w, i32_w]; rfl)))
     refine pl0 rfl rfl (fun K hK => ?_)
     refine value_ (w1 := wl.alloc (.cells #[.int .i64 (rd_T94 x1 (rd_T79 (rows x9 0 x7) (i : Int)).f0).f0, .int .i64 (plc 0 (rows x8 0 x6) (rd_T94 x1 (rd_T79 (rows x9 0 x7) (i : Int)).f0).f1 (rd_T94 x3 (rd_T79 (rows x9 0 x7) (i : Int)).f1).f1), .int .i64 (plc 0 (rows x8 0 x6) (rd_T94 x1 (rd_T79 (rows x9 0 x7) (i : Int)).f0).f2 (rd_T94 x3 (rd_T79 (rows x9 0 x7) (i : Int)).f1).f2)] 94)) (v := .slice (some ⟨wl.heap.size, 0, none⟩) 1 1) (by rfl) rfl ?_ ?_
     ·first | (go_simp; done) | (go_simp; rfl)
     obtain ⟨Z1, hbz⟩ := blk_new1 wl 94 #[.int .i64 (rd_T94 x1 (rd_T79 (rows x9 0 x7) (i : Int)).f0).f0, .int .i64 (plc 0 (rows x8 0 x6) (rd_T94 x1 (rd_T79 (rows x9 0 x7) (i : Int)).f0).f1 (rd_T94 x3 (rd_T79 (rows x9 0 x7) (i : Int)).f1).f1), .int .i64 (plc 0 (rows x8 0 x6) (rd_T94 x1 (rd_T79 (rows x9 0 x7) (i : Int)).f0).f2 (rd_T94 x3 (rd_T79 (rows x9 0 x7) (i : Int)).f1).f2)]
     replace oq := oq.below hbz
     replace Ba := Ba.below hbz
     replace Bb := Bb.below hbz
     refine hK.out _ _ ⟨oq.c.2.2.2, Ba.at 0 rfl, oq.c.1, Ba.at 1 rfl, Bb.at 1 rfl, Ba.at 2 rfl, Bb.at 2 rfl⟩ (fun _ => ?_)
     clear hbz
     generalize wl.alloc (.cells #[.int .i64 (rd_T94 x1 (rd_T79 (rows x9 0 x7) (i : Int)).f0).f0, .int .i64 (plc 0 (rows x8 0 x6) (rd_T94 x1 (rd_T79 (rows x9 0 x7) (i : Int)).f0).f1 (rd_T94 x3 (rd_T79 (rows x9 0 x7) (i : Int)).f1).f1), .int .i64 (plc 0 (rows x8 0 x6) (rd_T94 x1 (rd_T79 (rows x9 0 x7) (i : Int)).f0).f2 (rd_T94 x3 (rd_T79 (rows x9 0 x7) (i : Int)).f1).f2)] 94) = wm at *
     generalize wl.heap.size = gz at Z1 ⊢
     clear hK K
     refine plN (a' := ?_) ?_ ?_
     rotate_left
     ·(simp only [Act.put, List.setIfInBounds_toArray, List.set_cons_zero, List.set_cons_succ, i64_w, i32_w]; rfl)
     have l1 : lE.length ≤ 80 := by have := A.out.2; have h2 := k_.out; have h3 := hn_.out.2; rw [this, List.length_map, List.length_take]; omega
     refine pl3 rfl rfl (fun K hK => ?_)
     refine Kd.R_append_rows_step k94 (w0 := w1) w1.heap.size (by rfl) (.tmp 89) (.tmp 109) 23 94 (.agg #[(.int .i64 0), (.int .i64 0), (.int .i64 0)]) 24 rfl Try.underlying23 info94 rfl (by decide) (by omega) vE lE [(edg x1 x3 (rows x8 0 x6) (rd_T79 (rows x9 0 x7) (i : Int)))] _ _ _ (fun _ => True) (fun _ => False) rfl rfl oq.oE (Z1.row94 (x := (edg x1 x3 (rows x8 0 x6) (rd_T79 (rows x9 0 x7) (i : Int))))).at_ (fun _ _ h => h) (fun _ h => h.elim) (fun _ _ => trivial) oq.sb.get oq.sb.get.size (by omega) ?_
     intro v1 wn ho hbl hgr hat
     replace oq := oq.appE ho hbl hgr
     clear ho hbl hgr hat Z1 Ba Bb
     obtain ⟨AE, cE, rfl⟩ := Kd.R_slice oq.oE
     refine hK.out _ _ ?_
     clear hK K
     refine plN (a' := ?_) ?_ ?_
     rotate_left
     ·(simp only [Act.put, List.setIfInBounds_toArray, List.set_cons_zero, List.set_cons_succ, i64_w, i32_w]; rfl)
     repeat (first
      | (refine pl1 (v := ?_) (a' := ?_) rfl rfl (Or.inl ⟨by rfl, ?_⟩) ?_ ?_; rotate_left; (intro w'; go_simp; with_reducible rfl); rotate_left; (simp only [Act.put, List.setIfInBounds_toArray, List.set_cons_zero, List.set_cons_succ, i64_w, i32_w]; rfl))
      | (refine pl2 (v := ?_) (a' := ?_) rfl rfl trivial (Or.inl ⟨by rfl, ?_⟩) ?_ ?_; rotate_left; (rintro w' ⟨s0, s1, s2, s3, s4, s5, s6⟩; go_simp; with_reducible rfl); rotate_left; (simp only [Act.put, List.setIfInBounds_toArray, List.set_cons_zero, List.set_cons_succ, i64_w, i32_w]; rfl)))
     refine pl3 rfl rfl (fun K hK => ?_)
     obtain ⟨hs0, hs1, hs2, hs3⟩ := oq.c
     have hf := blk_frozen oq.bg.get 3
     refine skip_ (w1 := wn.setCell ⟨g5, 3, none⟩ (.slice AE (lE ++ [(edg x1 x3 (rows x8 0 x6) (rd_T79 (rows x9 0 x7) (i : Int)))]).length cE)) (by rfl) rfl ?_ ?_
     ·first | (go_simp; done) | (go_simp; rfl)
     refine hK.out _ _ ?_
     clear hK K hs0 hs1 hs2 hs3 hf
     replace oq := oq.put3 (.slice AE (lE ++ [(edg x1 x3 (rows x8 0 x6) (rd_T79 (rows x9 0 x7) (i : Int)))]).length cE)
     generalize wn.setCell _ _ = wo at *
     refine pl_end ?_
     go_wp2_with fail
     go_roundg (gk - 1)
     case measure => have := k_.out; have := A.out.1; omega
     case rel => exact ⟨i + 1, _, _, by rw [show wrap64 ((i : Int) + 1) = ((i + 1 : Nat) : Int) from by (have h1 := k_.out; have h2 := hn_.out; unfold wrap64; omega)], ⟨by have := A.out.1; have := k_.out; omega, by rw [A.out.2]; exact take_map (edg x1 x3 (rows x8 0 x6)) (rows x9 0 x7) i (by have := k_.out; omega)⟩, oq⟩
    ·skip
     have d1 : decide ((i : Int) < ((rows x9 0 x7).length : Int)) = false := decide_eq_false k
     have q1 := eq_false k
     obtain rfl : lE = ((rows x9 0 x7).map (edg x1 x3 (rows x8 0 x6))) := by have h1 := A.out.1; have h2 := A.out.2; rw [h2, List.take_of_length_le (by omega)]
     clear A k
     obtain ⟨AE, cE, rfl⟩ := Kd.R_slice oq.oE
     simp only [List.length_map] at oq
     obtain ⟨_, _, _, _⟩ := oq.c
     have B3 := B2.below oq.sb.get
     have SB := S0.step oq.sb.get
     go_wp2_with ((with_reducible refine gate_store (t := 81) (p := 2) (v := .tmp 114) rfl ?_); refine wpl_storeE rfl rfl 81 (.tmp 2) (.tmp 114) rfl g2 0 81 [.slice none 0 0, .slice none 0 0, .slice none 0 0, .slice none 0 0] [.slice AP (rows x8 0 x6).length cP, .slice AQ (rows x9 0 x7).length cQ, .slice AN (rows x8 0 x6).length cN, .slice AE (rows x9 0 x7).length cE] rfl rfl (by kernel_rfl) ⟨⟨_, _, _, rfl⟩, ⟨_, _, _, rfl⟩, ⟨_, _, _, rfl⟩, ⟨_, _, _, rfl⟩, trivial⟩ B3 ⟨⟨_, _, _, rfl⟩, ⟨_, _, _, rfl⟩, ⟨_, _, _, rfl⟩, ⟨_, _, _, rfl⟩, trivial⟩ (Nat.le_of_ble_eq_true rfl) SB n2 ?_; intro w9 hE B9 SB9)
     have z1 := Kd.R_lower (R_cells (t := 81) (g := g2) (by decide) [.slice AP (rows x8 0 x6).length cP, .slice AQ (rows x9 0 x7).length cQ, .slice AN (rows x8 0 x6).length cN, .slice AE (rows x9 0 x7).length cE] 0 oq.oP B3.get) S0.get.size
     have z2 := Kd.R_lower (R_cells (t := 81) (g := g2) (by decide) [.slice AP (rows x8 0 x6).length cP, .slice AQ (rows x9 0 x7).length cQ, .slice AN (rows x8 0 x6).length cN, .slice AE (rows x9 0 x7).length cE] 0 oq.oQ B3.get) S0.get.size
     have z3 := Kd.R_lower (R_cells (t := 81) (g := g2) (by decide) [.slice AP (rows x8 0 x6).length cP, .slice AQ (rows x9 0 x7).length cQ, .slice AN (rows x8 0 x6).length cN, .slice AE (rows x9 0 x7).length cE] 0 oq.oN B3.get) S0.get.size
     have z4 := Kd.R_lower (R_cells (t := 81) (g := g2) (by decide) [.slice AP (rows x8 0 x6).length cP, .slice AQ (rows x9 0 x7).length cQ, .slice AN (rows x8 0 x6).length cN, .slice AE (rows x9 0 x7).length cE] 0 oq.oE B3.get) S0.get.size
     rw [← hE] at z1 z2 z3 z4
     refine bodyPost_ret (results_list (rs := [.cell 2 81, .tmp 3]) rfl (by simp) (.cell g2 81 #[.slice AP (rows x8 0 x6).length cP, .slice AQ (rows x9 0 x7).length cQ, .slice AN (rows x8 0 x6).length cN, .slice AE (rows x9 0 x7).length cE] (0, 0) _ rfl B9.get Try.underlying81 rfl (by kernel_rfl) (.tmp .nil))) rfl ?_
     exact ⟨_, _, _, _, rfl, z1, z2, z3, z4, SB9.get⟩
def pullback_of.f (k : Nat) (x0 : List Int) (x1 : List S94) (x2 : List Int) (x3 : List S94) (x4 : List Int) (x5 : List S94) (x6 : List Int) (x7 : List Int) (x8 : List Int) (x9 : List Int) : Option (List S79 × List S79 × List Int × List S94 × Int) := some (ofR x0 x1 x2 x3 x4 x5 x6 x7 x8 x9)
theorem pullback_of.calls (k : Nat) (A0 : Option Addr) (c0 : Nat) (x0 : List Int) (A1 : Option Addr) (c1 : Nat) (x1 : List S94) (A2 : Option Addr) (c2 : Nat) (x2 : List Int) (A3 : Option Addr) (c3 : Nat) (x3 : List S94) (A4 : Option Addr) (c4 : Nat) (x4 : List Int) (A5 : Option Addr) (c5 : Nat) (x5 : List S94) (A6 : Option Addr) (c6 : Nat) (x6 : List Int) (A7 : Option Addr) (c7 : Nat) (x7 : List Int) (A8 : Option Addr) (c8 : Nat) (x8 : List Int) (A9 : Option Addr) (c9 : Nat) (x9 : List Int) (r1 r2 : List S79) (r3 : List Int) (r4 : List S94) (r5 : Int) (w : World) (h0 : Kd.C (Kd.int .i64) w A0 x0.length x0) (hc0 : x0.length ≤ c0) (h1 : Kd.C k94 w A1 x1.length x1) (hc1 : x1.length ≤ c1) (h2 : Kd.C (Kd.int .i64) w A2 x2.length x2) (hc2 : x2.length ≤ c2) (h3 : Kd.C k94 w A3 x3.length x3) (hc3 : x3.length ≤ c3) (h4 : Kd.C (Kd.int .i64) w A4 x4.length x4) (hc4 : x4.length ≤ c4) (h5 : Kd.C k94 w A5 x5.length x5) (hc5 : x5.length ≤ c5) (h6 : Kd.C (Kd.int .i64) w A6 x6.length x6) (hc6 : x6.length ≤ c6) (h7 : Kd.C (Kd.int .i64) w A7 x7.length x7) (hc7 : x7.length ≤ c7) (h8 : Kd.C (Kd.int .i64) w A8 x8.length x8) (hc8 : x8.length ≤ c8) (h9 : Kd.C (Kd.int .i64) w A9 x9.length x9) (hc9 : x9.length ≤ c9) (h : pullback_of.f k x0 x1 x2 x3 x4 x5 x6 x7 x8 x9 = some (r1, r2, r3, r4, r5)) :
  Calls Try.prog 41 #[.agg #[.slice A0 x0.length c0, .slice A1 x1.length c1, .slice A2 x2.length c2, .slice A3 x3.length c3, .slice A4 x4.length c4, .slice A5 x5.length c5, .slice A6 x6.length c6, .slice A7 x7.length c7, .slice A8 x8.length c8, .slice A9 x9.length c9]] w fun e w' => ∃ v0 v1 v2 v3 : Value, e = .returned (.tuple #[.agg #[v0, v1, v2, v3], .int .i64 r5]) ∧ Kd.R k79 79 w' w.heap.size (fun _ => True) v0 r1 ∧ Kd.R k79 79 w' w.heap.size (fun _ => True) v1 r2 ∧ Kd.R (Kd.int .i64) 3 w' w.heap.size (fun _ => True) v2 r3 ∧ Kd.R k94 94 w' w.heap.size (fun _ => True) v3 r4 ∧ Below w.heap.size w w' := by
 unfold pullback_of.f ofR at h
 by_cases hg : giv x0 x1 x2 x3 x4 x5 x6 x7 x8 x9 = 0
 ·rw [if_pos hg] at h
  by_cases hn : (rows x8 0 x6).length > 40 ∨ (rows x9 0 x7).length > 80
  ·rw [if_pos hn] at h
   cases h
   exact of_b A0 c0 x0 A1 c1 x1 A2 c2 x2 A3 c3 x3 A4 c4 x4 A5 c5 x5 A6 c6 x6 A7 c7 x7 A8 c8 x8 A9 c9 x9 w ⟨hc0, h0⟩ ⟨hc1, h1⟩ ⟨hc2, h2⟩ ⟨hc3, h3⟩ ⟨hc4, h4⟩ ⟨hc5, h5⟩ ⟨hc6, h6⟩ ⟨hc7, h7⟩ ⟨hc8, h8⟩ ⟨hc9, h9⟩ hg hn
  ·rw [if_neg hn] at h
   cases h
   exact of_c A0 c0 x0 A1 c1 x1 A2 c2 x2 A3 c3 x3 A4 c4 x4 A5 c5 x5 A6 c6 x6 A7 c7 x7 A8 c8 x8 A9 c9 x9 w ⟨hc0, h0⟩ ⟨hc1, h1⟩ ⟨hc2, h2⟩ ⟨hc3, h3⟩ ⟨hc4, h4⟩ ⟨hc5, h5⟩ ⟨hc6, h6⟩ ⟨hc7, h7⟩ ⟨hc8, h8⟩ ⟨hc9, h9⟩ hg (by omega)
 ·rw [if_neg hg] at h
  cases h
  exact of_a A0 c0 x0 A1 c1 x1 A2 c2 x2 A3 c3 x3 A4 c4 x4 A5 c5 x5 A6 c6 x6 A7 c7 x7 A8 c8 x8 A9 c9 x9 w ⟨hc0, h0⟩ ⟨hc1, h1⟩ ⟨hc2, h2⟩ ⟨hc3, h3⟩ ⟨hc4, h4⟩ ⟨hc5, h5⟩ ⟨hc6, h6⟩ ⟨hc7, h7⟩ ⟨hc8, h8⟩ ⟨hc9, h9⟩ hg
end Go.Proofs.Ytillofiphkmjjaa.X

namespace Go.Proofs.Ytillofiphkmjjaa.X
open Go.RowKit Go.Proofs.YtillofiphkmjjaaW.PrintWords Go.Proofs.YtillofiphkmjjaaW.PrintLast Go.Proofs.YtillofiphkmjjaaW.PrintMore
open Go.Proofs.YtillofiphkmjjaaW.PrintWords renaming blk_drewN → bN, blk_drew → bD, blk_alloc → bA, below_alloc → wA, pw_below_drewN → wN, below_drew1 → wD, blk_below → bB, below_step → wS, blk_at → bT, blk_grown → bG
open Go.Proofs.YtillofiphkmjjaaW.PrintWords.Kd renaming R_alloc → rA, R_drewN → rN, R_drew → rD, R_below → rB, R_grown → rG, C_below → cB, C_alloc → cA, C_drewN → cN, C_drew → cD
attribute [local go_sem] max2_int min2_int max_two min_two max_three min_three max_four min_four
set_option linter.unusedVariables false
set_option linter.unusedSimpArgs false
/-! ### pullback_meet: function 43 -/
def pullback_meet.l0 : Nat → List (S79) → List Int → List Int → List Int → Int → Int → Option (List Int × Bool)
 | 0, _, _, _, _, _, _ => none
 | k + 1, x0, x1, x2, x8, x12, x13 => if x13 < x12 then (if 0 ≤ x13 then (if x13 < (x1.length : Int) then (if x13 < (x2.length : Int) then ((api_Pair_73.f k x0 (rd x1 x13) (rd x2 x13)).bind fun t103 => (if t103 < 0 then (some (([] : List Int), false)) else (if x8.length < 17592186044416 then (pullback_meet.l0 k x0 x1 x2 (x8 ++ [t103]) x12 (wrap64 (x13 + 1))) else (none)))) else (none)) else (none)) else (none)) else (some (x8, true))
def pullback_meet.f (k : Nat) (l0 : List (S79)) (l1 : List Int) (l2 : List Int) : Option (List Int × Bool) := pullback_meet.l0 k l0 l1 l2 ([] : List Int) (l1.length : Int) 0
theorem pullback_meet.mono_l : ∀ k, (∀ y0 y1 y2 y3 y4 y5, LeO (pullback_meet.l0 k y0 y1 y2 y3 y4 y5) (pullback_meet.l0 (k + 1) y0 y1 y2 y3 y4 y5))
 | 0 => fun _ _ _ _ _ _ r h => by simp [pullback_meet.l0] at h
 | k + 1 => by
  have ih0 := pullback_meet.mono_l k
  ·intro y0 y1 y2 y3 y4 y5
   unfold pullback_meet.l0
   repeat' first
   | (with_reducible exact ih0 _ _ _ _ _ _)
   | (with_reducible exact api_Pair_73.mono _ _ _ _)
   | (with_reducible exact LeO.refl _)
   | (with_reducible exact LeO.none _)
   | (with_reducible refine LeO.ite ?_ ?_)
   | (with_reducible refine LeO.bind ?_ (fun _ => ?_))
   | exact ih0 _ _ _ _ _ _
   | exact api_Pair_73.mono _ _ _ _
   | exact LeO.none _
   | refine LeO.ite ?_ ?_
   | refine LeO.bind ?_ (fun _ => ?_)
theorem pullback_meet.mono : ∀ a0 a1 a2 k, LeO (pullback_meet.f k a0 a1 a2) (pullback_meet.f (k + 1) a0 a1 a2) := by
 intro a0 a1 a2 k
 have ih0 := pullback_meet.mono_l k
 unfold pullback_meet.f
 repeat' first
   | (with_reducible exact ih0 _ _ _ _ _ _)
   | (with_reducible exact api_Pair_73.mono _ _ _ _)
   | (with_reducible exact LeO.refl _)
   | (with_reducible exact LeO.none _)
   | (with_reducible refine LeO.ite ?_ ?_)
   | (with_reducible refine LeO.bind ?_ (fun _ => ?_))
   | exact ih0 _ _ _ _ _ _
   | exact api_Pair_73.mono _ _ _ _
   | exact LeO.none _
   | refine LeO.ite ?_ ?_
   | refine LeO.bind ?_ (fun _ => ?_)
def pullback_meet.T5 : Bool × List (List Nat × List Nat) := (true, [([], []), ([], []), ([], []), ([1, 2], [1, 2]), ([3], [3]), ([], []), ([], []), ([5, 6], [5, 6]), ([7], [7]), ([4, 8], [4, 8]), ([0, 9], [0, 9]), ([10, 10, 0, 1, 2, 3, 4, 5, 6, 7, 8, 9, 10], [10])])
def pullback_meet.B5 : List Nat := [0, 0, 0, 6, 14, 0, 0, 96, 224, 510, 1023, 2047]
theorem pullback_meet.tab5 : rtab .any (opsOf Try.f43 5) = pullback_meet.T5 := by kernel_rfl
theorem pullback_meet.bits5 : waitsOk pullback_meet.T5.2 pullback_meet.B5 = true := by kernel_rfl
set_option maxHeartbeats 8000000 in
set_option maxRecDepth 100000 in
theorem pullback_meet.calls (k : Nat) (A0 : Option Addr) (c0 : Nat) (l0 : List (S79)) (A1 : Option Addr) (c1 : Nat) (l1 : List Int) (A2 : Option Addr) (c2 : Nat) (l2 : List Int) (r1 : List Int) (r2 : Bool) (w : World) (hr0 : Kd.C k79 w A0 l0.length l0) (hc0 : l0.length ≤ c0) (hr1 : Kd.C (Kd.int .i64) w A1 l1.length l1) (hc1 : l1.length ≤ c1) (hr2 : Kd.C (Kd.int .i64) w A2 l2.length l2) (hc2 : l2.length ≤ c2) (h : pullback_meet.f k l0 l1 l2 = some (r1, r2)) :
  Calls Try.prog 43 #[.slice A0 l0.length c0, .slice A1 l1.length c1, .slice A2 l2.length c2] w fun e w' => ∃ v0_ : Value, e = .returned (.tuple #[v0_, .bool r2]) ∧ Kd.R (Kd.int .i64) 3 w' w.heap.size (fun _ => True) v0_ r1 ∧ Below w.heap.size w w' := by
 have hu79 := Try.underlying79
 have HR0 := Aside0.mk hr0
 have HC0 := Aside0.mk hc0
 clear hr0 hc0
 have HR1 := Aside0.mk hr1
 have HC1 := Aside0.mk hc1
 clear hr1 hc1
 have HR2 := Aside0.mk hr2
 have HC2 := Aside0.mk hc2
 clear hr2 hc2
 have HB := Aside0.mk (Below.refl w.heap.size w)
 have H : (pullback_meet.l0 k l0 l1 l2 ([] : List Int) (l1.length : Int) 0) = some (r1, r2) := h
 clear h
 have H' := Aside0.mk H
 clear H
 go_enter Try.func43, Try.ntmps43
 go_wp2
 go_loopg [8, 13] k (fun kq v8 v13 w' => ∃ (x8_1 : List Int) (x13_1 : Int), v13 = .int .i64 x13_1 ∧ Aside0 (pullback_meet.l0 kq l0 l1 l2 x8_1 (l1.length : Int) x13_1 = some (r1, r2)) ∧ Aside0 (kq ≤ k) ∧ Aside0 (Kd.R (Kd.int .i64) 3 w' w.heap.size (fun _ => True) v8 x8_1) ∧ Aside0 (Below w.heap.size w w'))
 case atStart => exact ⟨(([] : List Int)), (0), rS, H', ⟨Nat.le_refl _⟩, ⟨by first | exact Kd.R_nil _ _ _ _ _ | exact Kd.N_nil _ _ _ _ _ | exact Kd.V_nil _ _ _ _ _ | exact Kd.Q_nil _ _ _ _ _ | exact Kd.S_nil _ _ _ _ _⟩, ⟨pH HB⟩⟩
 case round =>
  clear H'
  try clear c1; try clear c2; try clear p2
  obtain ⟨x8_1, x13_1, rfl, HA, HK1, Q00, HB⟩ := hrel
  cases gk with
  | zero => exact absurd HA.out (by simp [pullback_meet.l0])
  | succ k1 =>
   have H := HA.out
   clear HA
   simp only [pullback_meet.l0] at H
   by_cases c4 : x13_1 < (l1.length : Int)
   ·rw [if_pos c4] at H
    have c4b0 : decide (x13_1 < (l1.length : Int)) = true := decide_eq_true c4
    clear c4
    by_cases c5 : 0 ≤ x13_1
    ·rw [if_pos c5] at H
     have c5b0 : decide (0 ≤ x13_1) = true := decide_eq_true c5
     clear c5
     by_cases c6 : x13_1 < (l1.length : Int)
     ·rw [if_pos c6] at H
      have c6b0 : decide (x13_1 < (l1.length : Int)) = true := decide_eq_true c6
      clear c6
      by_cases c7 : x13_1 < (l2.length : Int)
      ·rw [if_pos c7] at H
       have c7b0 : decide (x13_1 < (l2.length : Int)) = true := decide_eq_true c7
       clear c7
       replace H := Option.bind_eq_some_iff.mp H
       obtain ⟨t103, A80, H⟩ := H
       replace H : (if t103 < 0 then (some (([] : List Int), false)) else (if x8_1.length < 17592186044416 then (pullback_meet.l0 k1 l0 l1 l2 (x8_1 ++ [t103]) (l1.length : Int) (wrap64 (x13_1 + 1))) else (none))) = some (r1, r2) := H
       have A8 := Aside0.mk A80
       clear A80
       by_cases c9 : t103 < 0
       ·rw [if_pos c9] at H
        have c9b0 : decide (t103 < 0) = true := decide_eq_true c9
        clear c9
        simp only [Option.some.injEq, Prod.mk.injEq] at H
        obtain ⟨rfl, rfl⟩ := H
        try go_wp2
        replace Q00 := Aside0.mk (rD Q00.out)
        replace HB := Aside0.mk (wD HB.out)
        have p101 : 0 ≤ (x13_1 : Int) := oT
        have q101 : x13_1 < (l1.length : Int) := oT
        obtain ⟨ad101, e101, hx101_0⟩ := Kd.at_int HR1.out x13_1 p101 q101
        have hw101_0 := hx101_0
        cases e101
        replace hx101_0 := (HB.out.cell (World.block_lt_of_cell? w _ hx101_0)).trans hx101_0
        replace p101 := eq_true p101
        replace q101 := eq_true q101
        have p102 : 0 ≤ (x13_1 : Int) := oT
        have q102 : x13_1 < (l2.length : Int) := oT
        obtain ⟨ad102, e102, hx102_0⟩ := Kd.at_int HR2.out x13_1 p102 q102
        have hw102_0 := hx102_0
        cases e102
        replace hx102_0 := (HB.out.cell (World.block_lt_of_cell? w _ hx102_0)).trans hx102_0
        replace p102 := eq_true p102
        replace q102 := eq_true q102
        refine start_ (n := 12) (S := fun w' => w'.cell? (ad101.add (x13_1).toNat) = some (.int .i64 (rd l1 x13_1)) ∧ w'.cell? (ad102.add (x13_1).toNat) = some (.int .i64 (rd l2 x13_1))) (ds := []) #[false, false, false, false, false, false, false, false, false, false, false, false] (by kernel_rfl) rfl rfl ⟨((HB.out.cell (World.block_lt_of_cell? w _ hw101_0)).trans hw101_0), ((HB.out.cell (World.block_lt_of_cell? w _ hw102_0)).trans hw102_0)⟩ (fun hHeld => ?_); refine with_tabW pullback_meet.tab5 pullback_meet.bits5 (fun HT_ HW_ => ?_)
        generalize wr.drew = w10 at Q00 HB hx101_0 hx102_0 hHeld ⊢
        refine pure_ (i := 0) (N := some 16) (v := ?_) (a' := ?_) #[true, false, false, false, false, false, false, false, false, false, false, false] rfl rfl (any_of HT_.out (by kernel_rfl)) (fun _ _ _ h => h) (Or.inl ⟨by rfl, ?_⟩) ?_ ?_
        rotate_left
        ·intro w'
         go_simp
         with_reducible rfl
        rotate_left
        ·simp only [Act.put, List.setIfInBounds_toArray, List.set_cons_zero, List.set_cons_succ, i64_w, i32_w]
         rfl
        refine pure_ (i := 1) (N := some 17) (v := ?_) (a' := ?_) #[true, true, false, false, false, false, false, false, false, false, false, false] rfl rfl (any_of HT_.out (by kernel_rfl)) (fun _ _ _ h => h) (Or.inl ⟨by rfl, ?_⟩) ?_ ?_
        rotate_left
        ·intro w'
         go_simp
         with_reducible rfl
        rotate_left
        ·simp only [Act.put, List.setIfInBounds_toArray, List.set_cons_zero, List.set_cons_succ, i64_w, i32_w]
         rfl
        refine pure_ (i := 2) (N := some 18) (v := ?_) (a' := ?_) #[true, true, true, false, false, false, false, false, false, false, false, false] rfl rfl (any_of HT_.out (by kernel_rfl)) (fun _ _ _ h => h) (Or.inl ⟨by rfl, ?_⟩) ?_ ?_
        rotate_left
        ·intro w'
         go_simp
         with_reducible rfl
        rotate_left
        ·simp only [Act.put, List.setIfInBounds_toArray, List.set_cons_zero, List.set_cons_succ, i64_w, i32_w]
         rfl
        refine pure_ (i := 3) (N := some 19) (v := ?_) (a' := ?_) #[true, true, true, true, false, false, false, false, false, false, false, false] rfl rfl (any_of HT_.out (by kernel_rfl)) (fun _ _ _ h => h) (Or.inl ⟨by rfl, ?_⟩) ?_ ?_
        rotate_left
        ·intro w'
         go_simp
         with_reducible rfl
        rotate_left
        ·simp only [Act.put, List.setIfInBounds_toArray, List.set_cons_zero, List.set_cons_succ, i64_w, i32_w]
         rfl
        refine pure_ (i := 5) (N := some 21) (v := ?_) (a' := ?_) #[true, true, true, true, false, true, false, false, false, false, false, false] rfl rfl (any_of HT_.out (by kernel_rfl)) (fun _ _ _ h => h) (Or.inl ⟨by rfl, ?_⟩) ?_ ?_
        rotate_left
        ·intro w'
         go_simp
         with_reducible rfl
        rotate_left
        ·simp only [Act.put, List.setIfInBounds_toArray, List.set_cons_zero, List.set_cons_succ, i64_w, i32_w]
         rfl
        refine pure_ (i := 6) (N := some 22) (v := ?_) (a' := ?_) #[true, true, true, true, false, true, true, false, false, false, false, false] rfl rfl (any_of HT_.out (by kernel_rfl)) (fun _ _ _ h => h) (Or.inl ⟨by rfl, ?_⟩) ?_ ?_
        rotate_left
        ·intro w'
         go_simp
         with_reducible rfl
        rotate_left
        ·simp only [Act.put, List.setIfInBounds_toArray, List.set_cons_zero, List.set_cons_succ, i64_w, i32_w]
         rfl
        refine pure_ (i := 7) (N := some 23) (v := ?_) (a' := ?_) #[true, true, true, true, false, true, true, true, false, false, false, false] rfl rfl (any_of HT_.out (by kernel_rfl)) (fun _ _ _ h => h) (Or.inl ⟨by rfl, ?_⟩) ?_ ?_
        rotate_left
        ·intro w'
         go_simp
         with_reducible rfl
        rotate_left
        ·simp only [Act.put, List.setIfInBounds_toArray, List.set_cons_zero, List.set_cons_succ, i64_w, i32_w]
         rfl
        refine take_ (i := 4) (N := some 20) (v := ?_) (a' := ?_) #[true, true, true, true, true, true, true, true, false, false, false, false] rfl rfl (take_ofW HT_.out HW_.out (by kernel_rfl)) (fun _ _ _ h => h) (Or.inl ⟨by rfl, ?_⟩) hHeld ?_ ?_
        rotate_left
        ·rintro w' ⟨s0, s1⟩
         go_simp
         with_reducible rfl
        rotate_left
        ·simp only [Act.put, List.setIfInBounds_toArray, List.set_cons_zero, List.set_cons_succ, i64_w, i32_w]
         rfl
        refine take_ (i := 8) (N := some 24) (v := ?_) (a' := ?_) #[true, true, true, true, true, true, true, true, true, false, false, false] rfl rfl (take_ofW HT_.out HW_.out (by kernel_rfl)) (fun _ _ _ h => h) (Or.inl ⟨by rfl, ?_⟩) hHeld ?_ ?_
        rotate_left
        ·rintro w' ⟨s0, s1⟩
         go_simp
         with_reducible rfl
        rotate_left
        ·simp only [Act.put, List.setIfInBounds_toArray, List.set_cons_zero, List.set_cons_succ, i64_w, i32_w]
         rfl
        refine pure_ (i := 9) (N := some 25) (v := ?_) (a' := ?_) #[true, true, true, true, true, true, true, true, true, true, false, false] rfl rfl (any_of HT_.out (by kernel_rfl)) (fun _ _ _ h => h) (Or.inl ⟨by rfl, ?_⟩) ?_ ?_
        rotate_left
        ·intro w'
         go_simp
         with_reducible rfl
        rotate_left
        ·simp only [Act.put, List.setIfInBounds_toArray, List.set_cons_zero, List.set_cons_succ, i64_w, i32_w]
         rfl
        refine one_ (i := 10) (N := some 26) #[true, true, true, true, true, true, true, true, true, true, true, false] rfl rfl (one_of HT_.out (by kernel_rfl)) (by decide) (fun K hK => ?_)
        refine goes_ Try.func73 (by kernel_rfl) rfl #[.slice A0 l0.length c0, .agg #[.int .i64 (rd l1 x13_1), .int .i64 (rd l2 x13_1)]] (by rfl) rfl rfl aM ?_
        with_reducible refine (api_Pair_73.calls k1 _ _ l0 (rd l1 x13_1) (rd l2 x13_1) t103 _ ?side1 ?side2 A8.out).mono ?_
        (case side1 => exact cX (cB HR0.out HB.out))
        (case side2 => exact HC0.out)
        rintro e w11 ⟨rfl, hb⟩
        refine ⟨_, rfl, ?_⟩
        replace Q00 := uR Q00 hb
        replace HB := uH HB hb
        (try clear hb)
        (try clear hb2)
        (try clear hk)
        (try clear hi)
        refine hK.out _ _ ⟨((HB.out.cell (World.block_lt_of_cell? w _ hw101_0)).trans hw101_0), ((HB.out.cell (World.block_lt_of_cell? w _ hw102_0)).trans hw102_0)⟩ (fun hHeld => ?_)
        clear hK K
        refine norm_ (a' := ?_) ?_ ?_
        rotate_left
        ·show Act.put _ (some 26) _ = _
         simp only [Act.put, List.setIfInBounds_toArray, List.set_cons_zero, List.set_cons_succ, i64_w, i32_w]
         rfl
        refine pure_ (i := 11) (N := some 10) (v := ?_) (a' := ?_) #[true, true, true, true, true, true, true, true, true, true, true, true] rfl rfl (any_of HT_.out (by kernel_rfl)) (fun _ _ _ h => h) (Or.inl ⟨by rfl, ?_⟩) ?_ ?_
        rotate_left
        ·intro w'
         go_simp
         with_reducible rfl
        rotate_left
        ·simp only [Act.put, List.setIfInBounds_toArray, List.set_cons_zero, List.set_cons_succ, i64_w, i32_w]
         rfl
        refine done_ (done_of HT_.out (by kernel_rfl)) ?_
        try go_wp2
        go_ret2
        exact ⟨_, by first | rfl | (simp [errW_none, errW_some] <;> rfl) | (simp [*, errW_none, errW_some] <;> rfl), by first | exact Kd.R_nil _ _ _ _ _ | exact Kd.N_nil _ _ _ _ _ | exact Kd.V_nil _ _ _ _ _ | exact Kd.Q_nil _ _ _ _ _ | exact Kd.S_nil _ _ _ _ _, by repeat (first | (with_reducible first | exact HB.out | apply wA | apply wN | apply wD) | exact HB.out)⟩
       ·rw [if_neg c9] at H
        have c9b0 : decide (t103 < 0) = false := decide_eq_false c9
        clear c9
        by_cases c12 : x8_1.length < 17592186044416
        ·rw [if_pos c12] at H
         have LMc12 := Aside0.mk c12
         clear c12
         obtain ⟨y104, hy104⟩ : ∃ y_ : List Int, y_ = (x8_1 ++ [t103]) := ⟨_, rfl⟩
         replace H : (pullback_meet.l0 k1 l0 l1 l2 y104 (l1.length : Int) (wrap64 (x13_1 + 1))) = some (r1, r2) := by first | (rw [hy104]; with_reducible exact H) | (have H2_ := (Option.bind_some _ _).symm.trans H; rw [hy104]; with_reducible exact H2_) | (have H2_ := (Option.bind_some _ _).symm.trans H; with_reducible exact H2_) | with_reducible exact H | (rw [hy104]; exact H) | exact H
         have Ny104 := Aside0.mk hy104
         clear hy104
         have H' := Aside0.mk H
         clear H
         try go_wp2
         replace Q00 := Aside0.mk (rD Q00.out)
         replace HB := Aside0.mk (wD HB.out)
         have p101 : 0 ≤ (x13_1 : Int) := oT
         have q101 : x13_1 < (l1.length : Int) := oT
         obtain ⟨ad101, e101, hx101_0⟩ := Kd.at_int HR1.out x13_1 p101 q101
         have hw101_0 := hx101_0
         cases e101
         replace hx101_0 := (HB.out.cell (World.block_lt_of_cell? w _ hx101_0)).trans hx101_0
         replace p101 := eq_true p101
         replace q101 := eq_true q101
         have p102 : 0 ≤ (x13_1 : Int) := oT
         have q102 : x13_1 < (l2.length : Int) := oT
         obtain ⟨ad102, e102, hx102_0⟩ := Kd.at_int HR2.out x13_1 p102 q102
         have hw102_0 := hx102_0
         cases e102
         replace hx102_0 := (HB.out.cell (World.block_lt_of_cell? w _ hx102_0)).trans hx102_0
         replace p102 := eq_true p102
         replace q102 := eq_true q102
         refine start_ (n := 12) (S := fun w' => w'.cell? (ad101.add (x13_1).toNat) = some (.int .i64 (rd l1 x13_1)) ∧ w'.cell? (ad102.add (x13_1).toNat) = some (.int .i64 (rd l2 x13_1))) (ds := []) #[false, false, false, false, false, false, false, false, false, false, false, false] (by kernel_rfl) rfl rfl ⟨((HB.out.cell (World.block_lt_of_cell? w _ hw101_0)).trans hw101_0), ((HB.out.cell (World.block_lt_of_cell? w _ hw102_0)).trans hw102_0)⟩ (fun hHeld => ?_); refine with_tabW pullback_meet.tab5 pullback_meet.bits5 (fun HT_ HW_ => ?_)
         generalize wr.drew = w13 at Q00 HB hx101_0 hx102_0 hHeld ⊢
         refine pure_ (i := 0) (N := some 16) (v := ?_) (a' := ?_) #[true, false, false, false, false, false, false, false, false, false, false, false] rfl rfl (any_of HT_.out (by kernel_rfl)) (fun _ _ _ h => h) (Or.inl ⟨by rfl, ?_⟩) ?_ ?_
         rotate_left
         ·intro w'
          go_simp
          with_reducible rfl
         rotate_left
         ·simp only [Act.put, List.setIfInBounds_toArray, List.set_cons_zero, List.set_cons_succ, i64_w, i32_w]
          rfl
         refine pure_ (i := 1) (N := some 17) (v := ?_) (a' := ?_) #[true, true, false, false, false, false, false, false, false, false, false, false] rfl rfl (any_of HT_.out (by kernel_rfl)) (fun _ _ _ h => h) (Or.inl ⟨by rfl, ?_⟩) ?_ ?_
         rotate_left
         ·intro w'
          go_simp
          with_reducible rfl
         rotate_left
         ·simp only [Act.put, List.setIfInBounds_toArray, List.set_cons_zero, List.set_cons_succ, i64_w, i32_w]
          rfl
         refine pure_ (i := 2) (N := some 18) (v := ?_) (a' := ?_) #[true, true, true, false, false, false, false, false, false, false, false, false] rfl rfl (any_of HT_.out (by kernel_rfl)) (fun _ _ _ h => h) (Or.inl ⟨by rfl, ?_⟩) ?_ ?_
         rotate_left
         ·intro w'
          go_simp
          with_reducible rfl
         rotate_left
         ·simp only [Act.put, List.setIfInBounds_toArray, List.set_cons_zero, List.set_cons_succ, i64_w, i32_w]
          rfl
         refine pure_ (i := 3) (N := some 19) (v := ?_) (a' := ?_) #[true, true, true, true, false, false, false, false, false, false, false, false] rfl rfl (any_of HT_.out (by kernel_rfl)) (fun _ _ _ h => h) (Or.inl ⟨by rfl, ?_⟩) ?_ ?_
         rotate_left
         ·intro w'
          go_simp
          with_reducible rfl
         rotate_left
         ·simp only [Act.put, List.setIfInBounds_toArray, List.set_cons_zero, List.set_cons_succ, i64_w, i32_w]
          rfl
         refine pure_ (i := 5) (N := some 21) (v := ?_) (a' := ?_) #[true, true, true, true, false, true, false, false, false, false, false, false] rfl rfl (any_of HT_.out (by kernel_rfl)) (fun _ _ _ h => h) (Or.inl ⟨by rfl, ?_⟩) ?_ ?_
         rotate_left
         ·intro w'
          go_simp
          with_reducible rfl
         rotate_left
         ·simp only [Act.put, List.setIfInBounds_toArray, List.set_cons_zero, List.set_cons_succ, i64_w, i32_w]
          rfl
         refine pure_ (i := 6) (N := some 22) (v := ?_) (a' := ?_) #[true, true, true, true, false, true, true, false, false, false, false, false] rfl rfl (any_of HT_.out (by kernel_rfl)) (fun _ _ _ h => h) (Or.inl ⟨by rfl, ?_⟩) ?_ ?_
         rotate_left
         ·intro w'
          go_simp
          with_reducible rfl
         rotate_left
         ·simp only [Act.put, List.setIfInBounds_toArray, List.set_cons_zero, List.set_cons_succ, i64_w, i32_w]
          rfl
         refine pure_ (i := 7) (N := some 23) (v := ?_) (a' := ?_) #[true, true, true, true, false, true, true, true, false, false, false, false] rfl rfl (any_of HT_.out (by kernel_rfl)) (fun _ _ _ h => h) (Or.inl ⟨by rfl, ?_⟩) ?_ ?_
         rotate_left
         ·intro w'
          go_simp
          with_reducible rfl
         rotate_left
         ·simp only [Act.put, List.setIfInBounds_toArray, List.set_cons_zero, List.set_cons_succ, i64_w, i32_w]
          rfl
         refine take_ (i := 4) (N := some 20) (v := ?_) (a' := ?_) #[true, true, true, true, true, true, true, true, false, false, false, false] rfl rfl (take_ofW HT_.out HW_.out (by kernel_rfl)) (fun _ _ _ h => h) (Or.inl ⟨by rfl, ?_⟩) hHeld ?_ ?_
         rotate_left
         ·rintro w' ⟨s0, s1⟩
          go_simp
          with_reducible rfl
         rotate_left
         ·simp only [Act.put, List.setIfInBounds_toArray, List.set_cons_zero, List.set_cons_succ, i64_w, i32_w]
          rfl
         refine take_ (i := 8) (N := some 24) (v := ?_) (a' := ?_) #[true, true, true, true, true, true, true, true, true, false, false, false] rfl rfl (take_ofW HT_.out HW_.out (by kernel_rfl)) (fun _ _ _ h => h) (Or.inl ⟨by rfl, ?_⟩) hHeld ?_ ?_
         rotate_left
         ·rintro w' ⟨s0, s1⟩
          go_simp
          with_reducible rfl
         rotate_left
         ·simp only [Act.put, List.setIfInBounds_toArray, List.set_cons_zero, List.set_cons_succ, i64_w, i32_w]
          rfl
         refine pure_ (i := 9) (N := some 25) (v := ?_) (a' := ?_) #[true, true, true, true, true, true, true, true, true, true, false, false] rfl rfl (any_of HT_.out (by kernel_rfl)) (fun _ _ _ h => h) (Or.inl ⟨by rfl, ?_⟩) ?_ ?_
         rotate_left
         ·intro w'
          go_simp
          with_reducible rfl
         rotate_left
         ·simp only [Act.put, List.setIfInBounds_toArray, List.set_cons_zero, List.set_cons_succ, i64_w, i32_w]
          rfl
         refine one_ (i := 10) (N := some 26) #[true, true, true, true, true, true, true, true, true, true, true, false] rfl rfl (one_of HT_.out (by kernel_rfl)) (by decide) (fun K hK => ?_)
         refine goes_ Try.func73 (by kernel_rfl) rfl #[.slice A0 l0.length c0, .agg #[.int .i64 (rd l1 x13_1), .int .i64 (rd l2 x13_1)]] (by rfl) rfl rfl aM ?_
         with_reducible refine (api_Pair_73.calls k1 _ _ l0 (rd l1 x13_1) (rd l2 x13_1) t103 _ ?side1 ?side2 A8.out).mono ?_
         (case side1 => exact cX (cB HR0.out HB.out))
         (case side2 => exact HC0.out)
         rintro e w14 ⟨rfl, hb⟩
         refine ⟨_, rfl, ?_⟩
         replace Q00 := uR Q00 hb
         replace HB := uH HB hb
         (try clear hb)
         (try clear hb2)
         (try clear hk)
         (try clear hi)
         refine hK.out _ _ ⟨((HB.out.cell (World.block_lt_of_cell? w _ hw101_0)).trans hw101_0), ((HB.out.cell (World.block_lt_of_cell? w _ hw102_0)).trans hw102_0)⟩ (fun hHeld => ?_)
         clear hK K
         refine norm_ (a' := ?_) ?_ ?_
         rotate_left
         ·show Act.put _ (some 26) _ = _
          simp only [Act.put, List.setIfInBounds_toArray, List.set_cons_zero, List.set_cons_succ, i64_w, i32_w]
          rfl
         refine pure_ (i := 11) (N := some 10) (v := ?_) (a' := ?_) #[true, true, true, true, true, true, true, true, true, true, true, true] rfl rfl (any_of HT_.out (by kernel_rfl)) (fun _ _ _ h => h) (Or.inl ⟨by rfl, ?_⟩) ?_ ?_
         rotate_left
         ·intro w'
          go_simp
          with_reducible rfl
         rotate_left
         ·simp only [Act.put, List.setIfInBounds_toArray, List.set_cons_zero, List.set_cons_succ, i64_w, i32_w]
          rfl
         refine done_ (done_of HT_.out (by kernel_rfl)) ?_
         try go_wp2_with (first | ((with_reducible refine gate_builtin (b := .append) (xs := #[.tmp 29, .tmp 31]) rfl ?_); at_builtin; refine Kd.R_append (Kd.int .i64) (w0 := w) w.heap.size rfl (.tmp 29) (.tmp 31) 22 3 (.int .i64 0) 8 rfl Try.underlying22 info3 rfl (by decide) (by omega) u8 x8_1 t103 [.int .i64 t103] (fun _ => True) (fun _ => False) rfl rfl ?aP (fun _ hk => hk.elim) ?aF ?aO ?aB ?aS ?aL ?_; (case aP => exact rfl); (case aB => exact hB); (case aF => exact (fun _ _ => trivial)); (case aO => exact (pR Q00)); (case aS => exact (below_size hB)); (case aL => have := LMc12.out; omega); intro v105 w15 ho hb hg hat; rw [← Ny104.out] at ho; replace HB := Aside0.mk (hb); have Q01 := Aside0.mk (ho); clear Q00; clear ho hb hg hat))
         go_roundg k1
         case measure => have := HK1.out; omega
         case rel => exact ⟨(y104), (wrap64 (x13_1 + 1)), rS, H', ⟨by have := HK1.out; omega⟩, ⟨pR Q01⟩, ⟨pH HB⟩⟩
        ·rw [if_neg c12] at H
         exact absurd H (by simp)
      ·rw [if_neg c7] at H
       exact absurd H (by simp)
     ·rw [if_neg c6] at H
      exact absurd H (by simp)
    ·rw [if_neg c5] at H
     exact absurd H (by simp)
   ·rw [if_neg c4] at H
    have c4b0 : decide (x13_1 < (l1.length : Int)) = false := decide_eq_false c4
    clear c4
    simp only [Option.some.injEq, Prod.mk.injEq] at H
    obtain ⟨rfl, rfl⟩ := H
    go_wp2
    go_ret2
    exact ⟨_, by first | rfl | (simp [errW_none, errW_some] <;> rfl) | (simp [*, errW_none, errW_some] <;> rfl), by (with_reducible repeat (first | apply rA | apply rN | apply rD)); exact Q00.out, by repeat (first | (with_reducible first | exact HB.out | apply wA | apply wN | apply wD) | exact HB.out)⟩
end Go.Proofs.Ytillofiphkmjjaa.X

/- pullback.Mediate (13), walked by hand. -/
namespace Go.Proofs.Ytillofiphkmjjaa.X
open Go.RowKit Go.Proofs.YtillofiphkmjjaaW.PrintWords Go.Proofs.YtillofiphkmjjaaW.PrintLast Go.Proofs.YtillofiphkmjjaaW.PrintMore
set_option linter.unusedVariables false
set_option linter.unusedSimpArgs false
def medF (k : Nat) (x0 : List Int) (x1 : List S94) (x2 : List Int) (x3 : List S94) (x4 : List Int) (x5 : List S94) (x6 : List Int) (x7 : List Int) (x8 : List Int) (x9 : List Int) (x10 : List Int) (x11 : List S94) (x12 : List Int) (x13 : List Int) (x14 : List Int) (x15 : List Int) : Option (List Int × List Int × Int) :=
 (pullback_of.f k x0 x1 x2 x3 x4 x5 x6 x7 x8 x9).bind fun o => if o.2.2.2.2 = 0 then (if mvalid x10 x11 x0 x1 x12 x13 = 0 then (if mvalid x10 x11 x2 x3 x14 x15 = 0 then ((pullback_meet.f k o.1 x12 x14).bind fun a => (pullback_meet.f k o.2.1 x13 x15).bind fun b => if (a.2 && b.2) = true then some (a.1, b.1, 0) else some ([], [], 11)) else some ([], [], mvalid x10 x11 x2 x3 x14 x15)) else some ([], [], mvalid x10 x11 x0 x1 x12 x13)) else some ([], [], o.2.2.2.2)
set_option maxHeartbeats 4000000 in
set_option maxRecDepth 100000 in
theorem Med_a (k : Nat) (A0 : Option Addr) (c0 : Nat) (x0 : List Int) (A1 : Option Addr) (c1 : Nat) (x1 : List S94) (A2 : Option Addr) (c2 : Nat) (x2 : List Int) (A3 : Option Addr) (c3 : Nat) (x3 : List S94) (A4 : Option Addr) (c4 : Nat) (x4 : List Int) (A5 : Option Addr) (c5 : Nat) (x5 : List S94) (A6 : Option Addr) (c6 : Nat) (x6 : List Int) (A7 : Option Addr) (c7 : Nat) (x7 : List Int) (A8 : Option Addr) (c8 : Nat) (x8 : List Int) (A9 : Option Addr) (c9 : Nat) (x9 : List Int) (A10 : Option Addr) (c10 : Nat) (x10 : List Int) (A11 : Option Addr) (c11 : Nat) (x11 : List S94) (A12 : Option Addr) (c12 : Nat) (x12 : List Int) (A13 : Option Addr) (c13 : Nat) (x13 : List Int) (A14 : Option Addr) (c14 : Nat) (x14 : List Int) (A15 : Option Addr) (c15 : Nat) (x15 : List Int) (w : World)
  (R0 : Row (Kd.int .i64) w A0 c0 x0) (R1 : Row k94 w A1 c1 x1) (R2 : Row (Kd.int .i64) w A2 c2 x2) (R3 : Row k94 w A3 c3 x3) (R4 : Row (Kd.int .i64) w A4 c4 x4) (R5 : Row k94 w A5 c5 x5) (R6 : Row (Kd.int .i64) w A6 c6 x6) (R7 : Row (Kd.int .i64) w A7 c7 x7) (R8 : Row (Kd.int .i64) w A8 c8 x8) (R9 : Row (Kd.int .i64) w A9 c9 x9) (R10 : Row (Kd.int .i64) w A10 c10 x10) (R11 : Row k94 w A11 c11 x11) (R12 : Row (Kd.int .i64) w A12 c12 x12) (R13 : Row (Kd.int .i64) w A13 c13 x13) (R14 : Row (Kd.int .i64) w A14 c14 x14) (R15 : Row (Kd.int .i64) w A15 c15 x15)
  (P Q : List S79) (n : List Int) (m : List S94) (er : Int) (hO : pullback_of.f k x0 x1 x2 x3 x4 x5 x6 x7 x8 x9 = some (P, Q, n, m, er)) (her : er ≠ 0) :
  Calls Try.prog 13 #[.agg #[.slice A0 x0.length c0, .slice A1 x1.length c1, .slice A2 x2.length c2, .slice A3 x3.length c3, .slice A4 x4.length c4, .slice A5 x5.length c5, .slice A6 x6.length c6, .slice A7 x7.length c7, .slice A8 x8.length c8, .slice A9 x9.length c9], .agg #[.slice A10 x10.length c10, .slice A11 x11.length c11], .agg #[.slice A12 x12.length c12, .slice A13 x13.length c13], .agg #[.slice A14 x14.length c14, .slice A15 x15.length c15]] w fun e w' => ∃ v0 v1 : Value, e = .returned (.tuple #[.agg #[v0, v1], .int .i64 er]) ∧ Vr (Kd.int .i64) w' v0 [] ∧ Vr (Kd.int .i64) w' v1 [] ∧ Below w.heap.size w w' := by
 have hO_ := Aside0.mk hO
 have her_ := Aside0.mk her
 clear hO her
 have hu25 := Try.underlying25
 have hu27 := Try.underlying27
 have hu29 := Try.underlying29
 have hu81 := Try.underlying81
 have SB := Since.refl w
 have RS := cR R0 (cR R1 (cR R2 (cR R3 (cR R4 (cR R5 (cR R6 (cR R7 (cR R8 (cR R9 (cR R10 (cR R11 (cR R12 (cR R13 (cR R14 (cR R15 (cE SB))))))))))))))))
 clear SB R0 R1 R2 R3 R4 R5 R6 R7 R8 R9 R10 R11 R12 R13 R14 R15
 go_enter Try.func13, Try.ntmps13
 go_upto_region 1 with fail
 obtain ⟨w1, hv, BS, BX, BH, BK, D8, hb⟩ := nw5 w 29 #[.slice A0 x0.length c0, .slice A1 x1.length c1, .slice A2 x2.length c2, .slice A3 x3.length c3, .slice A4 x4.length c4, .slice A5 x5.length c5, .slice A6 x6.length c6, .slice A7 x7.length c7, .slice A8 x8.length c8, .slice A9 x9.length c9] 25 #[.slice A10 x10.length c10, .slice A11 x11.length c11] 27 #[.slice A12 x12.length c12, .slice A13 x13.length c13] 27 #[.slice A14 x14.length c14, .slice A15 x15.length c15] 27 #[.slice none 0 0, .slice none 0 0]
 rw [← hv]
 clear hv
 replace RS := mo hb RS
 clear hb
 replace RS := cK BS (cK BX (cK BH (cK BK (cK D8 (RS)))))
 clear BS BX BH BK D8
 rcases (id RS) with ⟨⟨BS⟩, -⟩
 obtain ⟨_, _, _, _, _, _, _, _, _, _⟩ := BS.q10
 go_wp2_with fail
 rcases (id RS) with ⟨-, ⟨-, ⟨-, ⟨-, ⟨-, ⟨⟨R0⟩, ⟨⟨R1⟩, ⟨⟨R2⟩, ⟨⟨R3⟩, ⟨⟨R4⟩, ⟨⟨R5⟩, ⟨⟨R6⟩, ⟨⟨R7⟩, ⟨⟨R8⟩, ⟨⟨R9⟩, -⟩⟩⟩⟩⟩⟩⟩⟩⟩⟩⟩⟩⟩⟩⟩
 refine (pullback_of.calls k _ _ x0 _ _ x1 _ _ x2 _ _ x3 _ _ x4 _ _ x5 _ _ x6 _ _ x7 _ _ x8 _ _ x9 P Q n m er _ R0.at_ R0.cap R1.at_ R1.cap R2.at_ R2.cap R3.at_ R3.cap R4.at_ R4.cap R5.at_ R5.cap R6.at_ R6.cap R7.at_ R7.cap R8.at_ R8.cap R9.at_ R9.cap hO_.out).mono ?_
 rintro e w2 ⟨z0, z1, z2, z3, rfl, q0, q1, q2, q3, hb⟩
 clear R0 R1 R2 R3 R4 R5 R6 R7 R8 R9
 replace hb := bS (w := w1) hb
 replace RS := mo hb RS
 clear hb
 obtain ⟨P0, p0, rfl, Q0⟩ := Row.of_R q0
 clear q0
 obtain ⟨P1, p1, rfl, Q1⟩ := Row.of_R q1
 clear q1
 obtain ⟨P2, p2, rfl, Q2⟩ := Row.of_R q2
 clear q2
 obtain ⟨P3, p3, rfl, Q3⟩ := Row.of_R q3
 clear q3
 replace RS := cR Q0 (cR Q1 (cR Q2 (cR Q3 (RS))))
 clear Q0 Q1 Q2 Q3
 go_upto_region 2 with fail
 obtain ⟨w3, hv, B6, hb⟩ := nw1 w2 81 #[.slice P0 P.length p0, .slice P1 Q.length p1, .slice P2 n.length p2, .slice P3 m.length p3]
 rw [← hv]
 clear hv
 replace RS := mo hb RS
 clear hb
 replace RS := cK B6 (RS)
 clear B6
 rcases (id RS) with ⟨⟨B6⟩, ⟨-, ⟨-, ⟨-, ⟨-, ⟨⟨BS⟩, ⟨⟨BX⟩, ⟨⟨BH⟩, ⟨⟨BK⟩, ⟨⟨D8⟩, -⟩⟩⟩⟩⟩⟩⟩⟩⟩⟩
 obtain ⟨_, _, _, _⟩ := B6.q4
 obtain ⟨_, _, _, _, _, _, _, _, _, _⟩ := BS.q10
 obtain ⟨_, _⟩ := BX.q2
 obtain ⟨_, _⟩ := BH.q2
 obtain ⟨_, _⟩ := BK.q2
 obtain ⟨_, _⟩ := D8.q2
 have hz : (er != 0) = true := bne_iff_ne.mpr her_.out
 have hz' : (er == 0) = false := beq_eq_false_iff_ne.mpr her_.out
 have hz'' : decide (er = 0) = false := decide_eq_false her_.out
 rcases (id RS) with ⟨-, ⟨-, ⟨-, ⟨-, ⟨-, ⟨-, ⟨-, ⟨-, ⟨-, ⟨⟨D8⟩, ⟨-, ⟨-, ⟨-, ⟨-, ⟨-, ⟨-, ⟨-, ⟨-, ⟨-, ⟨-, ⟨-, ⟨-, ⟨-, ⟨-, ⟨-, ⟨-, ⟨SB⟩⟩⟩⟩⟩⟩⟩⟩⟩⟩⟩⟩⟩⟩⟩⟩⟩⟩⟩⟩⟩⟩⟩⟩⟩⟩⟩
 replace D8 : Box2 _ _ 27 (.slice none 0 0) (.slice none 0 0) := ⟨D8.get⟩
 have D8f0 := blk_frozen D8.get 0
 have D8f1 := blk_frozen D8.get 1
 have le8 : w.heap.size ≤ w.heap.size + 1 + 1 + 1 + 1 := by omega
 generalize w.heap.size + 1 + 1 + 1 + 1 = g8 at *
 go_wp2_with fail
 try go_wp2_with fail
 replace D8 := D8.put2 (.slice none 0 0) (.slice none 0 0)
 replace SB : Since w _ := SB.put2 le8 (.slice none 0 0) (.slice none 0 0)
 generalize hw : (World.setCell (World.setCell _ _ _) _ _) = w8 at *
 clear hw
 refine bodyPost_ret (results_list (rs := [.cell 8 27, .tmp 9]) rfl (by simp) (.cell g8 27 #[.slice none 0 0, .slice none 0 0] (0, 0) _ rfl D8.get Try.underlying27 rfl (by kernel_rfl) (.tmp .nil))) rfl ?_
 exact ⟨_, _, rfl, ⟨_, _, rfl, Row.nil _ _⟩, ⟨_, _, rfl, Row.nil _ _⟩, SB.get⟩
set_option maxHeartbeats 4000000 in
set_option maxRecDepth 100000 in
theorem Med_b (k : Nat) (A0 : Option Addr) (c0 : Nat) (x0 : List Int) (A1 : Option Addr) (c1 : Nat) (x1 : List S94) (A2 : Option Addr) (c2 : Nat) (x2 : List Int) (A3 : Option Addr) (c3 : Nat) (x3 : List S94) (A4 : Option Addr) (c4 : Nat) (x4 : List Int) (A5 : Option Addr) (c5 : Nat) (x5 : List S94) (A6 : Option Addr) (c6 : Nat) (x6 : List Int) (A7 : Option Addr) (c7 : Nat) (x7 : List Int) (A8 : Option Addr) (c8 : Nat) (x8 : List Int) (A9 : Option Addr) (c9 : Nat) (x9 : List Int) (A10 : Option Addr) (c10 : Nat) (x10 : List Int) (A11 : Option Addr) (c11 : Nat) (x11 : List S94) (A12 : Option Addr) (c12 : Nat) (x12 : List Int) (A13 : Option Addr) (c13 : Nat) (x13 : List Int) (A14 : Option Addr) (c14 : Nat) (x14 : List Int) (A15 : Option Addr) (c15 : Nat) (x15 : List Int) (w : World)
  (R0 : Row (Kd.int .i64) w A0 c0 x0) (R1 : Row k94 w A1 c1 x1) (R2 : Row (Kd.int .i64) w A2 c2 x2) (R3 : Row k94 w A3 c3 x3) (R4 : Row (Kd.int .i64) w A4 c4 x4) (R5 : Row k94 w A5 c5 x5) (R6 : Row (Kd.int .i64) w A6 c6 x6) (R7 : Row (Kd.int .i64) w A7 c7 x7) (R8 : Row (Kd.int .i64) w A8 c8 x8) (R9 : Row (Kd.int .i64) w A9 c9 x9) (R10 : Row (Kd.int .i64) w A10 c10 x10) (R11 : Row k94 w A11 c11 x11) (R12 : Row (Kd.int .i64) w A12 c12 x12) (R13 : Row (Kd.int .i64) w A13 c13 x13) (R14 : Row (Kd.int .i64) w A14 c14 x14) (R15 : Row (Kd.int .i64) w A15 c15 x15)
  (P Q : List S79) (n : List Int) (m : List S94) (hO : pullback_of.f k x0 x1 x2 x3 x4 x5 x6 x7 x8 x9 = some (P, Q, n, m, 0)) (er : Int) (he : mvalid x10 x11 x0 x1 x12 x13 = er) (her : er ≠ 0) :
  Calls Try.prog 13 #[.agg #[.slice A0 x0.length c0, .slice A1 x1.length c1, .slice A2 x2.length c2, .slice A3 x3.length c3, .slice A4 x4.length c4, .slice A5 x5.length c5, .slice A6 x6.length c6, .slice A7 x7.length c7, .slice A8 x8.length c8, .slice A9 x9.length c9], .agg #[.slice A10 x10.length c10, .slice A11 x11.length c11], .agg #[.slice A12 x12.length c12, .slice A13 x13.length c13], .agg #[.slice A14 x14.length c14, .slice A15 x15.length c15]] w fun e w' => ∃ v0 v1 : Value, e = .returned (.tuple #[.agg #[v0, v1], .int .i64 er]) ∧ Vr (Kd.int .i64) w' v0 [] ∧ Vr (Kd.int .i64) w' v1 [] ∧ Below w.heap.size w w' := by
 have hO_ := Aside0.mk hO
 have he_ := Aside0.mk he
 have her_ := Aside0.mk her
 clear hO he her
 have hu25 := Try.underlying25
 have hu27 := Try.underlying27
 have hu29 := Try.underlying29
 have hu81 := Try.underlying81
 have SB := Since.refl w
 have RS := cR R0 (cR R1 (cR R2 (cR R3 (cR R4 (cR R5 (cR R6 (cR R7 (cR R8 (cR R9 (cR R10 (cR R11 (cR R12 (cR R13 (cR R14 (cR R15 (cE SB))))))))))))))))
 clear SB R0 R1 R2 R3 R4 R5 R6 R7 R8 R9 R10 R11 R12 R13 R14 R15
 go_enter Try.func13, Try.ntmps13
 go_upto_region 1 with fail
 obtain ⟨w1, hv, BS, BX, BH, BK, D8, hb⟩ := nw5 w 29 #[.slice A0 x0.length c0, .slice A1 x1.length c1, .slice A2 x2.length c2, .slice A3 x3.length c3, .slice A4 x4.length c4, .slice A5 x5.length c5, .slice A6 x6.length c6, .slice A7 x7.length c7, .slice A8 x8.length c8, .slice A9 x9.length c9] 25 #[.slice A10 x10.length c10, .slice A11 x11.length c11] 27 #[.slice A12 x12.length c12, .slice A13 x13.length c13] 27 #[.slice A14 x14.length c14, .slice A15 x15.length c15] 27 #[.slice none 0 0, .slice none 0 0]
 rw [← hv]
 clear hv
 replace RS := mo hb RS
 clear hb
 replace RS := cK BS (cK BX (cK BH (cK BK (cK D8 (RS)))))
 clear BS BX BH BK D8
 rcases (id RS) with ⟨⟨BS⟩, -⟩
 obtain ⟨_, _, _, _, _, _, _, _, _, _⟩ := BS.q10
 go_wp2_with fail
 rcases (id RS) with ⟨-, ⟨-, ⟨-, ⟨-, ⟨-, ⟨⟨R0⟩, ⟨⟨R1⟩, ⟨⟨R2⟩, ⟨⟨R3⟩, ⟨⟨R4⟩, ⟨⟨R5⟩, ⟨⟨R6⟩, ⟨⟨R7⟩, ⟨⟨R8⟩, ⟨⟨R9⟩, -⟩⟩⟩⟩⟩⟩⟩⟩⟩⟩⟩⟩⟩⟩⟩
 refine (pullback_of.calls k _ _ x0 _ _ x1 _ _ x2 _ _ x3 _ _ x4 _ _ x5 _ _ x6 _ _ x7 _ _ x8 _ _ x9 P Q n m 0 _ R0.at_ R0.cap R1.at_ R1.cap R2.at_ R2.cap R3.at_ R3.cap R4.at_ R4.cap R5.at_ R5.cap R6.at_ R6.cap R7.at_ R7.cap R8.at_ R8.cap R9.at_ R9.cap hO_.out).mono ?_
 rintro e w2 ⟨z0, z1, z2, z3, rfl, q0, q1, q2, q3, hb⟩
 clear R0 R1 R2 R3 R4 R5 R6 R7 R8 R9
 replace hb := bS (w := w1) hb
 replace RS := mo hb RS
 clear hb
 obtain ⟨P0, p0, rfl, Q0⟩ := Row.of_R q0
 clear q0
 obtain ⟨P1, p1, rfl, Q1⟩ := Row.of_R q1
 clear q1
 obtain ⟨P2, p2, rfl, Q2⟩ := Row.of_R q2
 clear q2
 obtain ⟨P3, p3, rfl, Q3⟩ := Row.of_R q3
 clear q3
 replace RS := cR Q0 (cR Q1 (cR Q2 (cR Q3 (RS))))
 clear Q0 Q1 Q2 Q3
 go_upto_region 2 with fail
 obtain ⟨w3, hv, B6, hb⟩ := nw1 w2 81 #[.slice P0 P.length p0, .slice P1 Q.length p1, .slice P2 n.length p2, .slice P3 m.length p3]
 rw [← hv]
 clear hv
 replace RS := mo hb RS
 clear hb
 replace RS := cK B6 (RS)
 clear B6
 rcases (id RS) with ⟨⟨B6⟩, ⟨-, ⟨-, ⟨-, ⟨-, ⟨⟨BS⟩, ⟨⟨BX⟩, ⟨⟨BH⟩, ⟨⟨BK⟩, ⟨⟨D8⟩, -⟩⟩⟩⟩⟩⟩⟩⟩⟩⟩
 obtain ⟨_, _, _, _⟩ := B6.q4
 obtain ⟨_, _, _, _, _, _, _, _, _, _⟩ := BS.q10
 obtain ⟨_, _⟩ := BX.q2
 obtain ⟨_, _⟩ := BH.q2
 obtain ⟨_, _⟩ := BK.q2
 obtain ⟨_, _⟩ := D8.q2
 go_wp2_with fail
 rcases (id RS) with ⟨-, ⟨-, ⟨-, ⟨-, ⟨-, ⟨-, ⟨-, ⟨-, ⟨-, ⟨-, ⟨⟨R0⟩, ⟨⟨R1⟩, ⟨-, ⟨-, ⟨-, ⟨-, ⟨-, ⟨-, ⟨-, ⟨-, ⟨⟨R10⟩, ⟨⟨R11⟩, ⟨⟨R12⟩, ⟨⟨R13⟩, -⟩⟩⟩⟩⟩⟩⟩⟩⟩⟩⟩⟩⟩⟩⟩⟩⟩⟩⟩⟩⟩⟩⟩⟩
 refine (morphism_Valid.calls _ _ x10 _ _ x11 _ _ x0 _ _ x1 _ _ x12 _ _ x13 er _ R10.at_ R10.cap R11.at_ R11.cap R0.at_ R0.cap R1.at_ R1.cap R12.at_ R12.cap R13.at_ R13.cap (by unfold morphism_Valid.f; rw [he_.out])).mono ?_
 rintro e w4 ⟨rfl, hb⟩
 clear R10 R11 R0 R1 R12 R13
 replace hb := bS (w := w3) hb
 replace RS := mo hb RS
 clear hb
 rcases (id RS) with ⟨⟨B6⟩, ⟨-, ⟨-, ⟨-, ⟨-, ⟨⟨BS⟩, ⟨⟨BX⟩, ⟨⟨BH⟩, ⟨⟨BK⟩, ⟨⟨D8⟩, -⟩⟩⟩⟩⟩⟩⟩⟩⟩⟩
 obtain ⟨_, _, _, _⟩ := B6.q4
 obtain ⟨_, _, _, _, _, _, _, _, _, _⟩ := BS.q10
 obtain ⟨_, _⟩ := BX.q2
 obtain ⟨_, _⟩ := BH.q2
 obtain ⟨_, _⟩ := BK.q2
 obtain ⟨_, _⟩ := D8.q2
 have hz : (er != 0) = true := bne_iff_ne.mpr her_.out
 have hz' : (er == 0) = false := beq_eq_false_iff_ne.mpr her_.out
 have hz'' : decide (er = 0) = false := decide_eq_false her_.out
 rcases (id RS) with ⟨-, ⟨-, ⟨-, ⟨-, ⟨-, ⟨-, ⟨-, ⟨-, ⟨-, ⟨⟨D8⟩, ⟨-, ⟨-, ⟨-, ⟨-, ⟨-, ⟨-, ⟨-, ⟨-, ⟨-, ⟨-, ⟨-, ⟨-, ⟨-, ⟨-, ⟨-, ⟨-, ⟨SB⟩⟩⟩⟩⟩⟩⟩⟩⟩⟩⟩⟩⟩⟩⟩⟩⟩⟩⟩⟩⟩⟩⟩⟩⟩⟩⟩
 replace D8 : Box2 _ _ 27 (.slice none 0 0) (.slice none 0 0) := ⟨D8.get⟩
 have D8f0 := blk_frozen D8.get 0
 have D8f1 := blk_frozen D8.get 1
 have le8 : w.heap.size ≤ w.heap.size + 1 + 1 + 1 + 1 := by omega
 generalize w.heap.size + 1 + 1 + 1 + 1 = g8 at *
 go_wp2_with fail
 try go_wp2_with fail
 replace D8 := D8.put2 (.slice none 0 0) (.slice none 0 0)
 replace SB : Since w _ := SB.put2 le8 (.slice none 0 0) (.slice none 0 0)
 generalize hw : (World.setCell (World.setCell _ _ _) _ _) = w8 at *
 clear hw
 refine bodyPost_ret (results_list (rs := [.cell 8 27, .tmp 9]) rfl (by simp) (.cell g8 27 #[.slice none 0 0, .slice none 0 0] (0, 0) _ rfl D8.get Try.underlying27 rfl (by kernel_rfl) (.tmp .nil))) rfl ?_
 exact ⟨_, _, rfl, ⟨_, _, rfl, Row.nil _ _⟩, ⟨_, _, rfl, Row.nil _ _⟩, SB.get⟩
set_option maxHeartbeats 4000000 in
set_option maxRecDepth 100000 in
theorem Med_c (k : Nat) (A0 : Option Addr) (c0 : Nat) (x0 : List Int) (A1 : Option Addr) (c1 : Nat) (x1 : List S94) (A2 : Option Addr) (c2 : Nat) (x2 : List Int) (A3 : Option Addr) (c3 : Nat) (x3 : List S94) (A4 : Option Addr) (c4 : Nat) (x4 : List Int) (A5 : Option Addr) (c5 : Nat) (x5 : List S94) (A6 : Option Addr) (c6 : Nat) (x6 : List Int) (A7 : Option Addr) (c7 : Nat) (x7 : List Int) (A8 : Option Addr) (c8 : Nat) (x8 : List Int) (A9 : Option Addr) (c9 : Nat) (x9 : List Int) (A10 : Option Addr) (c10 : Nat) (x10 : List Int) (A11 : Option Addr) (c11 : Nat) (x11 : List S94) (A12 : Option Addr) (c12 : Nat) (x12 : List Int) (A13 : Option Addr) (c13 : Nat) (x13 : List Int) (A14 : Option Addr) (c14 : Nat) (x14 : List Int) (A15 : Option Addr) (c15 : Nat) (x15 : List Int) (w : World)
  (R0 : Row (Kd.int .i64) w A0 c0 x0) (R1 : Row k94 w A1 c1 x1) (R2 : Row (Kd.int .i64) w A2 c2 x2) (R3 : Row k94 w A3 c3 x3) (R4 : Row (Kd.int .i64) w A4 c4 x4) (R5 : Row k94 w A5 c5 x5) (R6 : Row (Kd.int .i64) w A6 c6 x6) (R7 : Row (Kd.int .i64) w A7 c7 x7) (R8 : Row (Kd.int .i64) w A8 c8 x8) (R9 : Row (Kd.int .i64) w A9 c9 x9) (R10 : Row (Kd.int .i64) w A10 c10 x10) (R11 : Row k94 w A11 c11 x11) (R12 : Row (Kd.int .i64) w A12 c12 x12) (R13 : Row (Kd.int .i64) w A13 c13 x13) (R14 : Row (Kd.int .i64) w A14 c14 x14) (R15 : Row (Kd.int .i64) w A15 c15 x15)
  (P Q : List S79) (n : List Int) (m : List S94) (hO : pullback_of.f k x0 x1 x2 x3 x4 x5 x6 x7 x8 x9 = some (P, Q, n, m, 0)) (hv : mvalid x10 x11 x0 x1 x12 x13 = 0) (er : Int) (he : mvalid x10 x11 x2 x3 x14 x15 = er) (her : er ≠ 0) :
  Calls Try.prog 13 #[.agg #[.slice A0 x0.length c0, .slice A1 x1.length c1, .slice A2 x2.length c2, .slice A3 x3.length c3, .slice A4 x4.length c4, .slice A5 x5.length c5, .slice A6 x6.length c6, .slice A7 x7.length c7, .slice A8 x8.length c8, .slice A9 x9.length c9], .agg #[.slice A10 x10.length c10, .slice A11 x11.length c11], .agg #[.slice A12 x12.length c12, .slice A13 x13.length c13], .agg #[.slice A14 x14.length c14, .slice A15 x15.length c15]] w fun e w' => ∃ v0 v1 : Value, e = .returned (.tuple #[.agg #[v0, v1], .int .i64 er]) ∧ Vr (Kd.int .i64) w' v0 [] ∧ Vr (Kd.int .i64) w' v1 [] ∧ Below w.heap.size w w' := by
 have hO_ := Aside0.mk hO
 have hv_ := Aside0.mk hv
 have he_ := Aside0.mk he
 have her_ := Aside0.mk her
 clear hO hv he her
 have hu25 := Try.underlying25
 have hu27 := Try.underlying27
 have hu29 := Try.underlying29
 have hu81 := Try.underlying81
 have SB := Since.refl w
 have RS := cR R0 (cR R1 (cR R2 (cR R3 (cR R4 (cR R5 (cR R6 (cR R7 (cR R8 (cR R9 (cR R10 (cR R11 (cR R12 (cR R13 (cR R14 (cR R15 (cE SB))))))))))))))))
 clear SB R0 R1 R2 R3 R4 R5 R6 R7 R8 R9 R10 R11 R12 R13 R14 R15
 go_enter Try.func13, Try.ntmps13
 go_upto_region 1 with fail
 obtain ⟨w1, hv, BS, BX, BH, BK, D8, hb⟩ := nw5 w 29 #[.slice A0 x0.length c0, .slice A1 x1.length c1, .slice A2 x2.length c2, .slice A3 x3.length c3, .slice A4 x4.length c4, .slice A5 x5.length c5, .slice A6 x6.length c6, .slice A7 x7.length c7, .slice A8 x8.length c8, .slice A9 x9.length c9] 25 #[.slice A10 x10.length c10, .slice A11 x11.length c11] 27 #[.slice A12 x12.length c12, .slice A13 x13.length c13] 27 #[.slice A14 x14.length c14, .slice A15 x15.length c15] 27 #[.slice none 0 0, .slice none 0 0]
 rw [← hv]
 clear hv
 replace RS := mo hb RS
 clear hb
 replace RS := cK BS (cK BX (cK BH (cK BK (cK D8 (RS)))))
 clear BS BX BH BK D8
 rcases (id RS) with ⟨⟨BS⟩, -⟩
 obtain ⟨_, _, _, _, _, _, _, _, _, _⟩ := BS.q10
 go_wp2_with fail
 rcases (id RS) with ⟨-, ⟨-, ⟨-, ⟨-, ⟨-, ⟨⟨R0⟩, ⟨⟨R1⟩, ⟨⟨R2⟩, ⟨⟨R3⟩, ⟨⟨R4⟩, ⟨⟨R5⟩, ⟨⟨R6⟩, ⟨⟨R7⟩, ⟨⟨R8⟩, ⟨⟨R9⟩, -⟩⟩⟩⟩⟩⟩⟩⟩⟩⟩⟩⟩⟩⟩⟩
 refine (pullback_of.calls k _ _ x0 _ _ x1 _ _ x2 _ _ x3 _ _ x4 _ _ x5 _ _ x6 _ _ x7 _ _ x8 _ _ x9 P Q n m 0 _ R0.at_ R0.cap R1.at_ R1.cap R2.at_ R2.cap R3.at_ R3.cap R4.at_ R4.cap R5.at_ R5.cap R6.at_ R6.cap R7.at_ R7.cap R8.at_ R8.cap R9.at_ R9.cap hO_.out).mono ?_
 rintro e w2 ⟨z0, z1, z2, z3, rfl, q0, q1, q2, q3, hb⟩
 clear R0 R1 R2 R3 R4 R5 R6 R7 R8 R9
 replace hb := bS (w := w1) hb
 replace RS := mo hb RS
 clear hb
 obtain ⟨P0, p0, rfl, Q0⟩ := Row.of_R q0
 clear q0
 obtain ⟨P1, p1, rfl, Q1⟩ := Row.of_R q1
 clear q1
 obtain ⟨P2, p2, rfl, Q2⟩ := Row.of_R q2
 clear q2
 obtain ⟨P3, p3, rfl, Q3⟩ := Row.of_R q3
 clear q3
 replace RS := cR Q0 (cR Q1 (cR Q2 (cR Q3 (RS))))
 clear Q0 Q1 Q2 Q3
 go_upto_region 2 with fail
 obtain ⟨w3, hv, B6, hb⟩ := nw1 w2 81 #[.slice P0 P.length p0, .slice P1 Q.length p1, .slice P2 n.length p2, .slice P3 m.length p3]
 rw [← hv]
 clear hv
 replace RS := mo hb RS
 clear hb
 replace RS := cK B6 (RS)
 clear B6
 rcases (id RS) with ⟨⟨B6⟩, ⟨-, ⟨-, ⟨-, ⟨-, ⟨⟨BS⟩, ⟨⟨BX⟩, ⟨⟨BH⟩, ⟨⟨BK⟩, ⟨⟨D8⟩, -⟩⟩⟩⟩⟩⟩⟩⟩⟩⟩
 obtain ⟨_, _, _, _⟩ := B6.q4
 obtain ⟨_, _, _, _, _, _, _, _, _, _⟩ := BS.q10
 obtain ⟨_, _⟩ := BX.q2
 obtain ⟨_, _⟩ := BH.q2
 obtain ⟨_, _⟩ := BK.q2
 obtain ⟨_, _⟩ := D8.q2
 go_wp2_with fail
 rcases (id RS) with ⟨-, ⟨-, ⟨-, ⟨-, ⟨-, ⟨-, ⟨-, ⟨-, ⟨-, ⟨-, ⟨⟨R0⟩, ⟨⟨R1⟩, ⟨-, ⟨-, ⟨-, ⟨-, ⟨-, ⟨-, ⟨-, ⟨-, ⟨⟨R10⟩, ⟨⟨R11⟩, ⟨⟨R12⟩, ⟨⟨R13⟩, -⟩⟩⟩⟩⟩⟩⟩⟩⟩⟩⟩⟩⟩⟩⟩⟩⟩⟩⟩⟩⟩⟩⟩⟩
 refine (morphism_Valid.calls _ _ x10 _ _ x11 _ _ x0 _ _ x1 _ _ x12 _ _ x13 0 _ R10.at_ R10.cap R11.at_ R11.cap R0.at_ R0.cap R1.at_ R1.cap R12.at_ R12.cap R13.at_ R13.cap (by unfold morphism_Valid.f; rw [hv_.out])).mono ?_
 rintro e w4 ⟨rfl, hb⟩
 clear R10 R11 R0 R1 R12 R13
 replace hb := bS (w := w3) hb
 replace RS := mo hb RS
 clear hb
 rcases (id RS) with ⟨⟨B6⟩, ⟨-, ⟨-, ⟨-, ⟨-, ⟨⟨BS⟩, ⟨⟨BX⟩, ⟨⟨BH⟩, ⟨⟨BK⟩, ⟨⟨D8⟩, -⟩⟩⟩⟩⟩⟩⟩⟩⟩⟩
 obtain ⟨_, _, _, _⟩ := B6.q4
 obtain ⟨_, _, _, _, _, _, _, _, _, _⟩ := BS.q10
 obtain ⟨_, _⟩ := BX.q2
 obtain ⟨_, _⟩ := BH.q2
 obtain ⟨_, _⟩ := BK.q2
 obtain ⟨_, _⟩ := D8.q2
 go_wp2_with fail
 rcases (id RS) with ⟨-, ⟨-, ⟨-, ⟨-, ⟨-, ⟨-, ⟨-, ⟨-, ⟨-, ⟨-, ⟨-, ⟨-, ⟨⟨R2⟩, ⟨⟨R3⟩, ⟨-, ⟨-, ⟨-, ⟨-, ⟨-, ⟨-, ⟨⟨R10⟩, ⟨⟨R11⟩, ⟨-, ⟨-, ⟨⟨R14⟩, ⟨⟨R15⟩, -⟩⟩⟩⟩⟩⟩⟩⟩⟩⟩⟩⟩⟩⟩⟩⟩⟩⟩⟩⟩⟩⟩⟩⟩⟩⟩
 refine (morphism_Valid.calls _ _ x10 _ _ x11 _ _ x2 _ _ x3 _ _ x14 _ _ x15 er _ R10.at_ R10.cap R11.at_ R11.cap R2.at_ R2.cap R3.at_ R3.cap R14.at_ R14.cap R15.at_ R15.cap (by unfold morphism_Valid.f; rw [he_.out])).mono ?_
 rintro e w5 ⟨rfl, hb⟩
 clear R10 R11 R2 R3 R14 R15
 replace hb := bS (w := w4) hb
 replace RS := mo hb RS
 clear hb
 rcases (id RS) with ⟨⟨B6⟩, ⟨-, ⟨-, ⟨-, ⟨-, ⟨⟨BS⟩, ⟨⟨BX⟩, ⟨⟨BH⟩, ⟨⟨BK⟩, ⟨⟨D8⟩, -⟩⟩⟩⟩⟩⟩⟩⟩⟩⟩
 obtain ⟨_, _, _, _⟩ := B6.q4
 obtain ⟨_, _, _, _, _, _, _, _, _, _⟩ := BS.q10
 obtain ⟨_, _⟩ := BX.q2
 obtain ⟨_, _⟩ := BH.q2
 obtain ⟨_, _⟩ := BK.q2
 obtain ⟨_, _⟩ := D8.q2
 have hz : (er != 0) = true := bne_iff_ne.mpr her_.out
 have hz' : (er == 0) = false := beq_eq_false_iff_ne.mpr her_.out
 have hz'' : decide (er = 0) = false := decide_eq_false her_.out
 rcases (id RS) with ⟨-, ⟨-, ⟨-, ⟨-, ⟨-, ⟨-, ⟨-, ⟨-, ⟨-, ⟨⟨D8⟩, ⟨-, ⟨-, ⟨-, ⟨-, ⟨-, ⟨-, ⟨-, ⟨-, ⟨-, ⟨-, ⟨-, ⟨-, ⟨-, ⟨-, ⟨-, ⟨-, ⟨SB⟩⟩⟩⟩⟩⟩⟩⟩⟩⟩⟩⟩⟩⟩⟩⟩⟩⟩⟩⟩⟩⟩⟩⟩⟩⟩⟩
 replace D8 : Box2 _ _ 27 (.slice none 0 0) (.slice none 0 0) := ⟨D8.get⟩
 have D8f0 := blk_frozen D8.get 0
 have D8f1 := blk_frozen D8.get 1
 have le8 : w.heap.size ≤ w.heap.size + 1 + 1 + 1 + 1 := by omega
 generalize w.heap.size + 1 + 1 + 1 + 1 = g8 at *
 go_wp2_with fail
 try go_wp2_with fail
 replace D8 := D8.put2 (.slice none 0 0) (.slice none 0 0)
 replace SB : Since w _ := SB.put2 le8 (.slice none 0 0) (.slice none 0 0)
 generalize hw : (World.setCell (World.setCell _ _ _) _ _) = w8 at *
 clear hw
 refine bodyPost_ret (results_list (rs := [.cell 8 27, .tmp 9]) rfl (by simp) (.cell g8 27 #[.slice none 0 0, .slice none 0 0] (0, 0) _ rfl D8.get Try.underlying27 rfl (by kernel_rfl) (.tmp .nil))) rfl ?_
 exact ⟨_, _, rfl, ⟨_, _, rfl, Row.nil _ _⟩, ⟨_, _, rfl, Row.nil _ _⟩, SB.get⟩
set_option maxHeartbeats 4000000 in
set_option maxRecDepth 100000 in
theorem Med_d (k : Nat) (A0 : Option Addr) (c0 : Nat) (x0 : List Int) (A1 : Option Addr) (c1 : Nat) (x1 : List S94) (A2 : Option Addr) (c2 : Nat) (x2 : List Int) (A3 : Option Addr) (c3 : Nat) (x3 : List S94) (A4 : Option Addr) (c4 : Nat) (x4 : List Int) (A5 : Option Addr) (c5 : Nat) (x5 : List S94) (A6 : Option Addr) (c6 : Nat) (x6 : List Int) (A7 : Option Addr) (c7 : Nat) (x7 : List Int) (A8 : Option Addr) (c8 : Nat) (x8 : List Int) (A9 : Option Addr) (c9 : Nat) (x9 : List Int) (A10 : Option Addr) (c10 : Nat) (x10 : List Int) (A11 : Option Addr) (c11 : Nat) (x11 : List S94) (A12 : Option Addr) (c12 : Nat) (x12 : List Int) (A13 : Option Addr) (c13 : Nat) (x13 : List Int) (A14 : Option Addr) (c14 : Nat) (x14 : List Int) (A15 : Option Addr) (c15 : Nat) (x15 : List Int) (w : World)
  (R0 : Row (Kd.int .i64) w A0 c0 x0) (R1 : Row k94 w A1 c1 x1) (R2 : Row (Kd.int .i64) w A2 c2 x2) (R3 : Row k94 w A3 c3 x3) (R4 : Row (Kd.int .i64) w A4 c4 x4) (R5 : Row k94 w A5 c5 x5) (R6 : Row (Kd.int .i64) w A6 c6 x6) (R7 : Row (Kd.int .i64) w A7 c7 x7) (R8 : Row (Kd.int .i64) w A8 c8 x8) (R9 : Row (Kd.int .i64) w A9 c9 x9) (R10 : Row (Kd.int .i64) w A10 c10 x10) (R11 : Row k94 w A11 c11 x11) (R12 : Row (Kd.int .i64) w A12 c12 x12) (R13 : Row (Kd.int .i64) w A13 c13 x13) (R14 : Row (Kd.int .i64) w A14 c14 x14) (R15 : Row (Kd.int .i64) w A15 c15 x15)
  (P Q : List S79) (n : List Int) (m : List S94) (hO : pullback_of.f k x0 x1 x2 x3 x4 x5 x6 x7 x8 x9 = some (P, Q, n, m, 0))
  (hv : mvalid x10 x11 x0 x1 x12 x13 = 0) (hu : mvalid x10 x11 x2 x3 x14 x15 = 0) (a b : List Int) (ok is : Bool) (hA : pullback_meet.f k P x12 x14 = some (a, ok)) (hB : pullback_meet.f k Q x13 x15 = some (b, is)) (hn : (ok && is) = false) :
  Calls Try.prog 13 #[.agg #[.slice A0 x0.length c0, .slice A1 x1.length c1, .slice A2 x2.length c2, .slice A3 x3.length c3, .slice A4 x4.length c4, .slice A5 x5.length c5, .slice A6 x6.length c6, .slice A7 x7.length c7, .slice A8 x8.length c8, .slice A9 x9.length c9], .agg #[.slice A10 x10.length c10, .slice A11 x11.length c11], .agg #[.slice A12 x12.length c12, .slice A13 x13.length c13], .agg #[.slice A14 x14.length c14, .slice A15 x15.length c15]] w fun e w' => ∃ v0 v1 : Value, e = .returned (.tuple #[.agg #[v0, v1], .int .i64 11]) ∧ Vr (Kd.int .i64) w' v0 [] ∧ Vr (Kd.int .i64) w' v1 [] ∧ Below w.heap.size w w' := by
 have hO_ := Aside0.mk hO
 have hv_ := Aside0.mk hv
 have hu_ := Aside0.mk hu
 have hA_ := Aside0.mk hA
 have hB_ := Aside0.mk hB
 have hn_ := Aside0.mk hn
 clear hO hv hu hA hB hn
 have hu25 := Try.underlying25
 have hu27 := Try.underlying27
 have hu29 := Try.underlying29
 have hu81 := Try.underlying81
 have SB := Since.refl w
 have RS := cR R0 (cR R1 (cR R2 (cR R3 (cR R4 (cR R5 (cR R6 (cR R7 (cR R8 (cR R9 (cR R10 (cR R11 (cR R12 (cR R13 (cR R14 (cR R15 (cE SB))))))))))))))))
 clear SB R0 R1 R2 R3 R4 R5 R6 R7 R8 R9 R10 R11 R12 R13 R14 R15
 go_enter Try.func13, Try.ntmps13
 go_upto_region 1 with fail
 obtain ⟨w1, hv, BS, BX, BH, BK, D8, hb⟩ := nw5 w 29 #[.slice A0 x0.length c0, .slice A1 x1.length c1, .slice A2 x2.length c2, .slice A3 x3.length c3, .slice A4 x4.length c4, .slice A5 x5.length c5, .slice A6 x6.length c6, .slice A7 x7.length c7, .slice A8 x8.length c8, .slice A9 x9.length c9] 25 #[.slice A10 x10.length c10, .slice A11 x11.length c11] 27 #[.slice A12 x12.length c12, .slice A13 x13.length c13] 27 #[.slice A14 x14.length c14, .slice A15 x15.length c15] 27 #[.slice none 0 0, .slice none 0 0]
 rw [← hv]
 clear hv
 replace RS := mo hb RS
 clear hb
 replace RS := cK BS (cK BX (cK BH (cK BK (cK D8 (RS)))))
 clear BS BX BH BK D8
 rcases (id RS) with ⟨⟨BS⟩, -⟩
 obtain ⟨_, _, _, _, _, _, _, _, _, _⟩ := BS.q10
 go_wp2_with fail
 rcases (id RS) with ⟨-, ⟨-, ⟨-, ⟨-, ⟨-, ⟨⟨R0⟩, ⟨⟨R1⟩, ⟨⟨R2⟩, ⟨⟨R3⟩, ⟨⟨R4⟩, ⟨⟨R5⟩, ⟨⟨R6⟩, ⟨⟨R7⟩, ⟨⟨R8⟩, ⟨⟨R9⟩, -⟩⟩⟩⟩⟩⟩⟩⟩⟩⟩⟩⟩⟩⟩⟩
 refine (pullback_of.calls k _ _ x0 _ _ x1 _ _ x2 _ _ x3 _ _ x4 _ _ x5 _ _ x6 _ _ x7 _ _ x8 _ _ x9 P Q n m 0 _ R0.at_ R0.cap R1.at_ R1.cap R2.at_ R2.cap R3.at_ R3.cap R4.at_ R4.cap R5.at_ R5.cap R6.at_ R6.cap R7.at_ R7.cap R8.at_ R8.cap R9.at_ R9.cap hO_.out).mono ?_
 rintro e w2 ⟨z0, z1, z2, z3, rfl, q0, q1, q2, q3, hb⟩
 clear R0 R1 R2 R3 R4 R5 R6 R7 R8 R9
 replace hb := bS (w := w1) hb
 replace RS := mo hb RS
 clear hb
 obtain ⟨P0, p0, rfl, Q0⟩ := Row.of_R q0
 clear q0
 obtain ⟨P1, p1, rfl, Q1⟩ := Row.of_R q1
 clear q1
 obtain ⟨P2, p2, rfl, Q2⟩ := Row.of_R q2
 clear q2
 obtain ⟨P3, p3, rfl, Q3⟩ := Row.of_R q3
 clear q3
 replace RS := cR Q0 (cR Q1 (cR Q2 (cR Q3 (RS))))
 clear Q0 Q1 Q2 Q3
 go_upto_region 2 with fail
 obtain ⟨w3, hv, B6, hb⟩ := nw1 w2 81 #[.slice P0 P.length p0, .slice P1 Q.length p1, .slice P2 n.length p2, .slice P3 m.length p3]
 rw [← hv]
 clear hv
 replace RS := mo hb RS
 clear hb
 replace RS := cK B6 (RS)
 clear B6
 rcases (id RS) with ⟨⟨B6⟩, ⟨-, ⟨-, ⟨-, ⟨-, ⟨⟨BS⟩, ⟨⟨BX⟩, ⟨⟨BH⟩, ⟨⟨BK⟩, ⟨⟨D8⟩, -⟩⟩⟩⟩⟩⟩⟩⟩⟩⟩
 obtain ⟨_, _, _, _⟩ := B6.q4
 obtain ⟨_, _, _, _, _, _, _, _, _, _⟩ := BS.q10
 obtain ⟨_, _⟩ := BX.q2
 obtain ⟨_, _⟩ := BH.q2
 obtain ⟨_, _⟩ := BK.q2
 obtain ⟨_, _⟩ := D8.q2
 go_wp2_with fail
 rcases (id RS) with ⟨-, ⟨-, ⟨-, ⟨-, ⟨-, ⟨-, ⟨-, ⟨-, ⟨-, ⟨-, ⟨⟨R0⟩, ⟨⟨R1⟩, ⟨-, ⟨-, ⟨-, ⟨-, ⟨-, ⟨-, ⟨-, ⟨-, ⟨⟨R10⟩, ⟨⟨R11⟩, ⟨⟨R12⟩, ⟨⟨R13⟩, -⟩⟩⟩⟩⟩⟩⟩⟩⟩⟩⟩⟩⟩⟩⟩⟩⟩⟩⟩⟩⟩⟩⟩⟩
 refine (morphism_Valid.calls _ _ x10 _ _ x11 _ _ x0 _ _ x1 _ _ x12 _ _ x13 0 _ R10.at_ R10.cap R11.at_ R11.cap R0.at_ R0.cap R1.at_ R1.cap R12.at_ R12.cap R13.at_ R13.cap (by unfold morphism_Valid.f; rw [hv_.out])).mono ?_
 rintro e w4 ⟨rfl, hb⟩
 clear R10 R11 R0 R1 R12 R13
 replace hb := bS (w := w3) hb
 replace RS := mo hb RS
 clear hb
 rcases (id RS) with ⟨⟨B6⟩, ⟨-, ⟨-, ⟨-, ⟨-, ⟨⟨BS⟩, ⟨⟨BX⟩, ⟨⟨BH⟩, ⟨⟨BK⟩, ⟨⟨D8⟩, -⟩⟩⟩⟩⟩⟩⟩⟩⟩⟩
 obtain ⟨_, _, _, _⟩ := B6.q4
 obtain ⟨_, _, _, _, _, _, _, _, _, _⟩ := BS.q10
 obtain ⟨_, _⟩ := BX.q2
 obtain ⟨_, _⟩ := BH.q2
 obtain ⟨_, _⟩ := BK.q2
 obtain ⟨_, _⟩ := D8.q2
 go_wp2_with fail
 rcases (id RS) with ⟨-, ⟨-, ⟨-, ⟨-, ⟨-, ⟨-, ⟨-, ⟨-, ⟨-, ⟨-, ⟨-, ⟨-, ⟨⟨R2⟩, ⟨⟨R3⟩, ⟨-, ⟨-, ⟨-, ⟨-, ⟨-, ⟨-, ⟨⟨R10⟩, ⟨⟨R11⟩, ⟨-, ⟨-, ⟨⟨R14⟩, ⟨⟨R15⟩, -⟩⟩⟩⟩⟩⟩⟩⟩⟩⟩⟩⟩⟩⟩⟩⟩⟩⟩⟩⟩⟩⟩⟩⟩⟩⟩
 refine (morphism_Valid.calls _ _ x10 _ _ x11 _ _ x2 _ _ x3 _ _ x14 _ _ x15 0 _ R10.at_ R10.cap R11.at_ R11.cap R2.at_ R2.cap R3.at_ R3.cap R14.at_ R14.cap R15.at_ R15.cap (by unfold morphism_Valid.f; rw [hu_.out])).mono ?_
 rintro e w5 ⟨rfl, hb⟩
 clear R10 R11 R2 R3 R14 R15
 replace hb := bS (w := w4) hb
 replace RS := mo hb RS
 clear hb
 rcases (id RS) with ⟨⟨B6⟩, ⟨-, ⟨-, ⟨-, ⟨-, ⟨⟨BS⟩, ⟨⟨BX⟩, ⟨⟨BH⟩, ⟨⟨BK⟩, ⟨⟨D8⟩, -⟩⟩⟩⟩⟩⟩⟩⟩⟩⟩
 obtain ⟨_, _, _, _⟩ := B6.q4
 obtain ⟨_, _, _, _, _, _, _, _, _, _⟩ := BS.q10
 obtain ⟨_, _⟩ := BX.q2
 obtain ⟨_, _⟩ := BH.q2
 obtain ⟨_, _⟩ := BK.q2
 obtain ⟨_, _⟩ := D8.q2
 go_wp2_with fail
 rcases (id RS) with ⟨-, ⟨⟨Q0⟩, ⟨-, ⟨-, ⟨-, ⟨-, ⟨-, ⟨-, ⟨-, ⟨-, ⟨-, ⟨-, ⟨-, ⟨-, ⟨-, ⟨-, ⟨-, ⟨-, ⟨-, ⟨-, ⟨-, ⟨-, ⟨⟨R12⟩, ⟨-, ⟨⟨R14⟩, -⟩⟩⟩⟩⟩⟩⟩⟩⟩⟩⟩⟩⟩⟩⟩⟩⟩⟩⟩⟩⟩⟩⟩⟩⟩
 refine (pullback_meet.calls k _ _ P _ _ x12 _ _ x14 a ok _ Q0.at_ Q0.cap R12.at_ R12.cap R14.at_ R14.cap hA_.out).mono ?_
 rintro e w6 ⟨z, rfl, q0, hb⟩
 clear Q0 R12 R14
 replace hb := bS (w := w5) hb
 replace RS := mo hb RS
 clear hb
 obtain ⟨S0A, S0c, rfl, S0⟩ := Row.of_R q0
 clear q0
 replace RS := cR S0 (RS)
 clear S0
 rcases (id RS) with ⟨-, ⟨⟨B6⟩, ⟨-, ⟨-, ⟨-, ⟨-, ⟨⟨BS⟩, ⟨⟨BX⟩, ⟨⟨BH⟩, ⟨⟨BK⟩, ⟨⟨D8⟩, -⟩⟩⟩⟩⟩⟩⟩⟩⟩⟩⟩
 obtain ⟨_, _, _, _⟩ := B6.q4
 obtain ⟨_, _, _, _, _, _, _, _, _, _⟩ := BS.q10
 obtain ⟨_, _⟩ := BX.q2
 obtain ⟨_, _⟩ := BH.q2
 obtain ⟨_, _⟩ := BK.q2
 obtain ⟨_, _⟩ := D8.q2
 go_wp2_with fail
 rcases (id RS) with ⟨-, ⟨-, ⟨-, ⟨⟨Q1⟩, ⟨-, ⟨-, ⟨-, ⟨-, ⟨-, ⟨-, ⟨-, ⟨-, ⟨-, ⟨-, ⟨-, ⟨-, ⟨-, ⟨-, ⟨-, ⟨-, ⟨-, ⟨-, ⟨-, ⟨-, ⟨⟨R13⟩, ⟨-, ⟨⟨R15⟩, -⟩⟩⟩⟩⟩⟩⟩⟩⟩⟩⟩⟩⟩⟩⟩⟩⟩⟩⟩⟩⟩⟩⟩⟩⟩⟩⟩
 refine (pullback_meet.calls k _ _ Q _ _ x13 _ _ x15 b is _ Q1.at_ Q1.cap R13.at_ R13.cap R15.at_ R15.cap hB_.out).mono ?_
 rintro e w7 ⟨z, rfl, q0, hb⟩
 clear Q1 R13 R15
 replace hb := bS (w := w6) hb
 replace RS := mo hb RS
 clear hb
 obtain ⟨T0A, T0c, rfl, T0⟩ := Row.of_R q0
 clear q0
 replace RS := cR T0 (RS)
 clear T0
 rcases (id RS) with ⟨-, ⟨-, ⟨⟨B6⟩, ⟨-, ⟨-, ⟨-, ⟨-, ⟨⟨BS⟩, ⟨⟨BX⟩, ⟨⟨BH⟩, ⟨⟨BK⟩, ⟨⟨D8⟩, -⟩⟩⟩⟩⟩⟩⟩⟩⟩⟩⟩⟩
 obtain ⟨_, _, _, _⟩ := B6.q4
 obtain ⟨_, _, _, _, _, _, _, _, _, _⟩ := BS.q10
 obtain ⟨_, _⟩ := BX.q2
 obtain ⟨_, _⟩ := BH.q2
 obtain ⟨_, _⟩ := BK.q2
 obtain ⟨_, _⟩ := D8.q2
 have hn := hn_.out
 cases ok with
 | false =>
  rcases (id RS) with ⟨-, ⟨-, ⟨-, ⟨-, ⟨-, ⟨-, ⟨-, ⟨-, ⟨-, ⟨-, ⟨-, ⟨⟨D8⟩, ⟨-, ⟨-, ⟨-, ⟨-, ⟨-, ⟨-, ⟨-, ⟨-, ⟨-, ⟨-, ⟨-, ⟨-, ⟨-, ⟨-, ⟨-, ⟨-, ⟨SB⟩⟩⟩⟩⟩⟩⟩⟩⟩⟩⟩⟩⟩⟩⟩⟩⟩⟩⟩⟩⟩⟩⟩⟩⟩⟩⟩⟩⟩
  replace D8 : Box2 _ _ 27 (.slice none 0 0) (.slice none 0 0) := ⟨D8.get⟩
  have D8f0 := blk_frozen D8.get 0
  have D8f1 := blk_frozen D8.get 1
  have le8 : w.heap.size ≤ w.heap.size + 1 + 1 + 1 + 1 := by omega
  generalize w.heap.size + 1 + 1 + 1 + 1 = g8 at *
  go_wp2_with fail
  try go_wp2_with fail
  replace D8 := D8.put2 (.slice none 0 0) (.slice none 0 0)
  replace SB : Since w _ := SB.put2 le8 (.slice none 0 0) (.slice none 0 0)
  generalize hw : (World.setCell (World.setCell _ _ _) _ _) = w8 at *
  clear hw
  refine bodyPost_ret (results_list (rs := [.cell 8 27, .tmp 9]) rfl (by simp) (.cell g8 27 #[.slice none 0 0, .slice none 0 0] (0, 0) _ rfl D8.get Try.underlying27 rfl (by kernel_rfl) (.tmp .nil))) rfl ?_
  exact ⟨_, _, rfl, ⟨_, _, rfl, Row.nil _ _⟩, ⟨_, _, rfl, Row.nil _ _⟩, SB.get⟩
 | true =>
 cases is with
 | true => exact absurd hn (by decide)
 | false =>
  rcases (id RS) with ⟨-, ⟨-, ⟨-, ⟨-, ⟨-, ⟨-, ⟨-, ⟨-, ⟨-, ⟨-, ⟨-, ⟨⟨D8⟩, ⟨-, ⟨-, ⟨-, ⟨-, ⟨-, ⟨-, ⟨-, ⟨-, ⟨-, ⟨-, ⟨-, ⟨-, ⟨-, ⟨-, ⟨-, ⟨-, ⟨SB⟩⟩⟩⟩⟩⟩⟩⟩⟩⟩⟩⟩⟩⟩⟩⟩⟩⟩⟩⟩⟩⟩⟩⟩⟩⟩⟩⟩⟩
  replace D8 : Box2 _ _ 27 (.slice none 0 0) (.slice none 0 0) := ⟨D8.get⟩
  have D8f0 := blk_frozen D8.get 0
  have D8f1 := blk_frozen D8.get 1
  have le8 : w.heap.size ≤ w.heap.size + 1 + 1 + 1 + 1 := by omega
  generalize w.heap.size + 1 + 1 + 1 + 1 = g8 at *
  go_wp2_with fail
  try go_wp2_with fail
  replace D8 := D8.put2 (.slice none 0 0) (.slice none 0 0)
  replace SB : Since w _ := SB.put2 le8 (.slice none 0 0) (.slice none 0 0)
  generalize hw : (World.setCell (World.setCell _ _ _) _ _) = w8 at *
  clear hw
  refine bodyPost_ret (results_list (rs := [.cell 8 27, .tmp 9]) rfl (by simp) (.cell g8 27 #[.slice none 0 0, .slice none 0 0] (0, 0) _ rfl D8.get Try.underlying27 rfl (by kernel_rfl) (.tmp .nil))) rfl ?_
  exact ⟨_, _, rfl, ⟨_, _, rfl, Row.nil _ _⟩, ⟨_, _, rfl, Row.nil _ _⟩, SB.get⟩
set_option maxHeartbeats 4000000 in
set_option maxRecDepth 100000 in
theorem Med_e (k : Nat) (A0 : Option Addr) (c0 : Nat) (x0 : List Int) (A1 : Option Addr) (c1 : Nat) (x1 : List S94) (A2 : Option Addr) (c2 : Nat) (x2 : List Int) (A3 : Option Addr) (c3 : Nat) (x3 : List S94) (A4 : Option Addr) (c4 : Nat) (x4 : List Int) (A5 : Option Addr) (c5 : Nat) (x5 : List S94) (A6 : Option Addr) (c6 : Nat) (x6 : List Int) (A7 : Option Addr) (c7 : Nat) (x7 : List Int) (A8 : Option Addr) (c8 : Nat) (x8 : List Int) (A9 : Option Addr) (c9 : Nat) (x9 : List Int) (A10 : Option Addr) (c10 : Nat) (x10 : List Int) (A11 : Option Addr) (c11 : Nat) (x11 : List S94) (A12 : Option Addr) (c12 : Nat) (x12 : List Int) (A13 : Option Addr) (c13 : Nat) (x13 : List Int) (A14 : Option Addr) (c14 : Nat) (x14 : List Int) (A15 : Option Addr) (c15 : Nat) (x15 : List Int) (w : World)
  (R0 : Row (Kd.int .i64) w A0 c0 x0) (R1 : Row k94 w A1 c1 x1) (R2 : Row (Kd.int .i64) w A2 c2 x2) (R3 : Row k94 w A3 c3 x3) (R4 : Row (Kd.int .i64) w A4 c4 x4) (R5 : Row k94 w A5 c5 x5) (R6 : Row (Kd.int .i64) w A6 c6 x6) (R7 : Row (Kd.int .i64) w A7 c7 x7) (R8 : Row (Kd.int .i64) w A8 c8 x8) (R9 : Row (Kd.int .i64) w A9 c9 x9) (R10 : Row (Kd.int .i64) w A10 c10 x10) (R11 : Row k94 w A11 c11 x11) (R12 : Row (Kd.int .i64) w A12 c12 x12) (R13 : Row (Kd.int .i64) w A13 c13 x13) (R14 : Row (Kd.int .i64) w A14 c14 x14) (R15 : Row (Kd.int .i64) w A15 c15 x15)
  (P Q : List S79) (n : List Int) (m : List S94) (hO : pullback_of.f k x0 x1 x2 x3 x4 x5 x6 x7 x8 x9 = some (P, Q, n, m, 0))
  (hv : mvalid x10 x11 x0 x1 x12 x13 = 0) (hu : mvalid x10 x11 x2 x3 x14 x15 = 0) (a b : List Int) (hA : pullback_meet.f k P x12 x14 = some (a, true)) (hB : pullback_meet.f k Q x13 x15 = some (b, true)) :
  Calls Try.prog 13 #[.agg #[.slice A0 x0.length c0, .slice A1 x1.length c1, .slice A2 x2.length c2, .slice A3 x3.length c3, .slice A4 x4.length c4, .slice A5 x5.length c5, .slice A6 x6.length c6, .slice A7 x7.length c7, .slice A8 x8.length c8, .slice A9 x9.length c9], .agg #[.slice A10 x10.length c10, .slice A11 x11.length c11], .agg #[.slice A12 x12.length c12, .slice A13 x13.length c13], .agg #[.slice A14 x14.length c14, .slice A15 x15.length c15]] w fun e w' => ∃ v0 v1 : Value, e = .returned (.tuple #[.agg #[v0, v1], .int .i64 0]) ∧ Vr (Kd.int .i64) w' v0 a ∧ Vr (Kd.int .i64) w' v1 b ∧ Below w.heap.size w w' := by
 have hO_ := Aside0.mk hO
 have hv_ := Aside0.mk hv
 have hu_ := Aside0.mk hu
 have hA_ := Aside0.mk hA
 have hB_ := Aside0.mk hB
 clear hO hv hu hA hB
 have hu25 := Try.underlying25
 have hu27 := Try.underlying27
 have hu29 := Try.underlying29
 have hu81 := Try.underlying81
 have SB := Since.refl w
 have RS := cR R0 (cR R1 (cR R2 (cR R3 (cR R4 (cR R5 (cR R6 (cR R7 (cR R8 (cR R9 (cR R10 (cR R11 (cR R12 (cR R13 (cR R14 (cR R15 (cE SB))))))))))))))))
 clear SB R0 R1 R2 R3 R4 R5 R6 R7 R8 R9 R10 R11 R12 R13 R14 R15
 go_enter Try.func13, Try.ntmps13
 go_upto_region 1 with fail
 obtain ⟨w1, hv, BS, BX, BH, BK, D8, hb⟩ := nw5 w 29 #[.slice A0 x0.length c0, .slice A1 x1.length c1, .slice A2 x2.length c2, .slice A3 x3.length c3, .slice A4 x4.length c4, .slice A5 x5.length c5, .slice A6 x6.length c6, .slice A7 x7.length c7, .slice A8 x8.length c8, .slice A9 x9.length c9] 25 #[.slice A10 x10.length c10, .slice A11 x11.length c11] 27 #[.slice A12 x12.length c12, .slice A13 x13.length c13] 27 #[.slice A14 x14.length c14, .slice A15 x15.length c15] 27 #[.slice none 0 0, .slice none 0 0]
 rw [← hv]
 clear hv
 replace RS := mo hb RS
 clear hb
 replace RS := cK BS (cK BX (cK BH (cK BK (cK D8 (RS)))))
 clear BS BX BH BK D8
 rcases (id RS) with ⟨⟨BS⟩, -⟩
 obtain ⟨_, _, _, _, _, _, _, _, _, _⟩ := BS.q10
 go_wp2_with fail
 rcases (id RS) with ⟨-, ⟨-, ⟨-, ⟨-, ⟨-, ⟨⟨R0⟩, ⟨⟨R1⟩, ⟨⟨R2⟩, ⟨⟨R3⟩, ⟨⟨R4⟩, ⟨⟨R5⟩, ⟨⟨R6⟩, ⟨⟨R7⟩, ⟨⟨R8⟩, ⟨⟨R9⟩, -⟩⟩⟩⟩⟩⟩⟩⟩⟩⟩⟩⟩⟩⟩⟩
 refine (pullback_of.calls k _ _ x0 _ _ x1 _ _ x2 _ _ x3 _ _ x4 _ _ x5 _ _ x6 _ _ x7 _ _ x8 _ _ x9 P Q n m 0 _ R0.at_ R0.cap R1.at_ R1.cap R2.at_ R2.cap R3.at_ R3.cap R4.at_ R4.cap R5.at_ R5.cap R6.at_ R6.cap R7.at_ R7.cap R8.at_ R8.cap R9.at_ R9.cap hO_.out).mono ?_
 rintro e w2 ⟨z0, z1, z2, z3, rfl, q0, q1, q2, q3, hb⟩
 clear R0 R1 R2 R3 R4 R5 R6 R7 R8 R9
 replace hb := bS (w := w1) hb
 replace RS := mo hb RS
 clear hb
 obtain ⟨P0, p0, rfl, Q0⟩ := Row.of_R q0
 clear q0
 obtain ⟨P1, p1, rfl, Q1⟩ := Row.of_R q1
 clear q1
 obtain ⟨P2, p2, rfl, Q2⟩ := Row.of_R q2
 clear q2
 obtain ⟨P3, p3, rfl, Q3⟩ := Row.of_R q3
 clear q3
 replace RS := cR Q0 (cR Q1 (cR Q2 (cR Q3 (RS))))
 clear Q0 Q1 Q2 Q3
 go_upto_region 2 with fail
 obtain ⟨w3, hv, B6, hb⟩ := nw1 w2 81 #[.slice P0 P.length p0, .slice P1 Q.length p1, .slice P2 n.length p2, .slice P3 m.length p3]
 rw [← hv]
 clear hv
 replace RS := mo hb RS
 clear hb
 replace RS := cK B6 (RS)
 clear B6
 rcases (id RS) with ⟨⟨B6⟩, ⟨-, ⟨-, ⟨-, ⟨-, ⟨⟨BS⟩, ⟨⟨BX⟩, ⟨⟨BH⟩, ⟨⟨BK⟩, ⟨⟨D8⟩, -⟩⟩⟩⟩⟩⟩⟩⟩⟩⟩
 obtain ⟨_, _, _, _⟩ := B6.q4
 obtain ⟨_, _, _, _, _, _, _, _, _, _⟩ := BS.q10
 obtain ⟨_, _⟩ := BX.q2
 obtain ⟨_, _⟩ := BH.q2
 obtain ⟨_, _⟩ := BK.q2
 obtain ⟨_, _⟩ := D8.q2
 go_wp2_with fail
 rcases (id RS) with ⟨-, ⟨-, ⟨-, ⟨-, ⟨-, ⟨-, ⟨-, ⟨-, ⟨-, ⟨-, ⟨⟨R0⟩, ⟨⟨R1⟩, ⟨-, ⟨-, ⟨-, ⟨-, ⟨-, ⟨-, ⟨-, ⟨-, ⟨⟨R10⟩, ⟨⟨R11⟩, ⟨⟨R12⟩, ⟨⟨R13⟩, -⟩⟩⟩⟩⟩⟩⟩⟩⟩⟩⟩⟩⟩⟩⟩⟩⟩⟩⟩⟩⟩⟩⟩⟩
 refine (morphism_Valid.calls _ _ x10 _ _ x11 _ _ x0 _ _ x1 _ _ x12 _ _ x13 0 _ R10.at_ R10.cap R11.at_ R11.cap R0.at_ R0.cap R1.at_ R1.cap R12.at_ R12.cap R13.at_ R13.cap (by unfold morphism_Valid.f; rw [hv_.out])).mono ?_
 rintro e w4 ⟨rfl, hb⟩
 clear R10 R11 R0 R1 R12 R13
 replace hb := bS (w := w3) hb
 replace RS := mo hb RS
 clear hb
 rcases (id RS) with ⟨⟨B6⟩, ⟨-, ⟨-, ⟨-, ⟨-, ⟨⟨BS⟩, ⟨⟨BX⟩, ⟨⟨BH⟩, ⟨⟨BK⟩, ⟨⟨D8⟩, -⟩⟩⟩⟩⟩⟩⟩⟩⟩⟩
 obtain ⟨_, _, _, _⟩ := B6.q4
 obtain ⟨_, _, _, _, _, _, _, _, _, _⟩ := BS.q10
 obtain ⟨_, _⟩ := BX.q2
 obtain ⟨_, _⟩ := BH.q2
 obtain ⟨_, _⟩ := BK.q2
 obtain ⟨_, _⟩ := D8.q2
 go_wp2_with fail
 rcases (id RS) with ⟨-, ⟨-, ⟨-, ⟨-, ⟨-, ⟨-, ⟨-, ⟨-, ⟨-, ⟨-, ⟨-, ⟨-, ⟨⟨R2⟩, ⟨⟨R3⟩, ⟨-, ⟨-, ⟨-, ⟨-, ⟨-, ⟨-, ⟨⟨R10⟩, ⟨⟨R11⟩, ⟨-, ⟨-, ⟨⟨R14⟩, ⟨⟨R15⟩, -⟩⟩⟩⟩⟩⟩⟩⟩⟩⟩⟩⟩⟩⟩⟩⟩⟩⟩⟩⟩⟩⟩⟩⟩⟩⟩
 refine (morphism_Valid.calls _ _ x10 _ _ x11 _ _ x2 _ _ x3 _ _ x14 _ _ x15 0 _ R10.at_ R10.cap R11.at_ R11.cap R2.at_ R2.cap R3.at_ R3.cap R14.at_ R14.cap R15.at_ R15.cap (by unfold morphism_Valid.f; rw [hu_.out])).mono ?_
 rintro e w5 ⟨rfl, hb⟩
 clear R10 R11 R2 R3 R14 R15
 replace hb := bS (w := w4) hb
 replace RS := mo hb RS
 clear hb
 rcases (id RS) with ⟨⟨B6⟩, ⟨-, ⟨-, ⟨-, ⟨-, ⟨⟨BS⟩, ⟨⟨BX⟩, ⟨⟨BH⟩, ⟨⟨BK⟩, ⟨⟨D8⟩, -⟩⟩⟩⟩⟩⟩⟩⟩⟩⟩
 obtain ⟨_, _, _, _⟩ := B6.q4
 obtain ⟨_, _, _, _, _, _, _, _, _, _⟩ := BS.q10
 obtain ⟨_, _⟩ := BX.q2
 obtain ⟨_, _⟩ := BH.q2
 obtain ⟨_, _⟩ := BK.q2
 obtain ⟨_, _⟩ := D8.q2
 go_wp2_with fail
 rcases (id RS) with ⟨-, ⟨⟨Q0⟩, ⟨-, ⟨-, ⟨-, ⟨-, ⟨-, ⟨-, ⟨-, ⟨-, ⟨-, ⟨-, ⟨-, ⟨-, ⟨-, ⟨-, ⟨-, ⟨-, ⟨-, ⟨-, ⟨-, ⟨-, ⟨⟨R12⟩, ⟨-, ⟨⟨R14⟩, -⟩⟩⟩⟩⟩⟩⟩⟩⟩⟩⟩⟩⟩⟩⟩⟩⟩⟩⟩⟩⟩⟩⟩⟩⟩
 refine (pullback_meet.calls k _ _ P _ _ x12 _ _ x14 a true _ Q0.at_ Q0.cap R12.at_ R12.cap R14.at_ R14.cap hA_.out).mono ?_
 rintro e w6 ⟨z, rfl, q0, hb⟩
 clear Q0 R12 R14
 replace hb := bS (w := w5) hb
 replace RS := mo hb RS
 clear hb
 obtain ⟨S0A, S0c, rfl, S0⟩ := Row.of_R q0
 clear q0
 replace RS := cR S0 (RS)
 clear S0
 rcases (id RS) with ⟨-, ⟨⟨B6⟩, ⟨-, ⟨-, ⟨-, ⟨-, ⟨⟨BS⟩, ⟨⟨BX⟩, ⟨⟨BH⟩, ⟨⟨BK⟩, ⟨⟨D8⟩, -⟩⟩⟩⟩⟩⟩⟩⟩⟩⟩⟩
 obtain ⟨_, _, _, _⟩ := B6.q4
 obtain ⟨_, _, _, _, _, _, _, _, _, _⟩ := BS.q10
 obtain ⟨_, _⟩ := BX.q2
 obtain ⟨_, _⟩ := BH.q2
 obtain ⟨_, _⟩ := BK.q2
 obtain ⟨_, _⟩ := D8.q2
 go_wp2_with fail
 rcases (id RS) with ⟨-, ⟨-, ⟨-, ⟨⟨Q1⟩, ⟨-, ⟨-, ⟨-, ⟨-, ⟨-, ⟨-, ⟨-, ⟨-, ⟨-, ⟨-, ⟨-, ⟨-, ⟨-, ⟨-, ⟨-, ⟨-, ⟨-, ⟨-, ⟨-, ⟨-, ⟨⟨R13⟩, ⟨-, ⟨⟨R15⟩, -⟩⟩⟩⟩⟩⟩⟩⟩⟩⟩⟩⟩⟩⟩⟩⟩⟩⟩⟩⟩⟩⟩⟩⟩⟩⟩⟩
 refine (pullback_meet.calls k _ _ Q _ _ x13 _ _ x15 b true _ Q1.at_ Q1.cap R13.at_ R13.cap R15.at_ R15.cap hB_.out).mono ?_
 rintro e w7 ⟨z, rfl, q0, hb⟩
 clear Q1 R13 R15
 replace hb := bS (w := w6) hb
 replace RS := mo hb RS
 clear hb
 obtain ⟨T0A, T0c, rfl, T0⟩ := Row.of_R q0
 clear q0
 replace RS := cR T0 (RS)
 clear T0
 rcases (id RS) with ⟨-, ⟨-, ⟨⟨B6⟩, ⟨-, ⟨-, ⟨-, ⟨-, ⟨⟨BS⟩, ⟨⟨BX⟩, ⟨⟨BH⟩, ⟨⟨BK⟩, ⟨⟨D8⟩, -⟩⟩⟩⟩⟩⟩⟩⟩⟩⟩⟩⟩
 obtain ⟨_, _, _, _⟩ := B6.q4
 obtain ⟨_, _, _, _, _, _, _, _, _, _⟩ := BS.q10
 obtain ⟨_, _⟩ := BX.q2
 obtain ⟨_, _⟩ := BH.q2
 obtain ⟨_, _⟩ := BK.q2
 obtain ⟨_, _⟩ := D8.q2
 rcases (id RS) with ⟨⟨T0⟩, ⟨⟨S0⟩, ⟨-, ⟨-, ⟨-, ⟨-, ⟨-, ⟨-, ⟨-, ⟨-, ⟨-, ⟨⟨D8⟩, ⟨-, ⟨-, ⟨-, ⟨-, ⟨-, ⟨-, ⟨-, ⟨-, ⟨-, ⟨-, ⟨-, ⟨-, ⟨-, ⟨-, ⟨-, ⟨-, ⟨SB⟩⟩⟩⟩⟩⟩⟩⟩⟩⟩⟩⟩⟩⟩⟩⟩⟩⟩⟩⟩⟩⟩⟩⟩⟩⟩⟩⟩⟩
 replace D8 : Box2 _ _ 27 (.slice none 0 0) (.slice none 0 0) := ⟨D8.get⟩
 have D8f0 := blk_frozen D8.get 0
 have D8f1 := blk_frozen D8.get 1
 have le8 : w.heap.size ≤ w.heap.size + 1 + 1 + 1 + 1 := by omega
 generalize w.heap.size + 1 + 1 + 1 + 1 = g8 at *
 go_wp2_with fail
 try go_wp2_with fail
 replace S0 := (S0.far flat_int D8 (sl_ne _ _ _) (sl_ne _ _ _) 0 (.slice S0A a.length S0c)).far flat_int (D8.put0 (.slice S0A a.length S0c)) (sl_ne _ _ _) (sl_ne _ _ _) 1 (.slice T0A b.length T0c)
 replace T0 := (T0.far flat_int D8 (sl_ne _ _ _) (sl_ne _ _ _) 0 (.slice S0A a.length S0c)).far flat_int (D8.put0 (.slice S0A a.length S0c)) (sl_ne _ _ _) (sl_ne _ _ _) 1 (.slice T0A b.length T0c)
 replace D8 := D8.put2 (.slice S0A a.length S0c) (.slice T0A b.length T0c)
 replace SB : Since w _ := SB.put2 le8 (.slice S0A a.length S0c) (.slice T0A b.length T0c)
 generalize hw : (World.setCell (World.setCell _ _ _) _ _) = w8 at *
 clear hw
 refine bodyPost_ret (results_list (rs := [.cell 8 27, .tmp 9]) rfl (by simp) (.cell g8 27 #[.slice S0A a.length S0c, .slice T0A b.length T0c] (0, 0) _ rfl D8.get Try.underlying27 rfl (by kernel_rfl) (.tmp .nil))) rfl ?_
 exact ⟨_, _, rfl, ⟨_, _, rfl, S0⟩, ⟨_, _, rfl, T0⟩, SB.get⟩
theorem Med_calls (k : Nat) (A0 : Option Addr) (c0 : Nat) (x0 : List Int) (A1 : Option Addr) (c1 : Nat) (x1 : List S94) (A2 : Option Addr) (c2 : Nat) (x2 : List Int) (A3 : Option Addr) (c3 : Nat) (x3 : List S94) (A4 : Option Addr) (c4 : Nat) (x4 : List Int) (A5 : Option Addr) (c5 : Nat) (x5 : List S94) (A6 : Option Addr) (c6 : Nat) (x6 : List Int) (A7 : Option Addr) (c7 : Nat) (x7 : List Int) (A8 : Option Addr) (c8 : Nat) (x8 : List Int) (A9 : Option Addr) (c9 : Nat) (x9 : List Int) (A10 : Option Addr) (c10 : Nat) (x10 : List Int) (A11 : Option Addr) (c11 : Nat) (x11 : List S94) (A12 : Option Addr) (c12 : Nat) (x12 : List Int) (A13 : Option Addr) (c13 : Nat) (x13 : List Int) (A14 : Option Addr) (c14 : Nat) (x14 : List Int) (A15 : Option Addr) (c15 : Nat) (x15 : List Int) (w : World)
  (R0 : Row (Kd.int .i64) w A0 c0 x0) (R1 : Row k94 w A1 c1 x1) (R2 : Row (Kd.int .i64) w A2 c2 x2) (R3 : Row k94 w A3 c3 x3) (R4 : Row (Kd.int .i64) w A4 c4 x4) (R5 : Row k94 w A5 c5 x5) (R6 : Row (Kd.int .i64) w A6 c6 x6) (R7 : Row (Kd.int .i64) w A7 c7 x7) (R8 : Row (Kd.int .i64) w A8 c8 x8) (R9 : Row (Kd.int .i64) w A9 c9 x9) (R10 : Row (Kd.int .i64) w A10 c10 x10) (R11 : Row k94 w A11 c11 x11) (R12 : Row (Kd.int .i64) w A12 c12 x12) (R13 : Row (Kd.int .i64) w A13 c13 x13) (R14 : Row (Kd.int .i64) w A14 c14 x14) (R15 : Row (Kd.int .i64) w A15 c15 x15)
  (r1 r2 : List Int) (r3 : Int) (h : medF k x0 x1 x2 x3 x4 x5 x6 x7 x8 x9 x10 x11 x12 x13 x14 x15 = some (r1, r2, r3)) :
  Calls Try.prog 13 #[.agg #[.slice A0 x0.length c0, .slice A1 x1.length c1, .slice A2 x2.length c2, .slice A3 x3.length c3, .slice A4 x4.length c4, .slice A5 x5.length c5, .slice A6 x6.length c6, .slice A7 x7.length c7, .slice A8 x8.length c8, .slice A9 x9.length c9], .agg #[.slice A10 x10.length c10, .slice A11 x11.length c11], .agg #[.slice A12 x12.length c12, .slice A13 x13.length c13], .agg #[.slice A14 x14.length c14, .slice A15 x15.length c15]] w fun e w' => ∃ v0 v1 : Value, e = .returned (.tuple #[.agg #[v0, v1], .int .i64 r3]) ∧ Vr (Kd.int .i64) w' v0 r1 ∧ Vr (Kd.int .i64) w' v1 r2 ∧ Below w.heap.size w w' := by
 unfold medF at h
 cases hO : pullback_of.f k x0 x1 x2 x3 x4 x5 x6 x7 x8 x9 with
 | none => rw [hO] at h; cases h
 | some o =>
  obtain ⟨P, Q, n, m, er⟩ := o
  rw [hO] at h
  simp only [Option.bind_some] at h
  by_cases her : er = 0
  ·subst her
   rw [if_pos rfl] at h
   by_cases hv : mvalid x10 x11 x0 x1 x12 x13 = 0
   ·rw [if_pos hv] at h
    by_cases hu : mvalid x10 x11 x2 x3 x14 x15 = 0
    ·rw [if_pos hu] at h
     cases hA : pullback_meet.f k P x12 x14 with
     | none => rw [hA] at h; cases h
     | some a =>
      cases hB : pullback_meet.f k Q x13 x15 with
      | none => rw [hA, hB] at h; cases h
      | some b =>
       obtain ⟨a, ok⟩ := a
       obtain ⟨b, is⟩ := b
       rw [hA, hB] at h
       simp only [Option.bind_some] at h
       cases hoi : (ok && is) with
       | false =>
        rw [hoi, if_neg (by decide)] at h
        cases h
        exact Med_d k A0 c0 x0 A1 c1 x1 A2 c2 x2 A3 c3 x3 A4 c4 x4 A5 c5 x5 A6 c6 x6 A7 c7 x7 A8 c8 x8 A9 c9 x9 A10 c10 x10 A11 c11 x11 A12 c12 x12 A13 c13 x13 A14 c14 x14 A15 c15 x15 w R0 R1 R2 R3 R4 R5 R6 R7 R8 R9 R10 R11 R12 R13 R14 R15 _ _ _ _ hO hv hu _ _ _ _ hA hB hoi
       | true =>
        rw [hoi, if_pos rfl] at h
        cases h
        obtain ⟨rfl, rfl⟩ : ok = true ∧ is = true := by simpa using hoi
        exact Med_e k A0 c0 x0 A1 c1 x1 A2 c2 x2 A3 c3 x3 A4 c4 x4 A5 c5 x5 A6 c6 x6 A7 c7 x7 A8 c8 x8 A9 c9 x9 A10 c10 x10 A11 c11 x11 A12 c12 x12 A13 c13 x13 A14 c14 x14 A15 c15 x15 w R0 R1 R2 R3 R4 R5 R6 R7 R8 R9 R10 R11 R12 R13 R14 R15 _ _ _ _ hO hv hu _ _ hA hB
    ·rw [if_neg hu] at h
     cases h
     exact Med_c k A0 c0 x0 A1 c1 x1 A2 c2 x2 A3 c3 x3 A4 c4 x4 A5 c5 x5 A6 c6 x6 A7 c7 x7 A8 c8 x8 A9 c9 x9 A10 c10 x10 A11 c11 x11 A12 c12 x12 A13 c13 x13 A14 c14 x14 A15 c15 x15 w R0 R1 R2 R3 R4 R5 R6 R7 R8 R9 R10 R11 R12 R13 R14 R15 _ _ _ _ hO hv _ rfl hu
   ·rw [if_neg hv] at h
    cases h
    exact Med_b k A0 c0 x0 A1 c1 x1 A2 c2 x2 A3 c3 x3 A4 c4 x4 A5 c5 x5 A6 c6 x6 A7 c7 x7 A8 c8 x8 A9 c9 x9 A10 c10 x10 A11 c11 x11 A12 c12 x12 A13 c13 x13 A14 c14 x14 A15 c15 x15 w R0 R1 R2 R3 R4 R5 R6 R7 R8 R9 R10 R11 R12 R13 R14 R15 _ _ _ _ hO _ rfl hv
  ·rw [if_neg her] at h
   cases h
   exact Med_a k A0 c0 x0 A1 c1 x1 A2 c2 x2 A3 c3 x3 A4 c4 x4 A5 c5 x5 A6 c6 x6 A7 c7 x7 A8 c8 x8 A9 c9 x9 A10 c10 x10 A11 c11 x11 A12 c12 x12 A13 c13 x13 A14 c14 x14 A15 c15 x15 w R0 R1 R2 R3 R4 R5 R6 R7 R8 R9 R10 R11 R12 R13 R14 R15 _ _ _ _ _ hO her
end Go.Proofs.Ytillofiphkmjjaa.X
