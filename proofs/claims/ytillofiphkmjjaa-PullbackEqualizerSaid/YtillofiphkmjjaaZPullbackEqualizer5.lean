/- The law PullbackEqualizer returns true at every input, and its arguments read afterwards as they read before. No condition. -/
import Derived.Test.YtillofiphkmjjaaZPullbackEqualizer4
import Derived.Test.YtillofiphkmjjaaRows
namespace Go.Proofs.Ytillofiphkmjjaa.X
open Go.RowKit Go.Proofs.YtillofiphkmjjaaW.PrintWords Go.Proofs.YtillofiphkmjjaaW.PrintLast Go.Proofs.YtillofiphkmjjaaW.PrintMore
open Go.Proofs.YtillofiphkmjjaaW.PrintWords renaming blk_drewN → bN, blk_drew → bD, blk_alloc → bA, below_alloc → wA, pw_below_drewN → wN, below_drew1 → wD, blk_below → bB, below_step → wS, blk_at → bT, blk_grown → bG
open Go.Proofs.YtillofiphkmjjaaW.PrintWords.Kd renaming R_alloc → rA, R_drewN → rN, R_drew → rD, R_below → rB, R_grown → rG, C_below → cB, C_alloc → cA, C_drewN → cN, C_drew → cD
attribute [local go_sem] max2_int min2_int max_two min_two max_three min_three max_four min_four
set_option linter.unusedVariables false
set_option linter.unusedSimpArgs false
/-! ### scarfjointref11_Equalizer: function 32 -/
def scarfjointref11_Equalizer.f (k : Nat) (l0_0 : List Int) (l0_1 : List (S94)) (l1_0 : List Int) (l1_1 : List (S94)) (l2_0 : List Int) (l2_1 : List Int) (l3_0 : List Int) (l3_1 : List Int) : Option (List Int × List Int × Int) := (scarfjointref06_Valid.f l0_0 l0_1 l1_0 l1_1 l2_0 l2_1).bind fun t106 => (if t106 = 0 then ((scarfjointref06_Valid.f l0_0 l0_1 l1_0 l1_1 l3_0 l3_1).bind fun t107 => (if t107 = 0 then ((scarfjointref11_agree.f k l2_0 l3_0).bind fun t108 => ((scarfjointref11_agree.f k l2_1 l3_1).bind fun t111 => (some (t108, t111, 0)))) else (some (([] : List Int), ([] : List Int), t107)))) else (some (([] : List Int), ([] : List Int), t106)))
theorem scarfjointref11_Equalizer.mono : ∀ a0 a1 a2 a3 a4 a5 a6 a7 k, LeO (scarfjointref11_Equalizer.f k a0 a1 a2 a3 a4 a5 a6 a7) (scarfjointref11_Equalizer.f (k + 1) a0 a1 a2 a3 a4 a5 a6 a7) := by
 intro a0 a1 a2 a3 a4 a5 a6 a7 k
 unfold scarfjointref11_Equalizer.f
 repeat' first
   | (with_reducible exact scarfjointref11_agree.mono _ _ _)
   | (with_reducible exact LeO.refl _)
   | (with_reducible exact LeO.none _)
   | (with_reducible refine LeO.ite ?_ ?_)
   | (with_reducible refine LeO.bind ?_ (fun _ => ?_))
   | exact scarfjointref11_agree.mono _ _ _
   | exact LeO.none _
   | refine LeO.ite ?_ ?_
   | refine LeO.bind ?_ (fun _ => ?_)
def scarfjointref11_Equalizer.T7 : Bool × List (List Nat × List Nat) := (true, [([], []), ([0], [0]), ([], []), ([2], [2]), ([1, 3], [1, 3]), ([], []), ([5], [5]), ([], []), ([7], [7]), ([6, 8, 4], [6, 8]), ([4, 9], [4, 9]), ([10, 9, 0, 1, 2, 3, 4, 5, 6, 7, 8, 9, 10], [10]), ([11, 0, 1, 2, 3, 4, 5, 6, 7, 8, 9, 10, 11], [])])
def scarfjointref11_Equalizer.B7 : List Nat := [0, 1, 0, 4, 15, 0, 32, 0, 128, 511, 1023, 2047, 4095]
theorem scarfjointref11_Equalizer.tab7 : rtab .any (opsOf Try.f32 7) = scarfjointref11_Equalizer.T7 := by kernel_rfl
theorem scarfjointref11_Equalizer.bits7 : waitsOk scarfjointref11_Equalizer.T7.2 scarfjointref11_Equalizer.B7 = true := by kernel_rfl
set_option maxHeartbeats 8000000 in
set_option maxRecDepth 100000 in
theorem scarfjointref11_Equalizer.calls (k : Nat) (A0_0 : Option Addr) (c0_0 : Nat) (l0_0 : List Int) (A0_1 : Option Addr) (c0_1 : Nat) (l0_1 : List (S94)) (A1_0 : Option Addr) (c1_0 : Nat) (l1_0 : List Int) (A1_1 : Option Addr) (c1_1 : Nat) (l1_1 : List (S94)) (A2_0 : Option Addr) (c2_0 : Nat) (l2_0 : List Int) (A2_1 : Option Addr) (c2_1 : Nat) (l2_1 : List Int) (A3_0 : Option Addr) (c3_0 : Nat) (l3_0 : List Int) (A3_1 : Option Addr) (c3_1 : Nat) (l3_1 : List Int) (r1 : List Int) (r2 : List Int) (r3 : Int) (w : World) (hr0_0 : Kd.C (Kd.int .i64) w A0_0 l0_0.length l0_0) (hc0_0 : l0_0.length ≤ c0_0) (hr0_1 : Kd.C k94 w A0_1 l0_1.length l0_1) (hc0_1 : l0_1.length ≤ c0_1) (hr1_0 : Kd.C (Kd.int .i64) w A1_0 l1_0.length l1_0) (hc1_0 : l1_0.length ≤ c1_0) (hr1_1 : Kd.C k94 w A1_1 l1_1.length l1_1) (hc1_1 : l1_1.length ≤ c1_1) (hr2_0 : Kd.C (Kd.int .i64) w A2_0 l2_0.length l2_0) (hc2_0 : l2_0.length ≤ c2_0) (hr2_1 : Kd.C (Kd.int .i64) w A2_1 l2_1.length l2_1) (hc2_1 : l2_1.length ≤ c2_1) (hr3_0 : Kd.C (Kd.int .i64) w A3_0 l3_0.length l3_0) (hc3_0 : l3_0.length ≤ c3_0) (hr3_1 : Kd.C (Kd.int .i64) w A3_1 l3_1.length l3_1) (hc3_1 : l3_1.length ≤ c3_1) (h : scarfjointref11_Equalizer.f k l0_0 l0_1 l1_0 l1_1 l2_0 l2_1 l3_0 l3_1 = some (r1, r2, r3)) :
  Calls Try.prog 32 #[.agg #[.slice A0_0 l0_0.length c0_0, .slice A0_1 l0_1.length c0_1], .agg #[.slice A1_0 l1_0.length c1_0, .slice A1_1 l1_1.length c1_1], .agg #[.slice A2_0 l2_0.length c2_0, .slice A2_1 l2_1.length c2_1], .agg #[.slice A3_0 l3_0.length c3_0, .slice A3_1 l3_1.length c3_1]] w fun e w' => ∃ v0_ v1_ : Value, e = .returned (.tuple #[.agg #[v0_, v1_], .int .i64 r3]) ∧ Kd.R (Kd.int .i64) 3 w' w.heap.size (fun k_ => some k_ ≠ (v1_ : Value).ownBlock) v0_ r1 ∧ Kd.R (Kd.int .i64) 3 w' w.heap.size (fun k_ => some k_ ≠ (v0_ : Value).ownBlock) v1_ r2 ∧ Below w.heap.size w w' := by
 have hu25 := Try.underlying25
 have hu27 := Try.underlying27
 have hu60 := Try.underlying60
 have HR0_0 := Aside0.mk hr0_0
 have HC0_0 := Aside0.mk hc0_0
 clear hr0_0 hc0_0
 have HR0_1 := Aside0.mk hr0_1
 have HC0_1 := Aside0.mk hc0_1
 clear hr0_1 hc0_1
 have HR1_0 := Aside0.mk hr1_0
 have HC1_0 := Aside0.mk hc1_0
 clear hr1_0 hc1_0
 have HR1_1 := Aside0.mk hr1_1
 have HC1_1 := Aside0.mk hc1_1
 clear hr1_1 hc1_1
 have HR2_0 := Aside0.mk hr2_0
 have HC2_0 := Aside0.mk hc2_0
 clear hr2_0 hc2_0
 have HR2_1 := Aside0.mk hr2_1
 have HC2_1 := Aside0.mk hc2_1
 clear hr2_1 hc2_1
 have HR3_0 := Aside0.mk hr3_0
 have HC3_0 := Aside0.mk hc3_0
 clear hr3_0 hc3_0
 have HR3_1 := Aside0.mk hr3_1
 have HC3_1 := Aside0.mk hc3_1
 clear hr3_1 hc3_1
 have HB := Aside0.mk (Below.refl w.heap.size w)
 have H : ((scarfjointref06_Valid.f l0_0 l0_1 l1_0 l1_1 l2_0 l2_1).bind fun t106 => (if t106 = 0 then ((scarfjointref06_Valid.f l0_0 l0_1 l1_0 l1_1 l3_0 l3_1).bind fun t107 => (if t107 = 0 then ((scarfjointref11_agree.f k l2_0 l3_0).bind fun t108 => ((scarfjointref11_agree.f k l2_1 l3_1).bind fun t111 => (some (t108, t111, 0)))) else (some (([] : List Int), ([] : List Int), t107)))) else (some (([] : List Int), ([] : List Int), t106)))) = some (r1, r2, r3) := h
 clear h
 replace H := Option.bind_eq_some_iff.mp H
 obtain ⟨t106, A50, H⟩ := H
 replace H : (if t106 = 0 then ((scarfjointref06_Valid.f l0_0 l0_1 l1_0 l1_1 l3_0 l3_1).bind fun t107 => (if t107 = 0 then ((scarfjointref11_agree.f k l2_0 l3_0).bind fun t108 => ((scarfjointref11_agree.f k l2_1 l3_1).bind fun t111 => (some (t108, t111, 0)))) else (some (([] : List Int), ([] : List Int), t107)))) else (some (([] : List Int), ([] : List Int), t106))) = some (r1, r2, r3) := H
 have A5 := Aside0.mk A50
 clear A50
 by_cases c6 : t106 = 0
 ·rw [if_pos c6] at H
  have c6b0 : (t106 == 0) = true := beq_iff_eq.mpr c6
  have c6b1 : (t106 != 0) = false := bne_eq_false_iff_eq.mpr c6
  clear c6
  replace H := Option.bind_eq_some_iff.mp H
  obtain ⟨t107, A70, H⟩ := H
  replace H : (if t107 = 0 then ((scarfjointref11_agree.f k l2_0 l3_0).bind fun t108 => ((scarfjointref11_agree.f k l2_1 l3_1).bind fun t111 => (some (t108, t111, 0)))) else (some (([] : List Int), ([] : List Int), t107))) = some (r1, r2, r3) := H
  have A7 := Aside0.mk A70
  clear A70
  by_cases c8 : t107 = 0
  ·rw [if_pos c8] at H
   have c8b0 : (t107 == 0) = true := beq_iff_eq.mpr c8
   have c8b1 : (t107 != 0) = false := bne_eq_false_iff_eq.mpr c8
   clear c8
   replace H := Option.bind_eq_some_iff.mp H
   obtain ⟨t108, A90, H⟩ := H
   replace H : ((scarfjointref11_agree.f k l2_1 l3_1).bind fun t111 => (some (t108, t111, 0))) = some (r1, r2, r3) := H
   have A9 := Aside0.mk A90
   clear A90
   replace H := Option.bind_eq_some_iff.mp H
   obtain ⟨t111, A100, H⟩ := H
   replace H : (some (t108, t111, 0)) = some (r1, r2, r3) := H
   have A10 := Aside0.mk A100
   clear A100
   simp only [Option.some.injEq, Prod.mk.injEq] at H
   obtain ⟨rfl, rfl, rfl⟩ := H
   go_enter Try.func32, Try.ntmps32
   try go_wp2_with (first | ((with_reducible refine gate_dst (N := 4) rfl ?_); refine box_event ?hg (N := 4) ?hd (cs := #[.slice A0_0 l0_0.length c0_0, .slice A0_1 l0_1.length c0_1]) (t := 25) ?hr ?_; (case hd => rfl); (case hg => rfl); (case hr => first | (go_simp; done) | (go_simp; rfl)); intro Q06 hg w11 hbox hb; have Q00 := Aside0.mk (hbox); have Q14 := Aside0.mk ((by rw [hg]; exact (below_size hB) : w.heap.size ≤ Q06)); have Q0i := Aside0.mk ((by rw [hg]; exact (below_size hB) : w.heap.size ≤ Q06)); replace HB := uH HB hb; clear hb hbox hg) | ((with_reducible refine gate_dst (N := 5) rfl ?_); refine box_event ?hg (N := 5) ?hd (cs := #[.slice A1_0 l1_0.length c1_0, .slice A1_1 l1_1.length c1_1]) (t := 25) ?hr ?_; (case hd => rfl); (case hg => rfl); (case hr => first | (go_simp; done) | (go_simp; rfl)); intro Q07 hg w12 hbox hb; have Q01 := Aside0.mk (hbox); have Q15 := uS HB hg; have Q0j := uS HB hg; replace HB := uH HB hb; have Q0k := uL Q00 hg; have Q0l := uG Q00 hg; replace Q00 := uB Q00 hb; clear hb hbox hg) | ((with_reducible refine gate_dst (N := 6) rfl ?_); refine box_event ?hg (N := 6) ?hd (cs := #[.slice A2_0 l2_0.length c2_0, .slice A2_1 l2_1.length c2_1]) (t := 27) ?hr ?_; (case hd => rfl); (case hg => rfl); (case hr => first | (go_simp; done) | (go_simp; rfl)); intro Q0a hg w13 hbox hb; have Q02 := Aside0.mk (hbox); have Q16 := uS HB hg; have Q0m := uS HB hg; replace HB := uH HB hb; have Q0n := uL Q00 hg; have Q0o := uG Q00 hg; replace Q00 := uB Q00 hb; have Q0p := uL Q01 hg; have Q0q := uG Q01 hg; replace Q01 := uB Q01 hb; clear hb hbox hg) | ((with_reducible refine gate_dst (N := 7) rfl ?_); refine box_event ?hg (N := 7) ?hd (cs := #[.slice A3_0 l3_0.length c3_0, .slice A3_1 l3_1.length c3_1]) (t := 27) ?hr ?_; (case hd => rfl); (case hg => rfl); (case hr => first | (go_simp; done) | (go_simp; rfl)); intro Q0b hg w14 hbox hb; have Q03 := Aside0.mk (hbox); have Q17 := uS HB hg; have Q0r := uS HB hg; replace HB := uH HB hb; have Q0s := uL Q00 hg; have Q0t := uG Q00 hg; replace Q00 := uB Q00 hb; have Q0u := uL Q01 hg; have Q0v := uG Q01 hg; replace Q01 := uB Q01 hb; have Q0w := uL Q02 hg; have Q0x := uG Q02 hg; replace Q02 := uB Q02 hb; clear hb hbox hg) | ((with_reducible refine gate_dst (N := 8) rfl ?_); refine box_event ?hg (N := 8) ?hd (cs := #[.slice none 0 0, .slice none 0 0]) (t := 60) ?hr ?_; (case hd => rfl); (case hg => rfl); (case hr => first | (go_simp; done) | (go_simp; rfl)); intro Q05 hg w15 hbox hb; have Q04 := Aside0.mk (hbox); have Q18 := uS HB hg; have Q0y := uS HB hg; replace HB := uH HB hb; have Q0c := uL Q00 hg; have Q0d := uG Q00 hg; replace Q00 := uB Q00 hb; have Q0e := uL Q01 hg; have Q0f := uG Q01 hg; replace Q01 := uB Q01 hb; have Q08 := uL Q02 hg; have Q0g := uG Q02 hg; replace Q02 := uB Q02 hb; have Q09 := uL Q03 hg; have Q0h := uG Q03 hg; replace Q03 := uB Q03 hb; clear hb hbox hg; have Q1c := Q0k.out; have Q1d := Q0l.out; have Q1e := Q0n.out; have Q1f := Q0o.out; have Q1g := Q0s.out; have Q1h := Q0t.out; have Q1i := Q0c.out; have Q1j := Q0d.out; have Q1k : w15.cell? ⟨Q06, 0, none⟩ = some (.slice A0_0 l0_0.length c0_0) := (blk_cell Q00.out 0).trans rfl; have Q1l : w15.cell? ⟨Q06, 1, none⟩ = some (.slice A0_1 l0_1.length c0_1) := (blk_cell Q00.out 1).trans rfl; have Q1m := blk_frozen Q00.out 0; have Q1n := blk_frozen Q00.out 1; have Q1o := Q0p.out; have Q1p := Q0q.out; have Q1q := Q0u.out; have Q1r := Q0v.out; have Q1s := Q0e.out; have Q1t := Q0f.out; have Q1u : w15.cell? ⟨Q07, 0, none⟩ = some (.slice A1_0 l1_0.length c1_0) := (blk_cell Q01.out 0).trans rfl; have Q1v : w15.cell? ⟨Q07, 1, none⟩ = some (.slice A1_1 l1_1.length c1_1) := (blk_cell Q01.out 1).trans rfl; have Q1w := blk_frozen Q01.out 0; have Q1x := blk_frozen Q01.out 1; have Q1y := Q0w.out; have Q1z := Q0x.out; have Q20 := Q08.out; have Q21 := Q0g.out; have Q22 : w15.cell? ⟨Q0a, 0, none⟩ = some (.slice A2_0 l2_0.length c2_0) := (blk_cell Q02.out 0).trans rfl; have Q23 : w15.cell? ⟨Q0a, 1, none⟩ = some (.slice A2_1 l2_1.length c2_1) := (blk_cell Q02.out 1).trans rfl; have Q24 := blk_frozen Q02.out 0; have Q25 := blk_frozen Q02.out 1) | ((with_reducible refine gate_callee (f := 44) rfl ?_); refine goesL_ (some 15) rfl rfl Try.func44 (by kernel_rfl) rfl #[.agg #[.slice A0_0 l0_0.length c0_0, .slice A0_1 l0_1.length c0_1], .agg #[.slice A1_0 l1_0.length c1_0, .slice A1_1 l1_1.length c1_1], .agg #[.slice A2_0 l2_0.length c2_0, .slice A2_1 l2_1.length c2_1]] rfl aM ?_; (with_reducible refine (scarfjointref06_Valid.calls _ _ l0_0 _ _ l0_1 _ _ l1_0 _ _ l1_1 _ _ l2_0 _ _ l2_1 t106 _ ?side1 ?side2 ?side3 ?side4 ?side5 ?side6 ?side7 ?side8 ?side9 ?side10 ?side11 ?side12 A5.out).mono ?_); (case side1 => repeat (first | exact (cB HR0_0.out HB.out) | (with_reducible refine cA ?_ _) | (with_reducible refine cN ?_ _) | (with_reducible refine cD ?_))); (case side2 => exact HC0_0.out); (case side3 => repeat (first | exact (cB HR0_1.out HB.out) | (with_reducible refine cA ?_ _) | (with_reducible refine cN ?_ _) | (with_reducible refine cD ?_))); (case side4 => exact HC0_1.out); (case side5 => repeat (first | exact (cB HR1_0.out HB.out) | (with_reducible refine cA ?_ _) | (with_reducible refine cN ?_ _) | (with_reducible refine cD ?_))); (case side6 => exact HC1_0.out); (case side7 => repeat (first | exact (cB HR1_1.out HB.out) | (with_reducible refine cA ?_ _) | (with_reducible refine cN ?_ _) | (with_reducible refine cD ?_))); (case side8 => exact HC1_1.out); (case side9 => repeat (first | exact (cB HR2_0.out HB.out) | (with_reducible refine cA ?_ _) | (with_reducible refine cN ?_ _) | (with_reducible refine cD ?_))); (case side10 => exact HC2_0.out); (case side11 => repeat (first | exact (cB HR2_1.out HB.out) | (with_reducible refine cA ?_ _) | (with_reducible refine cN ?_ _) | (with_reducible refine cD ?_))); (case side12 => exact HC2_1.out); rintro e w28 ⟨rfl, hb⟩; refine ⟨_, rfl, ?_⟩; replace Q00 := uB Q00 hb; replace Q01 := uB Q01 hb; replace Q02 := uB Q02 hb; replace Q03 := uB Q03 hb; replace Q04 := uB Q04 hb; replace HB := uH HB hb; (try clear hb); (try clear hb2); (try clear hk); (try clear hi); have Q26 : w28.cell? ⟨Q06, 0, none⟩ = some (.slice A0_0 l0_0.length c0_0) := (blk_cell Q00.out 0).trans rfl; have Q27 : w28.cell? ⟨Q06, 1, none⟩ = some (.slice A0_1 l0_1.length c0_1) := (blk_cell Q00.out 1).trans rfl; have Q28 := blk_frozen Q00.out 0; have Q29 := blk_frozen Q00.out 1; have Q2a : w28.cell? ⟨Q07, 0, none⟩ = some (.slice A1_0 l1_0.length c1_0) := (blk_cell Q01.out 0).trans rfl; have Q2b : w28.cell? ⟨Q07, 1, none⟩ = some (.slice A1_1 l1_1.length c1_1) := (blk_cell Q01.out 1).trans rfl; have Q2c := blk_frozen Q01.out 0; have Q2d := blk_frozen Q01.out 1; have Q2e := Q09.out; have Q2f := Q0h.out; have Q2g : w28.cell? ⟨Q0b, 0, none⟩ = some (.slice A3_0 l3_0.length c3_0) := (blk_cell Q03.out 0).trans rfl; have Q2h : w28.cell? ⟨Q0b, 1, none⟩ = some (.slice A3_1 l3_1.length c3_1) := (blk_cell Q03.out 1).trans rfl; have Q2i := blk_frozen Q03.out 0; have Q2j := blk_frozen Q03.out 1) | ((with_reducible refine gate_callee (f := 44) rfl ?_); refine goesL_ (some 23) rfl rfl Try.func44 (by kernel_rfl) rfl #[.agg #[.slice A0_0 l0_0.length c0_0, .slice A0_1 l0_1.length c0_1], .agg #[.slice A1_0 l1_0.length c1_0, .slice A1_1 l1_1.length c1_1], .agg #[.slice A3_0 l3_0.length c3_0, .slice A3_1 l3_1.length c3_1]] rfl aM ?_; (with_reducible refine (scarfjointref06_Valid.calls _ _ l0_0 _ _ l0_1 _ _ l1_0 _ _ l1_1 _ _ l3_0 _ _ l3_1 t107 _ ?side1 ?side2 ?side3 ?side4 ?side5 ?side6 ?side7 ?side8 ?side9 ?side10 ?side11 ?side12 A7.out).mono ?_); (case side1 => repeat (first | exact (cB HR0_0.out HB.out) | (with_reducible refine cA ?_ _) | (with_reducible refine cN ?_ _) | (with_reducible refine cD ?_))); (case side2 => exact HC0_0.out); (case side3 => repeat (first | exact (cB HR0_1.out HB.out) | (with_reducible refine cA ?_ _) | (with_reducible refine cN ?_ _) | (with_reducible refine cD ?_))); (case side4 => exact HC0_1.out); (case side5 => repeat (first | exact (cB HR1_0.out HB.out) | (with_reducible refine cA ?_ _) | (with_reducible refine cN ?_ _) | (with_reducible refine cD ?_))); (case side6 => exact HC1_0.out); (case side7 => repeat (first | exact (cB HR1_1.out HB.out) | (with_reducible refine cA ?_ _) | (with_reducible refine cN ?_ _) | (with_reducible refine cD ?_))); (case side8 => exact HC1_1.out); (case side9 => repeat (first | exact (cB HR3_0.out HB.out) | (with_reducible refine cA ?_ _) | (with_reducible refine cN ?_ _) | (with_reducible refine cD ?_))); (case side10 => exact HC3_0.out); (case side11 => repeat (first | exact (cB HR3_1.out HB.out) | (with_reducible refine cA ?_ _) | (with_reducible refine cN ?_ _) | (with_reducible refine cD ?_))); (case side12 => exact HC3_1.out); rintro e w33 ⟨rfl, hb⟩; refine ⟨_, rfl, ?_⟩; replace Q00 := uB Q00 hb; replace Q01 := uB Q01 hb; replace Q02 := uB Q02 hb; replace Q03 := uB Q03 hb; replace Q04 := uB Q04 hb; replace HB := uH HB hb; (try clear hb); (try clear hb2); (try clear hk); (try clear hi)))
   replace Q00 := Aside0.mk (bD Q00.out)
   replace Q01 := Aside0.mk (bD Q01.out)
   replace Q02 := Aside0.mk (bD Q02.out)
   replace Q03 := Aside0.mk (bD Q03.out)
   replace Q04 := Aside0.mk (bD Q04.out)
   replace HB := Aside0.mk (wD HB.out)
   refine start_ (n := 13) (S := fun w' => w'.cell? ⟨Q0a, 0, none⟩ = some (.slice A2_0 l2_0.length c2_0) ∧ w'.cell? ⟨Q0a, 1, none⟩ = some (.slice A2_1 l2_1.length c2_1) ∧ w'.cell? ⟨Q0b, 0, none⟩ = some (.slice A3_0 l3_0.length c3_0) ∧ w'.cell? ⟨Q0b, 1, none⟩ = some (.slice A3_1 l3_1.length c3_1)) (ds := []) #[false, false, false, false, false, false, false, false, false, false, false, false, false] (by kernel_rfl) rfl rfl ⟨(blk_cell Q02.out 0).trans rfl, (blk_cell Q02.out 1).trans rfl, (blk_cell Q03.out 0).trans rfl, (blk_cell Q03.out 1).trans rfl⟩ (fun hHeld => ?_); refine with_tabW scarfjointref11_Equalizer.tab7 scarfjointref11_Equalizer.bits7 (fun HT_ HW_ => ?_)
   generalize w33.drew = w34 at Q00 Q01 Q02 Q03 Q04 HB hHeld ⊢
   refine pure_ (i := 0) (N := some 28) (v := ?_) (a' := ?_) #[true, false, false, false, false, false, false, false, false, false, false, false, false] rfl rfl (any_of HT_.out (by kernel_rfl)) (fun _ _ _ h => h) (Or.inl ⟨by rfl, ?_⟩) ?_ ?_
   rotate_left
   ·intro w'
    go_simp
    with_reducible rfl
   rotate_left
   ·simp only [Act.put, List.setIfInBounds_toArray, List.set_cons_zero, List.set_cons_succ, i64_w, i32_w]
    rfl
   refine pure_ (i := 2) (N := some 30) (v := ?_) (a' := ?_) #[true, false, true, false, false, false, false, false, false, false, false, false, false] rfl rfl (any_of HT_.out (by kernel_rfl)) (fun _ _ _ h => h) (Or.inl ⟨by rfl, ?_⟩) ?_ ?_
   rotate_left
   ·intro w'
    go_simp
    with_reducible rfl
   rotate_left
   ·simp only [Act.put, List.setIfInBounds_toArray, List.set_cons_zero, List.set_cons_succ, i64_w, i32_w]
    rfl
   refine pure_ (i := 5) (N := some 33) (v := ?_) (a' := ?_) #[true, false, true, false, false, true, false, false, false, false, false, false, false] rfl rfl (any_of HT_.out (by kernel_rfl)) (fun _ _ _ h => h) (Or.inl ⟨by rfl, ?_⟩) ?_ ?_
   rotate_left
   ·intro w'
    go_simp
    with_reducible rfl
   rotate_left
   ·simp only [Act.put, List.setIfInBounds_toArray, List.set_cons_zero, List.set_cons_succ, i64_w, i32_w]
    rfl
   refine pure_ (i := 7) (N := some 35) (v := ?_) (a' := ?_) #[true, false, true, false, false, true, false, true, false, false, false, false, false] rfl rfl (any_of HT_.out (by kernel_rfl)) (fun _ _ _ h => h) (Or.inl ⟨by rfl, ?_⟩) ?_ ?_
   rotate_left
   ·intro w'
    go_simp
    with_reducible rfl
   rotate_left
   ·simp only [Act.put, List.setIfInBounds_toArray, List.set_cons_zero, List.set_cons_succ, i64_w, i32_w]
    rfl
   refine take_ (i := 1) (N := some 29) (v := ?_) (a' := ?_) #[true, true, true, false, false, true, false, true, false, false, false, false, false] rfl rfl (take_ofW HT_.out HW_.out (by kernel_rfl)) (fun _ _ _ h => h) (Or.inl ⟨by rfl, ?_⟩) hHeld ?_ ?_
   rotate_left
   ·rintro w' ⟨s0, s1, s2, s3⟩
    go_simp
    with_reducible rfl
   rotate_left
   ·simp only [Act.put, List.setIfInBounds_toArray, List.set_cons_zero, List.set_cons_succ, i64_w, i32_w]
    rfl
   refine take_ (i := 3) (N := some 31) (v := ?_) (a' := ?_) #[true, true, true, true, false, true, false, true, false, false, false, false, false] rfl rfl (take_ofW HT_.out HW_.out (by kernel_rfl)) (fun _ _ _ h => h) (Or.inl ⟨by rfl, ?_⟩) hHeld ?_ ?_
   rotate_left
   ·rintro w' ⟨s0, s1, s2, s3⟩
    go_simp
    with_reducible rfl
   rotate_left
   ·simp only [Act.put, List.setIfInBounds_toArray, List.set_cons_zero, List.set_cons_succ, i64_w, i32_w]
    rfl
   refine take_ (i := 6) (N := some 34) (v := ?_) (a' := ?_) #[true, true, true, true, false, true, true, true, false, false, false, false, false] rfl rfl (take_ofW HT_.out HW_.out (by kernel_rfl)) (fun _ _ _ h => h) (Or.inl ⟨by rfl, ?_⟩) hHeld ?_ ?_
   rotate_left
   ·rintro w' ⟨s0, s1, s2, s3⟩
    go_simp
    with_reducible rfl
   rotate_left
   ·simp only [Act.put, List.setIfInBounds_toArray, List.set_cons_zero, List.set_cons_succ, i64_w, i32_w]
    rfl
   refine take_ (i := 8) (N := some 36) (v := ?_) (a' := ?_) #[true, true, true, true, false, true, true, true, true, false, false, false, false] rfl rfl (take_ofW HT_.out HW_.out (by kernel_rfl)) (fun _ _ _ h => h) (Or.inl ⟨by rfl, ?_⟩) hHeld ?_ ?_
   rotate_left
   ·rintro w' ⟨s0, s1, s2, s3⟩
    go_simp
    with_reducible rfl
   rotate_left
   ·simp only [Act.put, List.setIfInBounds_toArray, List.set_cons_zero, List.set_cons_succ, i64_w, i32_w]
    rfl
   refine one_ (i := 4) (N := some 32) #[true, true, true, true, true, true, true, true, true, false, false, false, false] rfl rfl (one_of HT_.out (by kernel_rfl)) (by decide) (fun K hK => ?_)
   refine goes_ Try.func63 (by kernel_rfl) rfl #[.slice A2_0 l2_0.length c2_0, .slice A3_0 l3_0.length c3_0] (by rfl) rfl rfl aM ?_
   with_reducible refine (scarfjointref11_agree.calls k _ _ l2_0 _ _ l3_0 t108 _ ?side1 ?side2 ?side3 ?side4 A9.out).mono ?_
   (case side1 => repeat (first | exact (cB HR2_0.out HB.out) | (with_reducible refine cA ?_ _) | (with_reducible refine cN ?_ _) | (with_reducible refine cD ?_)))
   (case side2 => exact HC2_0.out)
   (case side3 => repeat (first | exact (cB HR3_0.out HB.out) | (with_reducible refine cA ?_ _) | (with_reducible refine cN ?_ _) | (with_reducible refine cD ?_)))
   (case side4 => exact HC3_0.out)
   rintro e w35 ⟨v109, rfl, ho0, hb⟩
   refine ⟨_, rfl, ?_⟩
   have Q0z := Aside0.mk (Kd.R_lower ho0 (below_size (pH HB)))
   replace Q00 := uB Q00 hb
   replace Q01 := uB Q01 hb
   replace Q02 := uB Q02 hb
   replace Q03 := uB Q03 hb
   replace Q04 := uB Q04 hb
   replace HB := uH HB hb
   (try clear hb)
   (try clear hb2)
   (try clear hk)
   (try clear hi)
   (try clear ho0)
   refine hK.out _ _ ⟨(blk_cell Q02.out 0).trans rfl, (blk_cell Q02.out 1).trans rfl, (blk_cell Q03.out 0).trans rfl, (blk_cell Q03.out 1).trans rfl⟩ (fun hHeld => ?_)
   clear hK K
   refine norm_ (a' := ?_) ?_ ?_
   rotate_left
   ·show Act.put _ (some 32) _ = _
    simp only [Act.put, List.setIfInBounds_toArray, List.set_cons_zero, List.set_cons_succ, i64_w, i32_w]
    rfl
   refine one_ (i := 9) (N := some 37) #[true, true, true, true, true, true, true, true, true, true, false, false, false] rfl rfl (one_of HT_.out (by kernel_rfl)) (by decide) (fun K hK => ?_)
   refine goes_ Try.func63 (by kernel_rfl) rfl #[.slice A2_1 l2_1.length c2_1, .slice A3_1 l3_1.length c3_1] (by rfl) rfl rfl aM ?_
   with_reducible refine (scarfjointref11_agree.calls k _ _ l2_1 _ _ l3_1 t111 _ ?side1 ?side2 ?side3 ?side4 A10.out).mono ?_
   (case side1 => repeat (first | exact (cB HR2_1.out HB.out) | (with_reducible refine cA ?_ _) | (with_reducible refine cN ?_ _) | (with_reducible refine cD ?_)))
   (case side2 => exact HC2_1.out)
   (case side3 => repeat (first | exact (cB HR3_1.out HB.out) | (with_reducible refine cA ?_ _) | (with_reducible refine cN ?_ _) | (with_reducible refine cD ?_)))
   (case side4 => exact HC3_1.out)
   rintro e w36 ⟨v112, rfl, ho0, hb⟩
   refine ⟨_, rfl, ?_⟩
   have Q19 := Aside0.mk (Kd.R_lower (Kd.R_new' ho0 (Kd.R_lt (pR Q0z))) (below_size (pH HB)))
   replace Q0z := eR Q0z (Kd.R_base ho0) hb
   replace Q00 := uB Q00 hb
   replace Q01 := uB Q01 hb
   replace Q02 := uB Q02 hb
   replace Q03 := uB Q03 hb
   replace Q04 := uB Q04 hb
   replace HB := uH HB hb
   (try clear hb)
   (try clear hb2)
   (try clear hk)
   (try clear hi)
   (try clear ho0)
   obtain ⟨Q12, Q13, Q1a⟩ := Kd.R_slice Q19.out
   (first | subst Q1a | (injection Q1a with f1_ f2_ f3_; have f4_ := f1_.symm; have f5_ := f3_.symm; clear f1_ f2_ f3_; subst f4_; subst f5_))
   obtain ⟨Q10, Q11, Q1b⟩ := Kd.R_slice Q0z.out
   (first | subst Q1b | (injection Q1b with f1_ f2_ f3_; have f4_ := f1_.symm; have f5_ := f3_.symm; clear f1_ f2_ f3_; subst f4_; subst f5_))
   refine hK.out _ _ ⟨(blk_cell Q02.out 0).trans rfl, (blk_cell Q02.out 1).trans rfl, (blk_cell Q03.out 0).trans rfl, (blk_cell Q03.out 1).trans rfl⟩ (fun hHeld => ?_)
   clear hK K
   refine norm_ (a' := ?_) ?_ ?_
   rotate_left
   ·show Act.put _ (some 37) _ = _
    simp only [Act.put, List.setIfInBounds_toArray, List.set_cons_zero, List.set_cons_succ, i64_w, i32_w]
    rfl
   refine pure_ (i := 10) (N := some 38) (v := ?_) (a' := ?_) #[true, true, true, true, true, true, true, true, true, true, true, false, false] rfl rfl (any_of HT_.out (by kernel_rfl)) (fun _ _ _ h => h) (Or.inl ⟨by rfl, ?_⟩) ?_ ?_
   rotate_left
   ·intro w'
    go_simp
    with_reducible rfl
   rotate_left
   ·simp only [Act.put, List.setIfInBounds_toArray, List.set_cons_zero, List.set_cons_succ, i64_w, i32_w]
    rfl
   refine one_ (i := 11) (N := none) #[true, true, true, true, true, true, true, true, true, true, true, true, false] rfl rfl (one_of HT_.out (by kernel_rfl)) (by decide) (fun K hK => ?_)
   have Q2k : w36.cell? ⟨Q05, 0, none⟩ = some (.slice none 0 0) := (blk_cell Q04.out 0).trans rfl
   have Q2l := blk_frozen Q04.out 0
   have Q2m := Q0c.out
   have Q2n := Q0e.out
   have Q2o := Q08.out
   have Q2p := Q09.out
   have Q2q := Q0d.out
   have Q2r := Q0f.out
   have Q2s := Q0g.out
   have Q2t := Q0h.out
   have Q2u : w36.cell? ⟨Q05, 1, none⟩ = some (.slice none 0 0) := (blk_cell Q04.out 1).trans rfl
   have Q2v := blk_frozen Q04.out 1
   have Q2w := Q0c.out
   have Q2x := Q0e.out
   have Q2y := Q08.out
   have Q2z := Q09.out
   have Q30 := Q0d.out
   have Q31 := Q0f.out
   have Q32 := Q0g.out
   have Q33 := Q0h.out
   refine skip_ (w1 := ?_) (by rfl) rfl ?_ ?_
   rotate_left
   ·go_simp
    rfl
   refine hK.out _ _ ⟨((cell_far (p := ⟨Q05, _, none⟩) Q08.out _).trans (((cell_far (p := ⟨Q05, _, none⟩) Q08.out _).trans (hHeld.1)))), ((cell_far (p := ⟨Q05, _, none⟩) Q08.out _).trans (((cell_far (p := ⟨Q05, _, none⟩) Q08.out _).trans (hHeld.2.1)))), ((cell_far (p := ⟨Q05, _, none⟩) Q09.out _).trans (((cell_far (p := ⟨Q05, _, none⟩) Q09.out _).trans (hHeld.2.2.1)))), ((cell_far (p := ⟨Q05, _, none⟩) Q09.out _).trans (((cell_far (p := ⟨Q05, _, none⟩) Q09.out _).trans (hHeld.2.2.2))))⟩ (fun hHeld => ?_)
   clear hK K
   refine pure_ (i := 12) (N := some 9) (v := ?_) (a' := ?_) #[true, true, true, true, true, true, true, true, true, true, true, true, true] rfl rfl (any_of HT_.out (by kernel_rfl)) (fun _ _ _ h => h) (Or.inl ⟨by rfl, ?_⟩) ?_ ?_
   rotate_left
   ·intro w'
    go_simp
    with_reducible rfl
   rotate_left
   ·simp only [Act.put, List.setIfInBounds_toArray, List.set_cons_zero, List.set_cons_succ, i64_w, i32_w]
    rfl
   refine done_ (done_of HT_.out (by kernel_rfl)) ?_
   try go_wp2
   refine bodyPost_ret (results_ct rfl _ _ Q05 60 #[.slice Q10 t108.length Q11, .slice Q12 t111.length Q13] (0, 0) _ rfl (by (with_reducible repeat (first | refine bN ?_ _ | refine bD ?_ | refine bA ?_ _)); refine blk_put (cs := #[.slice Q10 t108.length Q11, .slice none 0 0]) ?_ 1 _ rfl; (with_reducible repeat (first | refine bN ?_ _ | refine bD ?_ | refine bA ?_ _)); refine blk_put (cs := #[.slice none 0 0, .slice none 0 0]) ?_ 0 _ rfl; (with_reducible repeat (first | refine bN ?_ _ | refine bD ?_ | refine bA ?_ _)); exact Q04.out) Try.underlying60 rfl (by kernel_rfl)) rfl ?_
   exact ⟨_, _, by first | rfl | (simp [errW_none, errW_some] <;> rfl) | (simp [*, errW_none, errW_some] <;> rfl), by (with_reducible repeat (first | apply rA | apply rN | apply rD)); exact Kd.R_mono (Kd.R_far (p := ⟨Q05, 1, none⟩) (Kd.R_far (p := ⟨Q05, 0, none⟩) (Kd.R_types Q0z.out Q04.out (by decide)) (fun _ hk => hk.2) (.slice Q10 t108.length Q11)) (fun _ hk => hk.2) (.slice Q12 t111.length Q13)) (fun _ hk => hk.1.2), by (with_reducible repeat (first | apply rA | apply rN | apply rD)); exact Kd.R_mono (Kd.R_far (p := ⟨Q05, 1, none⟩) (Kd.R_far (p := ⟨Q05, 0, none⟩) (Kd.R_types Q19.out Q04.out (by decide)) (fun _ hk => hk.2) (.slice Q10 t108.length Q11)) (fun _ hk => hk.2) (.slice Q12 t111.length Q13)) (fun _ hk => hk.1.2), by repeat (first | (with_reducible first | exact HB.out | apply wA | apply wN | apply wD | refine below_set ?_ Q0i.out | refine below_set ?_ Q0j.out | refine below_set ?_ Q0m.out | refine below_set ?_ Q0r.out | refine below_set ?_ Q0y.out) | exact HB.out)⟩
  ·rw [if_neg c8] at H
   have c8b0 : (t107 == 0) = false := beq_eq_false_iff_ne.mpr c8
   have c8b1 : (t107 != 0) = true := bne_iff_ne.mpr c8
   simp only [Option.some.injEq, Prod.mk.injEq] at H
   obtain ⟨rfl, rfl, rfl⟩ := H
   go_enter Try.func32, Try.ntmps32
   go_wp2_with (first | ((with_reducible refine gate_dst (N := 4) rfl ?_); refine box_event ?hg (N := 4) ?hd (cs := #[.slice A0_0 l0_0.length c0_0, .slice A0_1 l0_1.length c0_1]) (t := 25) ?hr ?_; (case hd => rfl); (case hg => rfl); (case hr => first | (go_simp; done) | (go_simp; rfl)); intro Q06 hg w41 hbox hb; have Q00 := Aside0.mk (hbox); have Q14 := Aside0.mk ((by rw [hg]; exact (below_size hB) : w.heap.size ≤ Q06)); have Q0i := Aside0.mk ((by rw [hg]; exact (below_size hB) : w.heap.size ≤ Q06)); replace HB := uH HB hb; clear hb hbox hg) | ((with_reducible refine gate_dst (N := 5) rfl ?_); refine box_event ?hg (N := 5) ?hd (cs := #[.slice A1_0 l1_0.length c1_0, .slice A1_1 l1_1.length c1_1]) (t := 25) ?hr ?_; (case hd => rfl); (case hg => rfl); (case hr => first | (go_simp; done) | (go_simp; rfl)); intro Q07 hg w42 hbox hb; have Q01 := Aside0.mk (hbox); have Q15 := uS HB hg; have Q0j := uS HB hg; replace HB := uH HB hb; have Q0k := uL Q00 hg; have Q0l := uG Q00 hg; replace Q00 := uB Q00 hb; clear hb hbox hg) | ((with_reducible refine gate_dst (N := 6) rfl ?_); refine box_event ?hg (N := 6) ?hd (cs := #[.slice A2_0 l2_0.length c2_0, .slice A2_1 l2_1.length c2_1]) (t := 27) ?hr ?_; (case hd => rfl); (case hg => rfl); (case hr => first | (go_simp; done) | (go_simp; rfl)); intro Q0a hg w43 hbox hb; have Q02 := Aside0.mk (hbox); have Q16 := uS HB hg; have Q0m := uS HB hg; replace HB := uH HB hb; have Q0n := uL Q00 hg; have Q0o := uG Q00 hg; replace Q00 := uB Q00 hb; have Q0p := uL Q01 hg; have Q0q := uG Q01 hg; replace Q01 := uB Q01 hb; clear hb hbox hg) | ((with_reducible refine gate_dst (N := 7) rfl ?_); refine box_event ?hg (N := 7) ?hd (cs := #[.slice A3_0 l3_0.length c3_0, .slice A3_1 l3_1.length c3_1]) (t := 27) ?hr ?_; (case hd => rfl); (case hg => rfl); (case hr => first | (go_simp; done) | (go_simp; rfl)); intro Q0b hg w44 hbox hb; have Q03 := Aside0.mk (hbox); have Q17 := uS HB hg; have Q0r := uS HB hg; replace HB := uH HB hb; have Q0s := uL Q00 hg; have Q0t := uG Q00 hg; replace Q00 := uB Q00 hb; have Q0u := uL Q01 hg; have Q0v := uG Q01 hg; replace Q01 := uB Q01 hb; have Q0w := uL Q02 hg; have Q0x := uG Q02 hg; replace Q02 := uB Q02 hb; clear hb hbox hg) | ((with_reducible refine gate_dst (N := 8) rfl ?_); refine box_event ?hg (N := 8) ?hd (cs := #[.slice none 0 0, .slice none 0 0]) (t := 60) ?hr ?_; (case hd => rfl); (case hg => rfl); (case hr => first | (go_simp; done) | (go_simp; rfl)); intro Q05 hg w45 hbox hb; have Q04 := Aside0.mk (hbox); have Q18 := uS HB hg; have Q0y := uS HB hg; replace HB := uH HB hb; have Q0c := uL Q00 hg; have Q0d := uG Q00 hg; replace Q00 := uB Q00 hb; have Q0e := uL Q01 hg; have Q0f := uG Q01 hg; replace Q01 := uB Q01 hb; have Q08 := uL Q02 hg; have Q0g := uG Q02 hg; replace Q02 := uB Q02 hb; have Q09 := uL Q03 hg; have Q0h := uG Q03 hg; replace Q03 := uB Q03 hb; clear hb hbox hg; have Q34 := Q0k.out; have Q35 := Q0l.out; have Q36 := Q0n.out; have Q37 := Q0o.out; have Q38 := Q0s.out; have Q39 := Q0t.out; have Q3a := Q0c.out; have Q3b := Q0d.out; have Q3c : w45.cell? ⟨Q06, 0, none⟩ = some (.slice A0_0 l0_0.length c0_0) := (blk_cell Q00.out 0).trans rfl; have Q3d : w45.cell? ⟨Q06, 1, none⟩ = some (.slice A0_1 l0_1.length c0_1) := (blk_cell Q00.out 1).trans rfl; have Q3e := blk_frozen Q00.out 0; have Q3f := blk_frozen Q00.out 1; have Q3g := Q0p.out; have Q3h := Q0q.out; have Q3i := Q0u.out; have Q3j := Q0v.out; have Q3k := Q0e.out; have Q3l := Q0f.out; have Q3m : w45.cell? ⟨Q07, 0, none⟩ = some (.slice A1_0 l1_0.length c1_0) := (blk_cell Q01.out 0).trans rfl; have Q3n : w45.cell? ⟨Q07, 1, none⟩ = some (.slice A1_1 l1_1.length c1_1) := (blk_cell Q01.out 1).trans rfl; have Q3o := blk_frozen Q01.out 0; have Q3p := blk_frozen Q01.out 1; have Q3q := Q0w.out; have Q3r := Q0x.out; have Q3s := Q08.out; have Q3t := Q0g.out; have Q3u : w45.cell? ⟨Q0a, 0, none⟩ = some (.slice A2_0 l2_0.length c2_0) := (blk_cell Q02.out 0).trans rfl; have Q3v : w45.cell? ⟨Q0a, 1, none⟩ = some (.slice A2_1 l2_1.length c2_1) := (blk_cell Q02.out 1).trans rfl; have Q3w := blk_frozen Q02.out 0; have Q3x := blk_frozen Q02.out 1) | ((with_reducible refine gate_callee (f := 44) rfl ?_); refine goesL_ (some 15) rfl rfl Try.func44 (by kernel_rfl) rfl #[.agg #[.slice A0_0 l0_0.length c0_0, .slice A0_1 l0_1.length c0_1], .agg #[.slice A1_0 l1_0.length c1_0, .slice A1_1 l1_1.length c1_1], .agg #[.slice A2_0 l2_0.length c2_0, .slice A2_1 l2_1.length c2_1]] rfl aM ?_; (with_reducible refine (scarfjointref06_Valid.calls _ _ l0_0 _ _ l0_1 _ _ l1_0 _ _ l1_1 _ _ l2_0 _ _ l2_1 t106 _ ?side1 ?side2 ?side3 ?side4 ?side5 ?side6 ?side7 ?side8 ?side9 ?side10 ?side11 ?side12 A5.out).mono ?_); (case side1 => repeat (first | exact (cB HR0_0.out HB.out) | (with_reducible refine cA ?_ _) | (with_reducible refine cN ?_ _) | (with_reducible refine cD ?_))); (case side2 => exact HC0_0.out); (case side3 => repeat (first | exact (cB HR0_1.out HB.out) | (with_reducible refine cA ?_ _) | (with_reducible refine cN ?_ _) | (with_reducible refine cD ?_))); (case side4 => exact HC0_1.out); (case side5 => repeat (first | exact (cB HR1_0.out HB.out) | (with_reducible refine cA ?_ _) | (with_reducible refine cN ?_ _) | (with_reducible refine cD ?_))); (case side6 => exact HC1_0.out); (case side7 => repeat (first | exact (cB HR1_1.out HB.out) | (with_reducible refine cA ?_ _) | (with_reducible refine cN ?_ _) | (with_reducible refine cD ?_))); (case side8 => exact HC1_1.out); (case side9 => repeat (first | exact (cB HR2_0.out HB.out) | (with_reducible refine cA ?_ _) | (with_reducible refine cN ?_ _) | (with_reducible refine cD ?_))); (case side10 => exact HC2_0.out); (case side11 => repeat (first | exact (cB HR2_1.out HB.out) | (with_reducible refine cA ?_ _) | (with_reducible refine cN ?_ _) | (with_reducible refine cD ?_))); (case side12 => exact HC2_1.out); rintro e w58 ⟨rfl, hb⟩; refine ⟨_, rfl, ?_⟩; replace Q00 := uB Q00 hb; replace Q01 := uB Q01 hb; replace Q02 := uB Q02 hb; replace Q03 := uB Q03 hb; replace Q04 := uB Q04 hb; replace HB := uH HB hb; (try clear hb); (try clear hb2); (try clear hk); (try clear hi); have Q3y : w58.cell? ⟨Q06, 0, none⟩ = some (.slice A0_0 l0_0.length c0_0) := (blk_cell Q00.out 0).trans rfl; have Q3z : w58.cell? ⟨Q06, 1, none⟩ = some (.slice A0_1 l0_1.length c0_1) := (blk_cell Q00.out 1).trans rfl; have Q40 := blk_frozen Q00.out 0; have Q41 := blk_frozen Q00.out 1; have Q42 : w58.cell? ⟨Q07, 0, none⟩ = some (.slice A1_0 l1_0.length c1_0) := (blk_cell Q01.out 0).trans rfl; have Q43 : w58.cell? ⟨Q07, 1, none⟩ = some (.slice A1_1 l1_1.length c1_1) := (blk_cell Q01.out 1).trans rfl; have Q44 := blk_frozen Q01.out 0; have Q45 := blk_frozen Q01.out 1; have Q46 := Q09.out; have Q47 := Q0h.out; have Q48 : w58.cell? ⟨Q0b, 0, none⟩ = some (.slice A3_0 l3_0.length c3_0) := (blk_cell Q03.out 0).trans rfl; have Q49 : w58.cell? ⟨Q0b, 1, none⟩ = some (.slice A3_1 l3_1.length c3_1) := (blk_cell Q03.out 1).trans rfl; have Q4a := blk_frozen Q03.out 0; have Q4b := blk_frozen Q03.out 1) | ((with_reducible refine gate_callee (f := 44) rfl ?_); refine goesL_ (some 23) rfl rfl Try.func44 (by kernel_rfl) rfl #[.agg #[.slice A0_0 l0_0.length c0_0, .slice A0_1 l0_1.length c0_1], .agg #[.slice A1_0 l1_0.length c1_0, .slice A1_1 l1_1.length c1_1], .agg #[.slice A3_0 l3_0.length c3_0, .slice A3_1 l3_1.length c3_1]] rfl aM ?_; (with_reducible refine (scarfjointref06_Valid.calls _ _ l0_0 _ _ l0_1 _ _ l1_0 _ _ l1_1 _ _ l3_0 _ _ l3_1 t107 _ ?side1 ?side2 ?side3 ?side4 ?side5 ?side6 ?side7 ?side8 ?side9 ?side10 ?side11 ?side12 A7.out).mono ?_); (case side1 => repeat (first | exact (cB HR0_0.out HB.out) | (with_reducible refine cA ?_ _) | (with_reducible refine cN ?_ _) | (with_reducible refine cD ?_))); (case side2 => exact HC0_0.out); (case side3 => repeat (first | exact (cB HR0_1.out HB.out) | (with_reducible refine cA ?_ _) | (with_reducible refine cN ?_ _) | (with_reducible refine cD ?_))); (case side4 => exact HC0_1.out); (case side5 => repeat (first | exact (cB HR1_0.out HB.out) | (with_reducible refine cA ?_ _) | (with_reducible refine cN ?_ _) | (with_reducible refine cD ?_))); (case side6 => exact HC1_0.out); (case side7 => repeat (first | exact (cB HR1_1.out HB.out) | (with_reducible refine cA ?_ _) | (with_reducible refine cN ?_ _) | (with_reducible refine cD ?_))); (case side8 => exact HC1_1.out); (case side9 => repeat (first | exact (cB HR3_0.out HB.out) | (with_reducible refine cA ?_ _) | (with_reducible refine cN ?_ _) | (with_reducible refine cD ?_))); (case side10 => exact HC3_0.out); (case side11 => repeat (first | exact (cB HR3_1.out HB.out) | (with_reducible refine cA ?_ _) | (with_reducible refine cN ?_ _) | (with_reducible refine cD ?_))); (case side12 => exact HC3_1.out); rintro e w63 ⟨rfl, hb⟩; refine ⟨_, rfl, ?_⟩; replace Q00 := uB Q00 hb; replace Q01 := uB Q01 hb; replace Q02 := uB Q02 hb; replace Q03 := uB Q03 hb; replace Q04 := uB Q04 hb; replace HB := uH HB hb; (try clear hb); (try clear hb2); (try clear hk); (try clear hi); have Q4c : w63.cell? ⟨Q05, 0, none⟩ = some (.slice none 0 0) := (blk_cell Q04.out 0).trans rfl; have Q4d : w63.cell? ⟨Q05, 1, none⟩ = some (.slice none 0 0) := (blk_cell Q04.out 1).trans rfl; have Q4e := blk_frozen Q04.out 0; have Q4f := blk_frozen Q04.out 1))
   refine bodyPost_ret (results_ct rfl _ _ Q05 60 #[.slice none 0 0, .slice none 0 0] (0, 0) _ rfl (by (with_reducible repeat (first | refine bN ?_ _ | refine bD ?_ | refine bA ?_ _)); refine blk_put (cs := #[.slice none 0 0, .slice none 0 0]) ?_ 1 _ rfl; (with_reducible repeat (first | refine bN ?_ _ | refine bD ?_ | refine bA ?_ _)); refine blk_put (cs := #[.slice none 0 0, .slice none 0 0]) ?_ 0 _ rfl; (with_reducible repeat (first | refine bN ?_ _ | refine bD ?_ | refine bA ?_ _)); exact Q04.out) Try.underlying60 rfl (by kernel_rfl)) rfl ?_
   exact ⟨_, _, by first | rfl | (simp [errW_none, errW_some] <;> rfl) | (simp [*, errW_none, errW_some] <;> rfl), by first | exact Kd.R_nil _ _ _ _ _ | exact Kd.N_nil _ _ _ _ _ | exact Kd.V_nil _ _ _ _ _ | exact Kd.Q_nil _ _ _ _ _ | exact Kd.S_nil _ _ _ _ _, by first | exact Kd.R_nil _ _ _ _ _ | exact Kd.N_nil _ _ _ _ _ | exact Kd.V_nil _ _ _ _ _ | exact Kd.Q_nil _ _ _ _ _ | exact Kd.S_nil _ _ _ _ _, by repeat (first | (with_reducible first | exact HB.out | apply wA | apply wN | apply wD | refine below_set ?_ Q0i.out | refine below_set ?_ Q0j.out | refine below_set ?_ Q0m.out | refine below_set ?_ Q0r.out | refine below_set ?_ Q0y.out) | exact HB.out)⟩
 ·rw [if_neg c6] at H
  have c6b0 : (t106 == 0) = false := beq_eq_false_iff_ne.mpr c6
  have c6b1 : (t106 != 0) = true := bne_iff_ne.mpr c6
  simp only [Option.some.injEq, Prod.mk.injEq] at H
  obtain ⟨rfl, rfl, rfl⟩ := H
  go_enter Try.func32, Try.ntmps32
  go_wp2_with (first | ((with_reducible refine gate_dst (N := 4) rfl ?_); refine box_event ?hg (N := 4) ?hd (cs := #[.slice A0_0 l0_0.length c0_0, .slice A0_1 l0_1.length c0_1]) (t := 25) ?hr ?_; (case hd => rfl); (case hg => rfl); (case hr => first | (go_simp; done) | (go_simp; rfl)); intro Q06 hg w65 hbox hb; have Q00 := Aside0.mk (hbox); have Q14 := Aside0.mk ((by rw [hg]; exact (below_size hB) : w.heap.size ≤ Q06)); have Q0i := Aside0.mk ((by rw [hg]; exact (below_size hB) : w.heap.size ≤ Q06)); replace HB := uH HB hb; clear hb hbox hg) | ((with_reducible refine gate_dst (N := 5) rfl ?_); refine box_event ?hg (N := 5) ?hd (cs := #[.slice A1_0 l1_0.length c1_0, .slice A1_1 l1_1.length c1_1]) (t := 25) ?hr ?_; (case hd => rfl); (case hg => rfl); (case hr => first | (go_simp; done) | (go_simp; rfl)); intro Q07 hg w66 hbox hb; have Q01 := Aside0.mk (hbox); have Q15 := uS HB hg; have Q0j := uS HB hg; replace HB := uH HB hb; have Q0k := uL Q00 hg; have Q0l := uG Q00 hg; replace Q00 := uB Q00 hb; clear hb hbox hg) | ((with_reducible refine gate_dst (N := 6) rfl ?_); refine box_event ?hg (N := 6) ?hd (cs := #[.slice A2_0 l2_0.length c2_0, .slice A2_1 l2_1.length c2_1]) (t := 27) ?hr ?_; (case hd => rfl); (case hg => rfl); (case hr => first | (go_simp; done) | (go_simp; rfl)); intro Q0a hg w67 hbox hb; have Q02 := Aside0.mk (hbox); have Q16 := uS HB hg; have Q0m := uS HB hg; replace HB := uH HB hb; have Q0n := uL Q00 hg; have Q0o := uG Q00 hg; replace Q00 := uB Q00 hb; have Q0p := uL Q01 hg; have Q0q := uG Q01 hg; replace Q01 := uB Q01 hb; clear hb hbox hg) | ((with_reducible refine gate_dst (N := 7) rfl ?_); refine box_event ?hg (N := 7) ?hd (cs := #[.slice A3_0 l3_0.length c3_0, .slice A3_1 l3_1.length c3_1]) (t := 27) ?hr ?_; (case hd => rfl); (case hg => rfl); (case hr => first | (go_simp; done) | (go_simp; rfl)); intro Q0b hg w68 hbox hb; have Q03 := Aside0.mk (hbox); have Q17 := uS HB hg; have Q0r := uS HB hg; replace HB := uH HB hb; have Q0s := uL Q00 hg; have Q0t := uG Q00 hg; replace Q00 := uB Q00 hb; have Q0u := uL Q01 hg; have Q0v := uG Q01 hg; replace Q01 := uB Q01 hb; have Q0w := uL Q02 hg; have Q0x := uG Q02 hg; replace Q02 := uB Q02 hb; clear hb hbox hg) | ((with_reducible refine gate_dst (N := 8) rfl ?_); refine box_event ?hg (N := 8) ?hd (cs := #[.slice none 0 0, .slice none 0 0]) (t := 60) ?hr ?_; (case hd => rfl); (case hg => rfl); (case hr => first | (go_simp; done) | (go_simp; rfl)); intro Q05 hg w69 hbox hb; have Q04 := Aside0.mk (hbox); have Q18 := uS HB hg; have Q0y := uS HB hg; replace HB := uH HB hb; have Q0c := uL Q00 hg; have Q0d := uG Q00 hg; replace Q00 := uB Q00 hb; have Q0e := uL Q01 hg; have Q0f := uG Q01 hg; replace Q01 := uB Q01 hb; have Q08 := uL Q02 hg; have Q0g := uG Q02 hg; replace Q02 := uB Q02 hb; have Q09 := uL Q03 hg; have Q0h := uG Q03 hg; replace Q03 := uB Q03 hb; clear hb hbox hg; have Q4g := Q0k.out; have Q4h := Q0l.out; have Q4i := Q0n.out; have Q4j := Q0o.out; have Q4k := Q0s.out; have Q4l := Q0t.out; have Q4m := Q0c.out; have Q4n := Q0d.out; have Q4o : w69.cell? ⟨Q06, 0, none⟩ = some (.slice A0_0 l0_0.length c0_0) := (blk_cell Q00.out 0).trans rfl; have Q4p : w69.cell? ⟨Q06, 1, none⟩ = some (.slice A0_1 l0_1.length c0_1) := (blk_cell Q00.out 1).trans rfl; have Q4q := blk_frozen Q00.out 0; have Q4r := blk_frozen Q00.out 1; have Q4s := Q0p.out; have Q4t := Q0q.out; have Q4u := Q0u.out; have Q4v := Q0v.out; have Q4w := Q0e.out; have Q4x := Q0f.out; have Q4y : w69.cell? ⟨Q07, 0, none⟩ = some (.slice A1_0 l1_0.length c1_0) := (blk_cell Q01.out 0).trans rfl; have Q4z : w69.cell? ⟨Q07, 1, none⟩ = some (.slice A1_1 l1_1.length c1_1) := (blk_cell Q01.out 1).trans rfl; have Q50 := blk_frozen Q01.out 0; have Q51 := blk_frozen Q01.out 1; have Q52 := Q0w.out; have Q53 := Q0x.out; have Q54 := Q08.out; have Q55 := Q0g.out; have Q56 : w69.cell? ⟨Q0a, 0, none⟩ = some (.slice A2_0 l2_0.length c2_0) := (blk_cell Q02.out 0).trans rfl; have Q57 : w69.cell? ⟨Q0a, 1, none⟩ = some (.slice A2_1 l2_1.length c2_1) := (blk_cell Q02.out 1).trans rfl; have Q58 := blk_frozen Q02.out 0; have Q59 := blk_frozen Q02.out 1) | ((with_reducible refine gate_callee (f := 44) rfl ?_); refine goesL_ (some 15) rfl rfl Try.func44 (by kernel_rfl) rfl #[.agg #[.slice A0_0 l0_0.length c0_0, .slice A0_1 l0_1.length c0_1], .agg #[.slice A1_0 l1_0.length c1_0, .slice A1_1 l1_1.length c1_1], .agg #[.slice A2_0 l2_0.length c2_0, .slice A2_1 l2_1.length c2_1]] rfl aM ?_; (with_reducible refine (scarfjointref06_Valid.calls _ _ l0_0 _ _ l0_1 _ _ l1_0 _ _ l1_1 _ _ l2_0 _ _ l2_1 t106 _ ?side1 ?side2 ?side3 ?side4 ?side5 ?side6 ?side7 ?side8 ?side9 ?side10 ?side11 ?side12 A5.out).mono ?_); (case side1 => repeat (first | exact (cB HR0_0.out HB.out) | (with_reducible refine cA ?_ _) | (with_reducible refine cN ?_ _) | (with_reducible refine cD ?_))); (case side2 => exact HC0_0.out); (case side3 => repeat (first | exact (cB HR0_1.out HB.out) | (with_reducible refine cA ?_ _) | (with_reducible refine cN ?_ _) | (with_reducible refine cD ?_))); (case side4 => exact HC0_1.out); (case side5 => repeat (first | exact (cB HR1_0.out HB.out) | (with_reducible refine cA ?_ _) | (with_reducible refine cN ?_ _) | (with_reducible refine cD ?_))); (case side6 => exact HC1_0.out); (case side7 => repeat (first | exact (cB HR1_1.out HB.out) | (with_reducible refine cA ?_ _) | (with_reducible refine cN ?_ _) | (with_reducible refine cD ?_))); (case side8 => exact HC1_1.out); (case side9 => repeat (first | exact (cB HR2_0.out HB.out) | (with_reducible refine cA ?_ _) | (with_reducible refine cN ?_ _) | (with_reducible refine cD ?_))); (case side10 => exact HC2_0.out); (case side11 => repeat (first | exact (cB HR2_1.out HB.out) | (with_reducible refine cA ?_ _) | (with_reducible refine cN ?_ _) | (with_reducible refine cD ?_))); (case side12 => exact HC2_1.out); rintro e w82 ⟨rfl, hb⟩; refine ⟨_, rfl, ?_⟩; replace Q00 := uB Q00 hb; replace Q01 := uB Q01 hb; replace Q02 := uB Q02 hb; replace Q03 := uB Q03 hb; replace Q04 := uB Q04 hb; replace HB := uH HB hb; (try clear hb); (try clear hb2); (try clear hk); (try clear hi); have Q5a := Q0h.out; have Q5b := Q09.out; have Q5c : w82.cell? ⟨Q05, 0, none⟩ = some (.slice none 0 0) := (blk_cell Q04.out 0).trans rfl; have Q5d : w82.cell? ⟨Q05, 1, none⟩ = some (.slice none 0 0) := (blk_cell Q04.out 1).trans rfl; have Q5e := blk_frozen Q04.out 0; have Q5f := blk_frozen Q04.out 1))
  refine bodyPost_ret (results_ct rfl _ _ Q05 60 #[.slice none 0 0, .slice none 0 0] (0, 0) _ rfl (by (with_reducible repeat (first | refine bN ?_ _ | refine bD ?_ | refine bA ?_ _)); refine blk_put (cs := #[.slice none 0 0, .slice none 0 0]) ?_ 1 _ rfl; (with_reducible repeat (first | refine bN ?_ _ | refine bD ?_ | refine bA ?_ _)); refine blk_put (cs := #[.slice none 0 0, .slice none 0 0]) ?_ 0 _ rfl; (with_reducible repeat (first | refine bN ?_ _ | refine bD ?_ | refine bA ?_ _)); exact Q04.out) Try.underlying60 rfl (by kernel_rfl)) rfl ?_
  exact ⟨_, _, by first | rfl | (simp [errW_none, errW_some] <;> rfl) | (simp [*, errW_none, errW_some] <;> rfl), by first | exact Kd.R_nil _ _ _ _ _ | exact Kd.N_nil _ _ _ _ _ | exact Kd.V_nil _ _ _ _ _ | exact Kd.Q_nil _ _ _ _ _ | exact Kd.S_nil _ _ _ _ _, by first | exact Kd.R_nil _ _ _ _ _ | exact Kd.N_nil _ _ _ _ _ | exact Kd.V_nil _ _ _ _ _ | exact Kd.Q_nil _ _ _ _ _ | exact Kd.S_nil _ _ _ _ _, by repeat (first | (with_reducible first | exact HB.out | apply wA | apply wN | apply wD | refine below_set ?_ Q0i.out | refine below_set ?_ Q0j.out | refine below_set ?_ Q0m.out | refine below_set ?_ Q0r.out | refine below_set ?_ Q0y.out) | exact HB.out)⟩
end Go.Proofs.Ytillofiphkmjjaa.X

namespace Go.Proofs.Ytillofiphkmjjaa.X
open Go.RowKit Go.Proofs.YtillofiphkmjjaaW.PrintWords Go.Proofs.YtillofiphkmjjaaW.PrintLast Go.Proofs.YtillofiphkmjjaaW.PrintMore
open Go.Proofs.YtillofiphkmjjaaW.PrintWords renaming blk_drewN → bN, blk_drew → bD, blk_alloc → bA, below_alloc → wA, pw_below_drewN → wN, below_drew1 → wD, blk_below → bB, below_step → wS, blk_at → bT, blk_grown → bG
open Go.Proofs.YtillofiphkmjjaaW.PrintWords.Kd renaming R_alloc → rA, R_drewN → rN, R_drew → rD, R_below → rB, R_grown → rG, C_below → cB, C_alloc → cA, C_drewN → cN, C_drew → cD
attribute [local go_sem] max2_int min2_int max_two min_two max_three min_three max_four min_four
set_option linter.unusedVariables false
set_option linter.unusedSimpArgs false
/-! ### scarfjointref11_equal: function 67 -/
mutual
def scarfjointref11_equal.l0 : Nat → List Int → List (S79) → Int → Option ((List (S79)))
 | 0, _, _, _ => none
 | k + 1, x0, x3, x4 => if x4 < (x0.length : Int) then (scarfjointref11_equal.l1 k x0 x3 x4 (wrap64 (x4 + 1))) else (some x3)
def scarfjointref11_equal.l1 : Nat → List Int → List (S79) → Int → Int → Option ((List (S79)))
 | 0, _, _, _, _ => none
 | k + 1, x0, x3, x4, x5 => if x5 < (x0.length : Int) then (if 0 ≤ x4 then (if x4 < (x0.length : Int) then (if 0 ≤ x5 then (if (rd x0 x4) = (rd x0 x5) then (if x3.length < 8796093022208 then (scarfjointref11_equal.l1 k x0 (x3 ++ [(⟨x4, x5⟩ : S79)]) x4 (wrap64 (x5 + 1))) else (none)) else (scarfjointref11_equal.l1 k x0 x3 x4 (wrap64 (x5 + 1)))) else (none)) else (none)) else (none)) else (scarfjointref11_equal.l0 k x0 x3 (wrap64 (x4 + 1)))
end
def scarfjointref11_equal.f (k : Nat) (l0 : List Int) : Option ((List (S79))) := scarfjointref11_equal.l0 k l0 ([] : List (S79)) 0
theorem scarfjointref11_equal.mono_l : ∀ k, (∀ y0 y1 y2, LeO (scarfjointref11_equal.l0 k y0 y1 y2) (scarfjointref11_equal.l0 (k + 1) y0 y1 y2)) ∧ (∀ y0 y1 y2 y3, LeO (scarfjointref11_equal.l1 k y0 y1 y2 y3) (scarfjointref11_equal.l1 (k + 1) y0 y1 y2 y3))
 | 0 => ⟨fun _ _ _ r h => by simp [scarfjointref11_equal.l0] at h, fun _ _ _ _ r h => by simp [scarfjointref11_equal.l1] at h⟩
 | k + 1 => by
  obtain ⟨ih0, ih1⟩ := scarfjointref11_equal.mono_l k
  refine ⟨?_, ?_⟩
  ·intro y0 y1 y2
   unfold scarfjointref11_equal.l0
   repeat' first
   | (with_reducible exact ih0 _ _ _)
   | (with_reducible exact ih1 _ _ _ _)
   | (with_reducible exact LeO.refl _)
   | (with_reducible exact LeO.none _)
   | (with_reducible refine LeO.ite ?_ ?_)
   | (with_reducible refine LeO.bind ?_ (fun _ => ?_))
   | exact ih0 _ _ _
   | exact ih1 _ _ _ _
   | exact LeO.none _
   | refine LeO.ite ?_ ?_
   | refine LeO.bind ?_ (fun _ => ?_)
  ·intro y0 y1 y2 y3
   unfold scarfjointref11_equal.l1
   repeat' first
   | (with_reducible exact ih0 _ _ _)
   | (with_reducible exact ih1 _ _ _ _)
   | (with_reducible exact LeO.refl _)
   | (with_reducible exact LeO.none _)
   | (with_reducible refine LeO.ite ?_ ?_)
   | (with_reducible refine LeO.bind ?_ (fun _ => ?_))
   | exact ih0 _ _ _
   | exact ih1 _ _ _ _
   | exact LeO.none _
   | refine LeO.ite ?_ ?_
   | refine LeO.bind ?_ (fun _ => ?_)
theorem scarfjointref11_equal.mono : ∀ a0 k, LeO (scarfjointref11_equal.f k a0) (scarfjointref11_equal.f (k + 1) a0) := by
 intro a0 k
 obtain ⟨ih0, ih1⟩ := scarfjointref11_equal.mono_l k
 unfold scarfjointref11_equal.f
 repeat' first
   | (with_reducible exact ih0 _ _ _)
   | (with_reducible exact ih1 _ _ _ _)
   | (with_reducible exact LeO.refl _)
   | (with_reducible exact LeO.none _)
   | (with_reducible refine LeO.ite ?_ ?_)
   | (with_reducible refine LeO.bind ?_ (fun _ => ?_))
   | exact ih0 _ _ _
   | exact ih1 _ _ _ _
   | exact LeO.none _
   | refine LeO.ite ?_ ?_
   | refine LeO.bind ?_ (fun _ => ?_)
set_option maxHeartbeats 8000000 in
set_option maxRecDepth 100000 in
theorem scarfjointref11_equal.calls (k : Nat) (A0 : Option Addr) (c0 : Nat) (l0 : List Int) (r : List (S79)) (w : World) (hr0 : Kd.C (Kd.int .i64) w A0 l0.length l0) (hc0 : l0.length ≤ c0) (h : scarfjointref11_equal.f k l0 = some r) :
  Calls Try.prog 67 #[.slice A0 l0.length c0] w fun e w' => ∃ v0_ : Value, e = .returned (v0_) ∧ Kd.R k79 79 w' w.heap.size (fun _ => True) v0_ r ∧ Below w.heap.size w w' := by
 have hu79 := Try.underlying79
 have HR0 := Aside0.mk hr0
 have HC0 := Aside0.mk hc0
 clear hr0 hc0
 have HB := Aside0.mk (Below.refl w.heap.size w)
 have H : (scarfjointref11_equal.l0 k l0 ([] : List (S79)) 0) = some r := h
 clear h
 have H' := Aside0.mk H
 clear H
 go_enter Try.func67, Try.ntmps67
 go_wp2
 repeat (go_quiet (fail); try go_wp2)
 go_loopg [3, 4] k (fun kq v3 v4 w' => ∃ (x3_1 : List (S79)) (x4_1 : Int), v4 = .int .i64 x4_1 ∧ Aside0 (scarfjointref11_equal.l0 kq l0 x3_1 x4_1 = some r) ∧ Aside0 (kq ≤ k) ∧ Aside0 (Kd.R k79 79 w' w.heap.size (fun _ => True) v3 x3_1) ∧ Aside0 (Below w.heap.size w w'))
 case atStart => exact ⟨(([] : List (S79))), (0), rS, H', ⟨Nat.le_refl _⟩, ⟨by first | exact Kd.R_nil _ _ _ _ _ | exact Kd.N_nil _ _ _ _ _ | exact Kd.V_nil _ _ _ _ _ | exact Kd.Q_nil _ _ _ _ _ | exact Kd.S_nil _ _ _ _ _⟩, ⟨pH HB⟩⟩
 case round =>
  clear H'
  obtain ⟨x3_1, x4_1, rfl, HA, HK1, Q00, HB⟩ := hrel
  cases gk with
  | zero => exact absurd HA.out (by simp [scarfjointref11_equal.l0])
  | succ k1 =>
   have H := HA.out
   clear HA
   simp only [scarfjointref11_equal.l0] at H
   by_cases c2 : x4_1 < (l0.length : Int)
   ·rw [if_pos c2] at H
    have c2b0 : decide (x4_1 < (l0.length : Int)) = true := decide_eq_true c2
    clear c2
    have H' := Aside0.mk H
    clear H
    go_wp2
    repeat (go_quiet (fail); try go_wp2)
    go_loopg [3, 5] k1 (fun kq v3 v5 w' => ∃ (x3_2 : List (S79)) (x5_2 : Int), v5 = .int .i64 x5_2 ∧ Aside0 (scarfjointref11_equal.l1 kq l0 x3_2 x4_1 x5_2 = some r) ∧ Aside0 (kq ≤ k1) ∧ Aside0 (Kd.R k79 79 w' w.heap.size (fun _ => True) v3 x3_2) ∧ Aside0 (Below w.heap.size w w'))
    case atStart => exact ⟨(x3_1), (wrap64 (x4_1 + 1)), rS, H', ⟨Nat.le_refl _⟩, ⟨pR Q00⟩, ⟨pH HB⟩⟩
    case round =>
     clear H'
     try clear c2; try clear c2b0; try clear p2
     obtain ⟨x3_2, x5_2, rfl, HA, HK2, Q00, HB⟩ := hrel
     cases gk with
     | zero => exact absurd HA.out (by simp [scarfjointref11_equal.l1])
     | succ k2 =>
      have H := HA.out
      clear HA
      simp only [scarfjointref11_equal.l1] at H
      by_cases c3 : x5_2 < (l0.length : Int)
      ·rw [if_pos c3] at H
       have c3b0 : decide (x5_2 < (l0.length : Int)) = true := decide_eq_true c3
       clear c3
       by_cases c4 : 0 ≤ x4_1
       ·rw [if_pos c4] at H
        have c4b0 : decide (0 ≤ x4_1) = true := decide_eq_true c4
        clear c4
        by_cases c5 : x4_1 < (l0.length : Int)
        ·rw [if_pos c5] at H
         have c5b0 : decide (x4_1 < (l0.length : Int)) = true := decide_eq_true c5
         clear c5
         by_cases c6 : 0 ≤ x5_2
         ·rw [if_pos c6] at H
          have c6b0 : decide (0 ≤ x5_2) = true := decide_eq_true c6
          clear c6
          by_cases c7 : (rd l0 x4_1) = (rd l0 x5_2)
          ·rw [if_pos c7] at H
           have c7b0 : ((rd l0 x4_1) == (rd l0 x5_2)) = true := beq_iff_eq.mpr c7
           have c7b1 : ((rd l0 x4_1) != (rd l0 x5_2)) = false := bne_eq_false_iff_eq.mpr c7
           clear c7
           by_cases c8 : x3_2.length < 8796093022208
           ·rw [if_pos c8] at H
            have LMc8 := Aside0.mk c8
            clear c8
            obtain ⟨y103, hy103⟩ : ∃ y_ : List (S79), y_ = (x3_2 ++ [(⟨x4_1, x5_2⟩ : S79)]) := ⟨_, rfl⟩
            replace H : (scarfjointref11_equal.l1 k2 l0 y103 x4_1 (wrap64 (x5_2 + 1))) = some r := by first | (rw [hy103]; with_reducible exact H) | (have H2_ := (Option.bind_some _ _).symm.trans H; rw [hy103]; with_reducible exact H2_) | (have H2_ := (Option.bind_some _ _).symm.trans H; with_reducible exact H2_) | with_reducible exact H | (rw [hy103]; exact H) | exact H
            have Ny103 := Aside0.mk hy103
            clear hy103
            have H' := Aside0.mk H
            clear H
            have p101 : 0 ≤ (x4_1 : Int) := oT
            have q101 : x4_1 < (l0.length : Int) := oT
            obtain ⟨ad101, e101, hx101_0⟩ := Kd.at_int HR0.out x4_1 p101 q101
            cases e101
            replace hx101_0 := (HB.out.cell (World.block_lt_of_cell? w _ hx101_0)).trans hx101_0
            replace p101 := eq_true p101
            replace q101 := eq_true q101
            have p102 : 0 ≤ (x5_2 : Int) := oT
            have q102 : x5_2 < (l0.length : Int) := oT
            obtain ⟨ad102, e102, hx102_0⟩ := Kd.at_int HR0.out x5_2 p102 q102
            obtain rfl : ad101 = ad102 := (by injection e102)
            replace hx102_0 := (HB.out.cell (World.block_lt_of_cell? w _ hx102_0)).trans hx102_0
            replace p102 := eq_true p102
            replace q102 := eq_true q102
            iterate 3 (try (go_wp2_with (first | ((with_reducible refine gate_builtin (b := .append) (xs := #[.tmp 29, .tmp 33]) rfl ?_); at_builtin; refine Kd.R_append k79 (w0 := w) w.heap.size rfl (.tmp 29) (.tmp 33) 70 79 (.agg #[(.int .i64 0), (.int .i64 0)]) 16 rfl Try.underlying70 info79 rfl (by decide) (by omega) u3 x3_2 (⟨x4_1, x5_2⟩ : S79) [.int .i64 x4_1, .int .i64 x5_2] (fun _ => True) (fun _ => False) rfl rfl ?aP (fun _ hk => hk.elim) ?aF ?aO ?aB ?aS ?aL ?_; (case aP => exact k79_mkM _ _ _ (⟨x4_1, x5_2⟩ : S79)); (case aB => exact hB); (case aF => exact (fun _ _ => trivial)); (case aO => exact (pR Q00)); (case aS => exact (below_size hB)); (case aL => have := LMc8.out; omega); intro v104 w9 ho hb hg hat; rw [← Ny103.out] at ho; replace HB := Aside0.mk (hb); have Q01 := Aside0.mk (ho); clear Q00; clear ho hb hg hat))); try (go_quiet (fail)))
            go_roundg k2
            case measure => have := HK1.out; have := HK2.out; omega
            case rel => exact ⟨(y103), (wrap64 (x5_2 + 1)), rS, H', ⟨by have := HK1.out; have := HK2.out; omega⟩, ⟨pR Q01⟩, ⟨pH HB⟩⟩
           ·rw [if_neg c8] at H
            exact absurd H (by simp)
          ·rw [if_neg c7] at H
           have c7b0 : ((rd l0 x4_1) == (rd l0 x5_2)) = false := beq_eq_false_iff_ne.mpr c7
           have c7b1 : ((rd l0 x4_1) != (rd l0 x5_2)) = true := bne_iff_ne.mpr c7
           have H' := Aside0.mk H
           clear H
           have p101 : 0 ≤ (x4_1 : Int) := oT
           have q101 : x4_1 < (l0.length : Int) := oT
           obtain ⟨ad101, e101, hx101_0⟩ := Kd.at_int HR0.out x4_1 p101 q101
           cases e101
           replace hx101_0 := (HB.out.cell (World.block_lt_of_cell? w _ hx101_0)).trans hx101_0
           replace p101 := eq_true p101
           replace q101 := eq_true q101
           have p102 : 0 ≤ (x5_2 : Int) := oT
           have q102 : x5_2 < (l0.length : Int) := oT
           obtain ⟨ad102, e102, hx102_0⟩ := Kd.at_int HR0.out x5_2 p102 q102
           obtain rfl : ad101 = ad102 := (by injection e102)
           replace hx102_0 := (HB.out.cell (World.block_lt_of_cell? w _ hx102_0)).trans hx102_0
           replace p102 := eq_true p102
           replace q102 := eq_true q102
           go_wp2
           repeat (go_quiet (fail); try go_wp2)
           go_roundg k2
           case measure => have := HK1.out; have := HK2.out; omega
           case rel => exact ⟨(x3_2), (wrap64 (x5_2 + 1)), rS, H', ⟨by have := HK1.out; have := HK2.out; omega⟩, ⟨pR Q00⟩, ⟨pH HB⟩⟩
         ·rw [if_neg c6] at H
          exact absurd H (by simp)
        ·rw [if_neg c5] at H
         exact absurd H (by simp)
       ·rw [if_neg c4] at H
        exact absurd H (by simp)
      ·rw [if_neg c3] at H
       have c3b0 : decide (x5_2 < (l0.length : Int)) = false := decide_eq_false c3
       clear c3
       have H' := Aside0.mk H
       clear H
       go_wp2
       repeat (go_quiet (fail); try go_wp2)
       go_roundg k2
       case measure => have := HK1.out; have := HK2.out; omega
       case rel => exact ⟨(x3_2), (wrap64 (x4_1 + 1)), rS, H', ⟨by have := HK1.out; have := HK2.out; omega⟩, ⟨pR Q00⟩, ⟨pH HB⟩⟩
   ·rw [if_neg c2] at H
    have c2b0 : decide (x4_1 < (l0.length : Int)) = false := decide_eq_false c2
    clear c2
    obtain rfl := Option.some.inj H
    go_wp2
    repeat (go_quiet (fail); try go_wp2)
    go_ret
    exact ⟨_, by first | rfl | (simp [errW_none, errW_some] <;> rfl) | (simp [*, errW_none, errW_some] <;> rfl), by (with_reducible repeat (first | apply rA | apply rN | apply rD)); exact Q00.out, by repeat (first | (with_reducible first | exact HB.out | apply wA | apply wN | apply wD) | exact HB.out)⟩
end Go.Proofs.Ytillofiphkmjjaa.X

namespace Go.Proofs.Ytillofiphkmjjaa.X
open Go.RowKit Go.Proofs.YtillofiphkmjjaaW.PrintWords Go.Proofs.YtillofiphkmjjaaW.PrintLast Go.Proofs.YtillofiphkmjjaaW.PrintMore
open Go.Proofs.YtillofiphkmjjaaW.PrintWords renaming blk_drewN → bN, blk_drew → bD, blk_alloc → bA, below_alloc → wA, pw_below_drewN → wN, below_drew1 → wD, blk_below → bB, below_step → wS, blk_at → bT, blk_grown → bG
open Go.Proofs.YtillofiphkmjjaaW.PrintWords.Kd renaming R_alloc → rA, R_drewN → rN, R_drew → rD, R_below → rB, R_grown → rG, C_below → cB, C_alloc → cA, C_drewN → cN, C_drew → cD
attribute [local go_sem] max2_int min2_int max_two min_two max_three min_three max_four min_four
set_option linter.unusedVariables false
set_option linter.unusedSimpArgs false
/-! ### scarfjointref11_Kernel: function 34 -/
def scarfjointref11_Kernel.f (k : Nat) (l0_0 : List Int) (l0_1 : List (S94)) (l1_0 : List Int) (l1_1 : List (S94)) (l2_0 : List Int) (l2_1 : List Int) : Option ((List (S79)) × (List (S79)) × Int) := (scarfjointref06_Valid.f l0_0 l0_1 l1_0 l1_1 l2_0 l2_1).bind fun t104 => (if t104 = 0 then ((scarfjointref11_equal.f k l2_0).bind fun t105 => ((scarfjointref11_equal.f k l2_1).bind fun t108 => (some (t105, t108, 0)))) else (some (([] : List (S79)), ([] : List (S79)), t104)))
theorem scarfjointref11_Kernel.mono : ∀ a0 a1 a2 a3 a4 a5 k, LeO (scarfjointref11_Kernel.f k a0 a1 a2 a3 a4 a5) (scarfjointref11_Kernel.f (k + 1) a0 a1 a2 a3 a4 a5) := by
 intro a0 a1 a2 a3 a4 a5 k
 unfold scarfjointref11_Kernel.f
 repeat' first
   | (with_reducible exact scarfjointref11_equal.mono _ _)
   | (with_reducible exact LeO.refl _)
   | (with_reducible exact LeO.none _)
   | (with_reducible refine LeO.ite ?_ ?_)
   | (with_reducible refine LeO.bind ?_ (fun _ => ?_))
   | exact scarfjointref11_equal.mono _ _
   | exact LeO.none _
   | refine LeO.ite ?_ ?_
   | refine LeO.bind ?_ (fun _ => ?_)
def scarfjointref11_Kernel.T4 : Bool × List (List Nat × List Nat) := (true, [([], []), ([0], [0]), ([1], [1]), ([], []), ([3], [3]), ([4, 2], [4]), ([2, 5, 0, 1, 2], [2]), ([5, 6, 0, 1, 2, 3, 4, 5, 6], [5]), ([7, 0, 1, 2, 3, 4, 5, 6, 7], [])])
def scarfjointref11_Kernel.B4 : List Nat := [0, 1, 3, 0, 8, 31, 63, 127, 255]
theorem scarfjointref11_Kernel.tab4 : rtab .any (opsOf Try.f34 4) = scarfjointref11_Kernel.T4 := by kernel_rfl
theorem scarfjointref11_Kernel.bits4 : waitsOk scarfjointref11_Kernel.T4.2 scarfjointref11_Kernel.B4 = true := by kernel_rfl
set_option maxHeartbeats 8000000 in
set_option maxRecDepth 100000 in
theorem scarfjointref11_Kernel.calls (k : Nat) (A0_0 : Option Addr) (c0_0 : Nat) (l0_0 : List Int) (A0_1 : Option Addr) (c0_1 : Nat) (l0_1 : List (S94)) (A1_0 : Option Addr) (c1_0 : Nat) (l1_0 : List Int) (A1_1 : Option Addr) (c1_1 : Nat) (l1_1 : List (S94)) (A2_0 : Option Addr) (c2_0 : Nat) (l2_0 : List Int) (A2_1 : Option Addr) (c2_1 : Nat) (l2_1 : List Int) (r1 : List (S79)) (r2 : List (S79)) (r3 : Int) (w : World) (hr0_0 : Kd.C (Kd.int .i64) w A0_0 l0_0.length l0_0) (hc0_0 : l0_0.length ≤ c0_0) (hr0_1 : Kd.C k94 w A0_1 l0_1.length l0_1) (hc0_1 : l0_1.length ≤ c0_1) (hr1_0 : Kd.C (Kd.int .i64) w A1_0 l1_0.length l1_0) (hc1_0 : l1_0.length ≤ c1_0) (hr1_1 : Kd.C k94 w A1_1 l1_1.length l1_1) (hc1_1 : l1_1.length ≤ c1_1) (hr2_0 : Kd.C (Kd.int .i64) w A2_0 l2_0.length l2_0) (hc2_0 : l2_0.length ≤ c2_0) (hr2_1 : Kd.C (Kd.int .i64) w A2_1 l2_1.length l2_1) (hc2_1 : l2_1.length ≤ c2_1) (h : scarfjointref11_Kernel.f k l0_0 l0_1 l1_0 l1_1 l2_0 l2_1 = some (r1, r2, r3)) :
  Calls Try.prog 34 #[.agg #[.slice A0_0 l0_0.length c0_0, .slice A0_1 l0_1.length c0_1], .agg #[.slice A1_0 l1_0.length c1_0, .slice A1_1 l1_1.length c1_1], .agg #[.slice A2_0 l2_0.length c2_0, .slice A2_1 l2_1.length c2_1]] w fun e w' => ∃ v0_ v1_ : Value, e = .returned (.tuple #[v0_, v1_, .int .i64 r3]) ∧ Kd.R k79 79 w' w.heap.size (fun k_ => some k_ ≠ (v1_ : Value).ownBlock) v0_ r1 ∧ Kd.R k79 79 w' w.heap.size (fun k_ => some k_ ≠ (v0_ : Value).ownBlock) v1_ r2 ∧ Below w.heap.size w w' := by
 have hu25 := Try.underlying25
 have hu27 := Try.underlying27
 have HR0_0 := Aside0.mk hr0_0
 have HC0_0 := Aside0.mk hc0_0
 clear hr0_0 hc0_0
 have HR0_1 := Aside0.mk hr0_1
 have HC0_1 := Aside0.mk hc0_1
 clear hr0_1 hc0_1
 have HR1_0 := Aside0.mk hr1_0
 have HC1_0 := Aside0.mk hc1_0
 clear hr1_0 hc1_0
 have HR1_1 := Aside0.mk hr1_1
 have HC1_1 := Aside0.mk hc1_1
 clear hr1_1 hc1_1
 have HR2_0 := Aside0.mk hr2_0
 have HC2_0 := Aside0.mk hc2_0
 clear hr2_0 hc2_0
 have HR2_1 := Aside0.mk hr2_1
 have HC2_1 := Aside0.mk hc2_1
 clear hr2_1 hc2_1
 have HB := Aside0.mk (Below.refl w.heap.size w)
 have H : ((scarfjointref06_Valid.f l0_0 l0_1 l1_0 l1_1 l2_0 l2_1).bind fun t104 => (if t104 = 0 then ((scarfjointref11_equal.f k l2_0).bind fun t105 => ((scarfjointref11_equal.f k l2_1).bind fun t108 => (some (t105, t108, 0)))) else (some (([] : List (S79)), ([] : List (S79)), t104)))) = some (r1, r2, r3) := h
 clear h
 replace H := Option.bind_eq_some_iff.mp H
 obtain ⟨t104, A40, H⟩ := H
 replace H : (if t104 = 0 then ((scarfjointref11_equal.f k l2_0).bind fun t105 => ((scarfjointref11_equal.f k l2_1).bind fun t108 => (some (t105, t108, 0)))) else (some (([] : List (S79)), ([] : List (S79)), t104))) = some (r1, r2, r3) := H
 have A4 := Aside0.mk A40
 clear A40
 by_cases c5 : t104 = 0
 ·rw [if_pos c5] at H
  have c5b0 : (t104 == 0) = true := beq_iff_eq.mpr c5
  have c5b1 : (t104 != 0) = false := bne_eq_false_iff_eq.mpr c5
  clear c5
  replace H := Option.bind_eq_some_iff.mp H
  obtain ⟨t105, A60, H⟩ := H
  replace H : ((scarfjointref11_equal.f k l2_1).bind fun t108 => (some (t105, t108, 0))) = some (r1, r2, r3) := H
  have A6 := Aside0.mk A60
  clear A60
  replace H := Option.bind_eq_some_iff.mp H
  obtain ⟨t108, A70, H⟩ := H
  replace H : (some (t105, t108, 0)) = some (r1, r2, r3) := H
  have A7 := Aside0.mk A70
  clear A70
  simp only [Option.some.injEq, Prod.mk.injEq] at H
  obtain ⟨rfl, rfl, rfl⟩ := H
  go_enter Try.func34, Try.ntmps34
  try go_wp2_with (first | ((with_reducible refine gate_dst (N := 3) rfl ?_); refine box_event ?hg (N := 3) ?hd (cs := #[.slice A0_0 l0_0.length c0_0, .slice A0_1 l0_1.length c0_1]) (t := 25) ?hr ?_; (case hd => rfl); (case hg => rfl); (case hr => first | (go_simp; done) | (go_simp; rfl)); intro Q03 hg w8 hbox hb; have Q00 := Aside0.mk (hbox); have Q0g := Aside0.mk ((by rw [hg]; exact (below_size hB) : w.heap.size ≤ Q03)); have Q07 := Aside0.mk ((by rw [hg]; exact (below_size hB) : w.heap.size ≤ Q03)); replace HB := uH HB hb; clear hb hbox hg) | ((with_reducible refine gate_dst (N := 4) rfl ?_); refine box_event ?hg (N := 4) ?hd (cs := #[.slice A1_0 l1_0.length c1_0, .slice A1_1 l1_1.length c1_1]) (t := 25) ?hr ?_; (case hd => rfl); (case hg => rfl); (case hr => first | (go_simp; done) | (go_simp; rfl)); intro Q05 hg w9 hbox hb; have Q01 := Aside0.mk (hbox); have Q0h := uS HB hg; have Q08 := uS HB hg; replace HB := uH HB hb; have Q09 := uL Q00 hg; have Q0a := uG Q00 hg; replace Q00 := uB Q00 hb; clear hb hbox hg) | ((with_reducible refine gate_dst (N := 5) rfl ?_); refine box_event ?hg (N := 5) ?hd (cs := #[.slice A2_0 l2_0.length c2_0, .slice A2_1 l2_1.length c2_1]) (t := 27) ?hr ?_; (case hd => rfl); (case hg => rfl); (case hr => first | (go_simp; done) | (go_simp; rfl)); intro Q04 hg w10 hbox hb; have Q02 := Aside0.mk (hbox); have Q0i := uS HB hg; have Q0b := uS HB hg; replace HB := uH HB hb; have Q0c := uL Q00 hg; have Q0d := uG Q00 hg; replace Q00 := uB Q00 hb; have Q0e := uL Q01 hg; have Q0f := uG Q01 hg; replace Q01 := uB Q01 hb; clear hb hbox hg; have Q0k := Q09.out; have Q0l := Q0a.out; have Q0m := Q0c.out; have Q0n := Q0d.out; have Q0o : w10.cell? ⟨Q03, 0, none⟩ = some (.slice A0_0 l0_0.length c0_0) := (blk_cell Q00.out 0).trans rfl; have Q0p : w10.cell? ⟨Q03, 1, none⟩ = some (.slice A0_1 l0_1.length c0_1) := (blk_cell Q00.out 1).trans rfl; have Q0q := blk_frozen Q00.out 0; have Q0r := blk_frozen Q00.out 1; have Q0s := Q0e.out; have Q0t := Q0f.out; have Q0u : w10.cell? ⟨Q05, 0, none⟩ = some (.slice A1_0 l1_0.length c1_0) := (blk_cell Q01.out 0).trans rfl; have Q0v : w10.cell? ⟨Q05, 1, none⟩ = some (.slice A1_1 l1_1.length c1_1) := (blk_cell Q01.out 1).trans rfl; have Q0w := blk_frozen Q01.out 0; have Q0x := blk_frozen Q01.out 1; have Q0y : w10.cell? ⟨Q04, 0, none⟩ = some (.slice A2_0 l2_0.length c2_0) := (blk_cell Q02.out 0).trans rfl; have Q0z : w10.cell? ⟨Q04, 1, none⟩ = some (.slice A2_1 l2_1.length c2_1) := (blk_cell Q02.out 1).trans rfl; have Q10 := blk_frozen Q02.out 0; have Q11 := blk_frozen Q02.out 1) | ((with_reducible refine gate_callee (f := 44) rfl ?_); refine goesL_ (some 13) rfl rfl Try.func44 (by kernel_rfl) rfl #[.agg #[.slice A0_0 l0_0.length c0_0, .slice A0_1 l0_1.length c0_1], .agg #[.slice A1_0 l1_0.length c1_0, .slice A1_1 l1_1.length c1_1], .agg #[.slice A2_0 l2_0.length c2_0, .slice A2_1 l2_1.length c2_1]] rfl aM ?_; (with_reducible refine (scarfjointref06_Valid.calls _ _ l0_0 _ _ l0_1 _ _ l1_0 _ _ l1_1 _ _ l2_0 _ _ l2_1 t104 _ ?side1 ?side2 ?side3 ?side4 ?side5 ?side6 ?side7 ?side8 ?side9 ?side10 ?side11 ?side12 A4.out).mono ?_); (case side1 => repeat (first | exact (cB HR0_0.out HB.out) | (with_reducible refine cA ?_ _) | (with_reducible refine cN ?_ _) | (with_reducible refine cD ?_))); (case side2 => exact HC0_0.out); (case side3 => repeat (first | exact (cB HR0_1.out HB.out) | (with_reducible refine cA ?_ _) | (with_reducible refine cN ?_ _) | (with_reducible refine cD ?_))); (case side4 => exact HC0_1.out); (case side5 => repeat (first | exact (cB HR1_0.out HB.out) | (with_reducible refine cA ?_ _) | (with_reducible refine cN ?_ _) | (with_reducible refine cD ?_))); (case side6 => exact HC1_0.out); (case side7 => repeat (first | exact (cB HR1_1.out HB.out) | (with_reducible refine cA ?_ _) | (with_reducible refine cN ?_ _) | (with_reducible refine cD ?_))); (case side8 => exact HC1_1.out); (case side9 => repeat (first | exact (cB HR2_0.out HB.out) | (with_reducible refine cA ?_ _) | (with_reducible refine cN ?_ _) | (with_reducible refine cD ?_))); (case side10 => exact HC2_0.out); (case side11 => repeat (first | exact (cB HR2_1.out HB.out) | (with_reducible refine cA ?_ _) | (with_reducible refine cN ?_ _) | (with_reducible refine cD ?_))); (case side12 => exact HC2_1.out); rintro e w17 ⟨rfl, hb⟩; refine ⟨_, rfl, ?_⟩; replace Q00 := uB Q00 hb; replace Q01 := uB Q01 hb; replace Q02 := uB Q02 hb; replace HB := uH HB hb; (try clear hb); (try clear hb2); (try clear hk); (try clear hi)))
  replace Q00 := Aside0.mk (bD Q00.out)
  replace Q01 := Aside0.mk (bD Q01.out)
  replace Q02 := Aside0.mk (bD Q02.out)
  replace HB := Aside0.mk (wD HB.out)
  refine start_ (n := 9) (S := fun w' => w'.cell? ⟨Q04, 0, none⟩ = some (.slice A2_0 l2_0.length c2_0) ∧ w'.cell? ⟨Q04, 1, none⟩ = some (.slice A2_1 l2_1.length c2_1)) (ds := []) #[false, false, false, false, false, false, false, false, false] (by kernel_rfl) rfl rfl ⟨(blk_cell Q02.out 0).trans rfl, (blk_cell Q02.out 1).trans rfl⟩ (fun hHeld => ?_); refine with_tabW scarfjointref11_Kernel.tab4 scarfjointref11_Kernel.bits4 (fun HT_ HW_ => ?_)
  generalize w17.drew = w18 at Q00 Q01 Q02 HB hHeld ⊢
  refine pure_ (i := 0) (N := some 17) (v := ?_) (a' := ?_) #[true, false, false, false, false, false, false, false, false] rfl rfl (any_of HT_.out (by kernel_rfl)) (fun _ _ _ h => h) (Or.inl ⟨by rfl, ?_⟩) ?_ ?_
  rotate_left
  ·intro w'
   go_simp
   with_reducible rfl
  rotate_left
  ·simp only [Act.put, List.setIfInBounds_toArray, List.set_cons_zero, List.set_cons_succ, i64_w, i32_w]
   rfl
  refine pure_ (i := 3) (N := some 20) (v := ?_) (a' := ?_) #[true, false, false, true, false, false, false, false, false] rfl rfl (any_of HT_.out (by kernel_rfl)) (fun _ _ _ h => h) (Or.inl ⟨by rfl, ?_⟩) ?_ ?_
  rotate_left
  ·intro w'
   go_simp
   with_reducible rfl
  rotate_left
  ·simp only [Act.put, List.setIfInBounds_toArray, List.set_cons_zero, List.set_cons_succ, i64_w, i32_w]
   rfl
  refine take_ (i := 1) (N := some 18) (v := ?_) (a' := ?_) #[true, true, false, true, false, false, false, false, false] rfl rfl (take_ofW HT_.out HW_.out (by kernel_rfl)) (fun _ _ _ h => h) (Or.inl ⟨by rfl, ?_⟩) hHeld ?_ ?_
  rotate_left
  ·rintro w' ⟨s0, s1⟩
   go_simp
   with_reducible rfl
  rotate_left
  ·simp only [Act.put, List.setIfInBounds_toArray, List.set_cons_zero, List.set_cons_succ, i64_w, i32_w]
   rfl
  refine take_ (i := 4) (N := some 21) (v := ?_) (a' := ?_) #[true, true, false, true, true, false, false, false, false] rfl rfl (take_ofW HT_.out HW_.out (by kernel_rfl)) (fun _ _ _ h => h) (Or.inl ⟨by rfl, ?_⟩) hHeld ?_ ?_
  rotate_left
  ·rintro w' ⟨s0, s1⟩
   go_simp
   with_reducible rfl
  rotate_left
  ·simp only [Act.put, List.setIfInBounds_toArray, List.set_cons_zero, List.set_cons_succ, i64_w, i32_w]
   rfl
  refine one_ (i := 2) (N := some 19) #[true, true, true, true, true, false, false, false, false] rfl rfl (one_of HT_.out (by kernel_rfl)) (by decide) (fun K hK => ?_)
  refine goes_ Try.func67 (by kernel_rfl) rfl #[.slice A2_0 l2_0.length c2_0] (by rfl) rfl rfl aM ?_
  with_reducible refine (scarfjointref11_equal.calls k _ _ l2_0 t105 _ ?side1 ?side2 A6.out).mono ?_
  (case side1 => repeat (first | exact (cB HR2_0.out HB.out) | (with_reducible refine cA ?_ _) | (with_reducible refine cN ?_ _) | (with_reducible refine cD ?_)))
  (case side2 => exact HC2_0.out)
  rintro e w19 ⟨v106, rfl, ho0, hb⟩
  refine ⟨_, rfl, ?_⟩
  have Q06 := Aside0.mk (Kd.R_lower ho0 (below_size (pH HB)))
  replace Q00 := uB Q00 hb
  replace Q01 := uB Q01 hb
  replace Q02 := uB Q02 hb
  replace HB := uH HB hb
  (try clear hb)
  (try clear hb2)
  (try clear hk)
  (try clear hi)
  (try clear ho0)
  refine hK.out _ _ ⟨(blk_cell Q02.out 0).trans rfl, (blk_cell Q02.out 1).trans rfl⟩ (fun hHeld => ?_)
  clear hK K
  refine norm_ (a' := ?_) ?_ ?_
  rotate_left
  ·show Act.put _ (some 19) _ = _
   simp only [Act.put, List.setIfInBounds_toArray, List.set_cons_zero, List.set_cons_succ, i64_w, i32_w]
   rfl
  refine one_ (i := 5) (N := some 22) #[true, true, true, true, true, true, false, false, false] rfl rfl (one_of HT_.out (by kernel_rfl)) (by decide) (fun K hK => ?_)
  refine goes_ Try.func67 (by kernel_rfl) rfl #[.slice A2_1 l2_1.length c2_1] (by rfl) rfl rfl aM ?_
  with_reducible refine (scarfjointref11_equal.calls k _ _ l2_1 t108 _ ?side1 ?side2 A7.out).mono ?_
  (case side1 => repeat (first | exact (cB HR2_1.out HB.out) | (with_reducible refine cA ?_ _) | (with_reducible refine cN ?_ _) | (with_reducible refine cD ?_)))
  (case side2 => exact HC2_1.out)
  rintro e w20 ⟨v109, rfl, ho0, hb⟩
  refine ⟨_, rfl, ?_⟩
  have Q0j := Aside0.mk (Kd.R_lower (Kd.R_new' ho0 (Kd.R_lt (pR Q06))) (below_size (pH HB)))
  replace Q06 := eR Q06 (Kd.R_base ho0) hb
  replace Q00 := uB Q00 hb
  replace Q01 := uB Q01 hb
  replace Q02 := uB Q02 hb
  replace HB := uH HB hb
  (try clear hb)
  (try clear hb2)
  (try clear hk)
  (try clear hi)
  (try clear ho0)
  refine hK.out _ _ ⟨(blk_cell Q02.out 0).trans rfl, (blk_cell Q02.out 1).trans rfl⟩ (fun hHeld => ?_)
  clear hK K
  refine norm_ (a' := ?_) ?_ ?_
  rotate_left
  ·show Act.put _ (some 22) _ = _
   simp only [Act.put, List.setIfInBounds_toArray, List.set_cons_zero, List.set_cons_succ, i64_w, i32_w]
   rfl
  refine pure_ (i := 6) (N := some 6) (v := ?_) (a' := ?_) #[true, true, true, true, true, true, true, false, false] rfl rfl (any_of HT_.out (by kernel_rfl)) (fun _ _ _ h => h) (Or.inl ⟨by rfl, ?_⟩) ?_ ?_
  rotate_left
  ·intro w'
   go_simp
   with_reducible rfl
  rotate_left
  ·simp only [Act.put, List.setIfInBounds_toArray, List.set_cons_zero, List.set_cons_succ, i64_w, i32_w]
   rfl
  refine pure_ (i := 7) (N := some 7) (v := ?_) (a' := ?_) #[true, true, true, true, true, true, true, true, false] rfl rfl (any_of HT_.out (by kernel_rfl)) (fun _ _ _ h => h) (Or.inl ⟨by rfl, ?_⟩) ?_ ?_
  rotate_left
  ·intro w'
   go_simp
   with_reducible rfl
  rotate_left
  ·simp only [Act.put, List.setIfInBounds_toArray, List.set_cons_zero, List.set_cons_succ, i64_w, i32_w]
   rfl
  refine pure_ (i := 8) (N := some 8) (v := ?_) (a' := ?_) #[true, true, true, true, true, true, true, true, true] rfl rfl (any_of HT_.out (by kernel_rfl)) (fun _ _ _ h => h) (Or.inl ⟨by rfl, ?_⟩) ?_ ?_
  rotate_left
  ·intro w'
   go_simp
   with_reducible rfl
  rotate_left
  ·simp only [Act.put, List.setIfInBounds_toArray, List.set_cons_zero, List.set_cons_succ, i64_w, i32_w]
   rfl
  refine done_ (done_of HT_.out (by kernel_rfl)) ?_
  try go_wp2
  go_ret3
  exact ⟨_, _, by first | rfl | (simp [errW_none, errW_some] <;> rfl) | (simp [*, errW_none, errW_some] <;> rfl), by (with_reducible repeat (first | apply rA | apply rN | apply rD)); exact Kd.R_mono Q06.out (fun _ hk => hk.2), by (with_reducible repeat (first | apply rA | apply rN | apply rD)); exact Kd.R_mono Q0j.out (fun _ hk => hk.2), by repeat (first | (with_reducible first | exact HB.out | apply wA | apply wN | apply wD | refine below_set ?_ Q07.out | refine below_set ?_ Q08.out | refine below_set ?_ Q0b.out) | exact HB.out)⟩
 ·rw [if_neg c5] at H
  have c5b0 : (t104 == 0) = false := beq_eq_false_iff_ne.mpr c5
  have c5b1 : (t104 != 0) = true := bne_iff_ne.mpr c5
  simp only [Option.some.injEq, Prod.mk.injEq] at H
  obtain ⟨rfl, rfl, rfl⟩ := H
  go_enter Try.func34, Try.ntmps34
  go_wp2_with (first | ((with_reducible refine gate_dst (N := 3) rfl ?_); refine box_event ?hg (N := 3) ?hd (cs := #[.slice A0_0 l0_0.length c0_0, .slice A0_1 l0_1.length c0_1]) (t := 25) ?hr ?_; (case hd => rfl); (case hg => rfl); (case hr => first | (go_simp; done) | (go_simp; rfl)); intro Q03 hg w21 hbox hb; have Q00 := Aside0.mk (hbox); have Q0g := Aside0.mk ((by rw [hg]; exact (below_size hB) : w.heap.size ≤ Q03)); have Q07 := Aside0.mk ((by rw [hg]; exact (below_size hB) : w.heap.size ≤ Q03)); replace HB := uH HB hb; clear hb hbox hg) | ((with_reducible refine gate_dst (N := 4) rfl ?_); refine box_event ?hg (N := 4) ?hd (cs := #[.slice A1_0 l1_0.length c1_0, .slice A1_1 l1_1.length c1_1]) (t := 25) ?hr ?_; (case hd => rfl); (case hg => rfl); (case hr => first | (go_simp; done) | (go_simp; rfl)); intro Q05 hg w22 hbox hb; have Q01 := Aside0.mk (hbox); have Q0h := uS HB hg; have Q08 := uS HB hg; replace HB := uH HB hb; have Q09 := uL Q00 hg; have Q0a := uG Q00 hg; replace Q00 := uB Q00 hb; clear hb hbox hg) | ((with_reducible refine gate_dst (N := 5) rfl ?_); refine box_event ?hg (N := 5) ?hd (cs := #[.slice A2_0 l2_0.length c2_0, .slice A2_1 l2_1.length c2_1]) (t := 27) ?hr ?_; (case hd => rfl); (case hg => rfl); (case hr => first | (go_simp; done) | (go_simp; rfl)); intro Q04 hg w23 hbox hb; have Q02 := Aside0.mk (hbox); have Q0i := uS HB hg; have Q0b := uS HB hg; replace HB := uH HB hb; have Q0c := uL Q00 hg; have Q0d := uG Q00 hg; replace Q00 := uB Q00 hb; have Q0e := uL Q01 hg; have Q0f := uG Q01 hg; replace Q01 := uB Q01 hb; clear hb hbox hg; have Q12 := Q09.out; have Q13 := Q0a.out; have Q14 := Q0c.out; have Q15 := Q0d.out; have Q16 : w23.cell? ⟨Q03, 0, none⟩ = some (.slice A0_0 l0_0.length c0_0) := (blk_cell Q00.out 0).trans rfl; have Q17 : w23.cell? ⟨Q03, 1, none⟩ = some (.slice A0_1 l0_1.length c0_1) := (blk_cell Q00.out 1).trans rfl; have Q18 := blk_frozen Q00.out 0; have Q19 := blk_frozen Q00.out 1; have Q1a := Q0e.out; have Q1b := Q0f.out; have Q1c : w23.cell? ⟨Q05, 0, none⟩ = some (.slice A1_0 l1_0.length c1_0) := (blk_cell Q01.out 0).trans rfl; have Q1d : w23.cell? ⟨Q05, 1, none⟩ = some (.slice A1_1 l1_1.length c1_1) := (blk_cell Q01.out 1).trans rfl; have Q1e := blk_frozen Q01.out 0; have Q1f := blk_frozen Q01.out 1; have Q1g : w23.cell? ⟨Q04, 0, none⟩ = some (.slice A2_0 l2_0.length c2_0) := (blk_cell Q02.out 0).trans rfl; have Q1h : w23.cell? ⟨Q04, 1, none⟩ = some (.slice A2_1 l2_1.length c2_1) := (blk_cell Q02.out 1).trans rfl; have Q1i := blk_frozen Q02.out 0; have Q1j := blk_frozen Q02.out 1) | ((with_reducible refine gate_callee (f := 44) rfl ?_); refine goesL_ (some 13) rfl rfl Try.func44 (by kernel_rfl) rfl #[.agg #[.slice A0_0 l0_0.length c0_0, .slice A0_1 l0_1.length c0_1], .agg #[.slice A1_0 l1_0.length c1_0, .slice A1_1 l1_1.length c1_1], .agg #[.slice A2_0 l2_0.length c2_0, .slice A2_1 l2_1.length c2_1]] rfl aM ?_; (with_reducible refine (scarfjointref06_Valid.calls _ _ l0_0 _ _ l0_1 _ _ l1_0 _ _ l1_1 _ _ l2_0 _ _ l2_1 t104 _ ?side1 ?side2 ?side3 ?side4 ?side5 ?side6 ?side7 ?side8 ?side9 ?side10 ?side11 ?side12 A4.out).mono ?_); (case side1 => repeat (first | exact (cB HR0_0.out HB.out) | (with_reducible refine cA ?_ _) | (with_reducible refine cN ?_ _) | (with_reducible refine cD ?_))); (case side2 => exact HC0_0.out); (case side3 => repeat (first | exact (cB HR0_1.out HB.out) | (with_reducible refine cA ?_ _) | (with_reducible refine cN ?_ _) | (with_reducible refine cD ?_))); (case side4 => exact HC0_1.out); (case side5 => repeat (first | exact (cB HR1_0.out HB.out) | (with_reducible refine cA ?_ _) | (with_reducible refine cN ?_ _) | (with_reducible refine cD ?_))); (case side6 => exact HC1_0.out); (case side7 => repeat (first | exact (cB HR1_1.out HB.out) | (with_reducible refine cA ?_ _) | (with_reducible refine cN ?_ _) | (with_reducible refine cD ?_))); (case side8 => exact HC1_1.out); (case side9 => repeat (first | exact (cB HR2_0.out HB.out) | (with_reducible refine cA ?_ _) | (with_reducible refine cN ?_ _) | (with_reducible refine cD ?_))); (case side10 => exact HC2_0.out); (case side11 => repeat (first | exact (cB HR2_1.out HB.out) | (with_reducible refine cA ?_ _) | (with_reducible refine cN ?_ _) | (with_reducible refine cD ?_))); (case side12 => exact HC2_1.out); rintro e w30 ⟨rfl, hb⟩; refine ⟨_, rfl, ?_⟩; replace Q00 := uB Q00 hb; replace Q01 := uB Q01 hb; replace Q02 := uB Q02 hb; replace HB := uH HB hb; (try clear hb); (try clear hb2); (try clear hk); (try clear hi)))
  go_ret3
  exact ⟨_, _, by first | rfl | (simp [errW_none, errW_some] <;> rfl) | (simp [*, errW_none, errW_some] <;> rfl), by first | exact Kd.R_nil _ _ _ _ _ | exact Kd.N_nil _ _ _ _ _ | exact Kd.V_nil _ _ _ _ _ | exact Kd.Q_nil _ _ _ _ _ | exact Kd.S_nil _ _ _ _ _, by first | exact Kd.R_nil _ _ _ _ _ | exact Kd.N_nil _ _ _ _ _ | exact Kd.V_nil _ _ _ _ _ | exact Kd.Q_nil _ _ _ _ _ | exact Kd.S_nil _ _ _ _ _, by repeat (first | (with_reducible first | exact HB.out | apply wA | apply wN | apply wD | refine below_set ?_ Q07.out | refine below_set ?_ Q08.out | refine below_set ?_ Q0b.out) | exact HB.out)⟩
end Go.Proofs.Ytillofiphkmjjaa.X

/- The law PullbackEqualizer, walked by hand. -/
namespace Go.Proofs.Ytillofiphkmjjaa.X
open Go.RowKit Go.Proofs.YtillofiphkmjjaaW.PrintWords Go.Proofs.YtillofiphkmjjaaW.PrintLast Go.Proofs.YtillofiphkmjjaaW.PrintMore
set_option linter.unusedVariables false
set_option linter.unusedSimpArgs false

set_option maxHeartbeats 4000000 in
set_option maxRecDepth 100000 in
theorem law7_few0 (A0 : Option Addr) (c0 : Nat) (x0 : List Int) (A1 : Option Addr) (c1 : Nat) (x1 : List S94) (A2 : Option Addr) (c2 : Nat) (x2 : List Int) (A3 : Option Addr) (c3 : Nat) (x3 : List S94) (A4 : Option Addr) (c4 : Nat) (x4 : List Int) (A5 : Option Addr) (c5 : Nat) (x5 : List Int) (A6 : Option Addr) (c6 : Nat) (x6 : List Int) (A7 : Option Addr) (c7 : Nat) (x7 : List Int) (w : World)
    (R0 : Row (Kd.int .i64) w A0 c0 x0) (R1 : Row k94 w A1 c1 x1) (R2 : Row (Kd.int .i64) w A2 c2 x2) (R3 : Row k94 w A3 c3 x3) (R4 : Row (Kd.int .i64) w A4 c4 x4) (R5 : Row (Kd.int .i64) w A5 c5 x5) (R6 : Row (Kd.int .i64) w A6 c6 x6) (R7 : Row (Kd.int .i64) w A7 c7 x7)
    (hF0 : scarfjointref05_Few.f x0 x1 = some false) :
    Calls Try.prog 7 #[.agg #[.slice A0 x0.length c0, .slice A1 x1.length c1, .slice A2 x2.length c2, .slice A3 x3.length c3, .slice A4 x4.length c4, .slice A5 x5.length c5, .slice A6 x6.length c6, .slice A7 x7.length c7]] w fun e w' => e = .returned (.bool true) ∧ Below w.heap.size w w' := by
  have HF0_ := Aside0.mk hF0
  clear hF0
  have hu25 := Try.underlying25
  have hu27 := Try.underlying27
  have hu60 := Try.underlying60
  have hu66 := Try.underlying66
  have SB := Since.refl w
  go_enter Try.func7, Try.ntmps7
  go_upto_region 1 with fail
  obtain ⟨BS, hb⟩ := blk_new1 w 66 #[.slice A0 x0.length c0, .slice A1 x1.length c1, .slice A2 x2.length c2, .slice A3 x3.length c3, .slice A4 x4.length c4, .slice A5 x5.length c5, .slice A6 x6.length c6, .slice A7 x7.length c7]
  replace R0 := R0.below hb
  replace R1 := R1.below hb
  replace R2 := R2.below hb
  replace R3 := R3.below hb
  replace R4 := R4.below hb
  replace R5 := R5.below hb
  replace R6 := R6.below hb
  replace R7 := R7.below hb
  replace SB := SB.step hb
  clear hb
  generalize hw : (w.alloc (.cells #[.slice A0 x0.length c0, .slice A1 x1.length c1, .slice A2 x2.length c2, .slice A3 x3.length c3, .slice A4 x4.length c4, .slice A5 x5.length c5, .slice A6 x6.length c6, .slice A7 x7.length c7] 66)) = w0 at *
  clear hw
  have BSx0 := BS.at 0 rfl
  have BSx1 := BS.at 1 rfl
  have BSx2 := BS.at 2 rfl
  have BSx3 := BS.at 3 rfl
  have BSx4 := BS.at 4 rfl
  have BSx5 := BS.at 5 rfl
  have BSx6 := BS.at 6 rfl
  have BSx7 := BS.at 7 rfl
  go_wp2_with fail
  refine (awake_calls _).mono ?_
  rintro e w1 ⟨rfl, hb⟩
  replace hb := below_step (show Below w0.heap.size w0 _ from by repeat (first | exact Below.refl _ _ | apply below_alloc | apply pw_below_drewN | apply below_drew1)) hb
  replace R0 := R0.below hb
  replace R1 := R1.below hb
  replace R2 := R2.below hb
  replace R3 := R3.below hb
  replace R4 := R4.below hb
  replace R5 := R5.below hb
  replace R6 := R6.below hb
  replace R7 := R7.below hb
  replace BS := BS.below hb
  replace SB := SB.step hb
  clear hb
  have BSx0 := BS.at 0 rfl
  have BSx1 := BS.at 1 rfl
  have BSx2 := BS.at 2 rfl
  have BSx3 := BS.at 3 rfl
  have BSx4 := BS.at 4 rfl
  have BSx5 := BS.at 5 rfl
  have BSx6 := BS.at 6 rfl
  have BSx7 := BS.at 7 rfl
  go_wp2_with fail
  refine (scarfjointref05_Few.calls _ _ x0 _ _ x1 false _ R0.at_ R0.cap R1.at_ R1.cap HF0_.out).mono ?_
  rintro e f0 ⟨rfl, hb⟩
  replace hb := below_step (show Below w1.heap.size w1 _ from by repeat (first | exact Below.refl _ _ | apply below_alloc | apply pw_below_drewN | apply below_drew1)) hb
  replace R0 := R0.below hb
  replace R1 := R1.below hb
  replace R2 := R2.below hb
  replace R3 := R3.below hb
  replace R4 := R4.below hb
  replace R5 := R5.below hb
  replace R6 := R6.below hb
  replace R7 := R7.below hb
  replace BS := BS.below hb
  replace SB := SB.step hb
  clear hb
  have BSx0 := BS.at 0 rfl
  have BSx1 := BS.at 1 rfl
  have BSx2 := BS.at 2 rfl
  have BSx3 := BS.at 3 rfl
  have BSx4 := BS.at 4 rfl
  have BSx5 := BS.at 5 rfl
  have BSx6 := BS.at 6 rfl
  have BSx7 := BS.at 7 rfl
  go_wp2_with fail
  refine (awake_calls _).mono ?_
  rintro e w3 ⟨rfl, hb⟩
  replace hb := below_step (show Below f0.heap.size f0 _ from by repeat (first | exact Below.refl _ _ | apply below_alloc | apply pw_below_drewN | apply below_drew1)) hb
  replace R0 := R0.below hb
  replace R1 := R1.below hb
  replace R2 := R2.below hb
  replace R3 := R3.below hb
  replace R4 := R4.below hb
  replace R5 := R5.below hb
  replace R6 := R6.below hb
  replace R7 := R7.below hb
  replace BS := BS.below hb
  replace SB := SB.step hb
  clear hb
  go_wp2_with fail
  try go_wp2_with fail
  go_ret
  exact ⟨rfl, SB.get⟩
set_option maxHeartbeats 4000000 in
set_option maxRecDepth 100000 in
theorem law7_few1 (A0 : Option Addr) (c0 : Nat) (x0 : List Int) (A1 : Option Addr) (c1 : Nat) (x1 : List S94) (A2 : Option Addr) (c2 : Nat) (x2 : List Int) (A3 : Option Addr) (c3 : Nat) (x3 : List S94) (A4 : Option Addr) (c4 : Nat) (x4 : List Int) (A5 : Option Addr) (c5 : Nat) (x5 : List Int) (A6 : Option Addr) (c6 : Nat) (x6 : List Int) (A7 : Option Addr) (c7 : Nat) (x7 : List Int) (w : World)
    (R0 : Row (Kd.int .i64) w A0 c0 x0) (R1 : Row k94 w A1 c1 x1) (R2 : Row (Kd.int .i64) w A2 c2 x2) (R3 : Row k94 w A3 c3 x3) (R4 : Row (Kd.int .i64) w A4 c4 x4) (R5 : Row (Kd.int .i64) w A5 c5 x5) (R6 : Row (Kd.int .i64) w A6 c6 x6) (R7 : Row (Kd.int .i64) w A7 c7 x7)
    (hF0 : scarfjointref05_Few.f x0 x1 = some true) (hF1 : scarfjointref05_Few.f x2 x3 = some false) :
    Calls Try.prog 7 #[.agg #[.slice A0 x0.length c0, .slice A1 x1.length c1, .slice A2 x2.length c2, .slice A3 x3.length c3, .slice A4 x4.length c4, .slice A5 x5.length c5, .slice A6 x6.length c6, .slice A7 x7.length c7]] w fun e w' => e = .returned (.bool true) ∧ Below w.heap.size w w' := by
  have HF0_ := Aside0.mk hF0
  have HF1_ := Aside0.mk hF1
  clear hF0 hF1
  have hu25 := Try.underlying25
  have hu27 := Try.underlying27
  have hu60 := Try.underlying60
  have hu66 := Try.underlying66
  have SB := Since.refl w
  go_enter Try.func7, Try.ntmps7
  go_upto_region 1 with fail
  obtain ⟨BS, hb⟩ := blk_new1 w 66 #[.slice A0 x0.length c0, .slice A1 x1.length c1, .slice A2 x2.length c2, .slice A3 x3.length c3, .slice A4 x4.length c4, .slice A5 x5.length c5, .slice A6 x6.length c6, .slice A7 x7.length c7]
  replace R0 := R0.below hb
  replace R1 := R1.below hb
  replace R2 := R2.below hb
  replace R3 := R3.below hb
  replace R4 := R4.below hb
  replace R5 := R5.below hb
  replace R6 := R6.below hb
  replace R7 := R7.below hb
  replace SB := SB.step hb
  clear hb
  generalize hw : (w.alloc (.cells #[.slice A0 x0.length c0, .slice A1 x1.length c1, .slice A2 x2.length c2, .slice A3 x3.length c3, .slice A4 x4.length c4, .slice A5 x5.length c5, .slice A6 x6.length c6, .slice A7 x7.length c7] 66)) = w0 at *
  clear hw
  have BSx0 := BS.at 0 rfl
  have BSx1 := BS.at 1 rfl
  have BSx2 := BS.at 2 rfl
  have BSx3 := BS.at 3 rfl
  have BSx4 := BS.at 4 rfl
  have BSx5 := BS.at 5 rfl
  have BSx6 := BS.at 6 rfl
  have BSx7 := BS.at 7 rfl
  go_wp2_with fail
  refine (awake_calls _).mono ?_
  rintro e w1 ⟨rfl, hb⟩
  replace hb := below_step (show Below w0.heap.size w0 _ from by repeat (first | exact Below.refl _ _ | apply below_alloc | apply pw_below_drewN | apply below_drew1)) hb
  replace R0 := R0.below hb
  replace R1 := R1.below hb
  replace R2 := R2.below hb
  replace R3 := R3.below hb
  replace R4 := R4.below hb
  replace R5 := R5.below hb
  replace R6 := R6.below hb
  replace R7 := R7.below hb
  replace BS := BS.below hb
  replace SB := SB.step hb
  clear hb
  have BSx0 := BS.at 0 rfl
  have BSx1 := BS.at 1 rfl
  have BSx2 := BS.at 2 rfl
  have BSx3 := BS.at 3 rfl
  have BSx4 := BS.at 4 rfl
  have BSx5 := BS.at 5 rfl
  have BSx6 := BS.at 6 rfl
  have BSx7 := BS.at 7 rfl
  go_wp2_with fail
  refine (scarfjointref05_Few.calls _ _ x0 _ _ x1 true _ R0.at_ R0.cap R1.at_ R1.cap HF0_.out).mono ?_
  rintro e f0 ⟨rfl, hb⟩
  replace hb := below_step (show Below w1.heap.size w1 _ from by repeat (first | exact Below.refl _ _ | apply below_alloc | apply pw_below_drewN | apply below_drew1)) hb
  replace R0 := R0.below hb
  replace R1 := R1.below hb
  replace R2 := R2.below hb
  replace R3 := R3.below hb
  replace R4 := R4.below hb
  replace R5 := R5.below hb
  replace R6 := R6.below hb
  replace R7 := R7.below hb
  replace BS := BS.below hb
  replace SB := SB.step hb
  clear hb
  have BSx0 := BS.at 0 rfl
  have BSx1 := BS.at 1 rfl
  have BSx2 := BS.at 2 rfl
  have BSx3 := BS.at 3 rfl
  have BSx4 := BS.at 4 rfl
  have BSx5 := BS.at 5 rfl
  have BSx6 := BS.at 6 rfl
  have BSx7 := BS.at 7 rfl
  go_wp2_with fail
  refine (scarfjointref05_Few.calls _ _ x2 _ _ x3 false _ R2.at_ R2.cap R3.at_ R3.cap HF1_.out).mono ?_
  rintro e f1 ⟨rfl, hb⟩
  replace hb := below_step (show Below f0.heap.size f0 _ from by repeat (first | exact Below.refl _ _ | apply below_alloc | apply pw_below_drewN | apply below_drew1)) hb
  replace R0 := R0.below hb
  replace R1 := R1.below hb
  replace R2 := R2.below hb
  replace R3 := R3.below hb
  replace R4 := R4.below hb
  replace R5 := R5.below hb
  replace R6 := R6.below hb
  replace R7 := R7.below hb
  replace BS := BS.below hb
  replace SB := SB.step hb
  clear hb
  have BSx0 := BS.at 0 rfl
  have BSx1 := BS.at 1 rfl
  have BSx2 := BS.at 2 rfl
  have BSx3 := BS.at 3 rfl
  have BSx4 := BS.at 4 rfl
  have BSx5 := BS.at 5 rfl
  have BSx6 := BS.at 6 rfl
  have BSx7 := BS.at 7 rfl
  go_wp2_with fail
  refine (awake_calls _).mono ?_
  rintro e w3 ⟨rfl, hb⟩
  replace hb := below_step (show Below f1.heap.size f1 _ from by repeat (first | exact Below.refl _ _ | apply below_alloc | apply pw_below_drewN | apply below_drew1)) hb
  replace R0 := R0.below hb
  replace R1 := R1.below hb
  replace R2 := R2.below hb
  replace R3 := R3.below hb
  replace R4 := R4.below hb
  replace R5 := R5.below hb
  replace R6 := R6.below hb
  replace R7 := R7.below hb
  replace BS := BS.below hb
  replace SB := SB.step hb
  clear hb
  go_wp2_with fail
  try go_wp2_with fail
  go_ret
  exact ⟨rfl, SB.get⟩
set_option maxHeartbeats 4000000 in
set_option maxRecDepth 100000 in
theorem law7_few2 (A0 : Option Addr) (c0 : Nat) (x0 : List Int) (A1 : Option Addr) (c1 : Nat) (x1 : List S94) (A2 : Option Addr) (c2 : Nat) (x2 : List Int) (A3 : Option Addr) (c3 : Nat) (x3 : List S94) (A4 : Option Addr) (c4 : Nat) (x4 : List Int) (A5 : Option Addr) (c5 : Nat) (x5 : List Int) (A6 : Option Addr) (c6 : Nat) (x6 : List Int) (A7 : Option Addr) (c7 : Nat) (x7 : List Int) (w : World)
    (R0 : Row (Kd.int .i64) w A0 c0 x0) (R1 : Row k94 w A1 c1 x1) (R2 : Row (Kd.int .i64) w A2 c2 x2) (R3 : Row k94 w A3 c3 x3) (R4 : Row (Kd.int .i64) w A4 c4 x4) (R5 : Row (Kd.int .i64) w A5 c5 x5) (R6 : Row (Kd.int .i64) w A6 c6 x6) (R7 : Row (Kd.int .i64) w A7 c7 x7)
    (hF0 : scarfjointref05_Few.f x0 x1 = some true) (hF1 : scarfjointref05_Few.f x2 x3 = some true) (hF2 : scarfjointref06_Few.f x4 x5 150 = some false) :
    Calls Try.prog 7 #[.agg #[.slice A0 x0.length c0, .slice A1 x1.length c1, .slice A2 x2.length c2, .slice A3 x3.length c3, .slice A4 x4.length c4, .slice A5 x5.length c5, .slice A6 x6.length c6, .slice A7 x7.length c7]] w fun e w' => e = .returned (.bool true) ∧ Below w.heap.size w w' := by
  have HF0_ := Aside0.mk hF0
  have HF1_ := Aside0.mk hF1
  have HF2_ := Aside0.mk hF2
  clear hF0 hF1 hF2
  have hu25 := Try.underlying25
  have hu27 := Try.underlying27
  have hu60 := Try.underlying60
  have hu66 := Try.underlying66
  have SB := Since.refl w
  go_enter Try.func7, Try.ntmps7
  go_upto_region 1 with fail
  obtain ⟨BS, hb⟩ := blk_new1 w 66 #[.slice A0 x0.length c0, .slice A1 x1.length c1, .slice A2 x2.length c2, .slice A3 x3.length c3, .slice A4 x4.length c4, .slice A5 x5.length c5, .slice A6 x6.length c6, .slice A7 x7.length c7]
  replace R0 := R0.below hb
  replace R1 := R1.below hb
  replace R2 := R2.below hb
  replace R3 := R3.below hb
  replace R4 := R4.below hb
  replace R5 := R5.below hb
  replace R6 := R6.below hb
  replace R7 := R7.below hb
  replace SB := SB.step hb
  clear hb
  generalize hw : (w.alloc (.cells #[.slice A0 x0.length c0, .slice A1 x1.length c1, .slice A2 x2.length c2, .slice A3 x3.length c3, .slice A4 x4.length c4, .slice A5 x5.length c5, .slice A6 x6.length c6, .slice A7 x7.length c7] 66)) = w0 at *
  clear hw
  have BSx0 := BS.at 0 rfl
  have BSx1 := BS.at 1 rfl
  have BSx2 := BS.at 2 rfl
  have BSx3 := BS.at 3 rfl
  have BSx4 := BS.at 4 rfl
  have BSx5 := BS.at 5 rfl
  have BSx6 := BS.at 6 rfl
  have BSx7 := BS.at 7 rfl
  go_wp2_with fail
  refine (awake_calls _).mono ?_
  rintro e w1 ⟨rfl, hb⟩
  replace hb := below_step (show Below w0.heap.size w0 _ from by repeat (first | exact Below.refl _ _ | apply below_alloc | apply pw_below_drewN | apply below_drew1)) hb
  replace R0 := R0.below hb
  replace R1 := R1.below hb
  replace R2 := R2.below hb
  replace R3 := R3.below hb
  replace R4 := R4.below hb
  replace R5 := R5.below hb
  replace R6 := R6.below hb
  replace R7 := R7.below hb
  replace BS := BS.below hb
  replace SB := SB.step hb
  clear hb
  have BSx0 := BS.at 0 rfl
  have BSx1 := BS.at 1 rfl
  have BSx2 := BS.at 2 rfl
  have BSx3 := BS.at 3 rfl
  have BSx4 := BS.at 4 rfl
  have BSx5 := BS.at 5 rfl
  have BSx6 := BS.at 6 rfl
  have BSx7 := BS.at 7 rfl
  go_wp2_with fail
  refine (scarfjointref05_Few.calls _ _ x0 _ _ x1 true _ R0.at_ R0.cap R1.at_ R1.cap HF0_.out).mono ?_
  rintro e f0 ⟨rfl, hb⟩
  replace hb := below_step (show Below w1.heap.size w1 _ from by repeat (first | exact Below.refl _ _ | apply below_alloc | apply pw_below_drewN | apply below_drew1)) hb
  replace R0 := R0.below hb
  replace R1 := R1.below hb
  replace R2 := R2.below hb
  replace R3 := R3.below hb
  replace R4 := R4.below hb
  replace R5 := R5.below hb
  replace R6 := R6.below hb
  replace R7 := R7.below hb
  replace BS := BS.below hb
  replace SB := SB.step hb
  clear hb
  have BSx0 := BS.at 0 rfl
  have BSx1 := BS.at 1 rfl
  have BSx2 := BS.at 2 rfl
  have BSx3 := BS.at 3 rfl
  have BSx4 := BS.at 4 rfl
  have BSx5 := BS.at 5 rfl
  have BSx6 := BS.at 6 rfl
  have BSx7 := BS.at 7 rfl
  go_wp2_with fail
  refine (scarfjointref05_Few.calls _ _ x2 _ _ x3 true _ R2.at_ R2.cap R3.at_ R3.cap HF1_.out).mono ?_
  rintro e f1 ⟨rfl, hb⟩
  replace hb := below_step (show Below f0.heap.size f0 _ from by repeat (first | exact Below.refl _ _ | apply below_alloc | apply pw_below_drewN | apply below_drew1)) hb
  replace R0 := R0.below hb
  replace R1 := R1.below hb
  replace R2 := R2.below hb
  replace R3 := R3.below hb
  replace R4 := R4.below hb
  replace R5 := R5.below hb
  replace R6 := R6.below hb
  replace R7 := R7.below hb
  replace BS := BS.below hb
  replace SB := SB.step hb
  clear hb
  have BSx0 := BS.at 0 rfl
  have BSx1 := BS.at 1 rfl
  have BSx2 := BS.at 2 rfl
  have BSx3 := BS.at 3 rfl
  have BSx4 := BS.at 4 rfl
  have BSx5 := BS.at 5 rfl
  have BSx6 := BS.at 6 rfl
  have BSx7 := BS.at 7 rfl
  go_wp2_with fail
  refine (scarfjointref06_Few.calls _ _ x4 _ _ x5 150 false _ R4.at_ R4.cap R5.at_ R5.cap HF2_.out).mono ?_
  rintro e f2 ⟨rfl, hb⟩
  replace hb := below_step (show Below f1.heap.size f1 _ from by repeat (first | exact Below.refl _ _ | apply below_alloc | apply pw_below_drewN | apply below_drew1)) hb
  replace R0 := R0.below hb
  replace R1 := R1.below hb
  replace R2 := R2.below hb
  replace R3 := R3.below hb
  replace R4 := R4.below hb
  replace R5 := R5.below hb
  replace R6 := R6.below hb
  replace R7 := R7.below hb
  replace BS := BS.below hb
  replace SB := SB.step hb
  clear hb
  have BSx0 := BS.at 0 rfl
  have BSx1 := BS.at 1 rfl
  have BSx2 := BS.at 2 rfl
  have BSx3 := BS.at 3 rfl
  have BSx4 := BS.at 4 rfl
  have BSx5 := BS.at 5 rfl
  have BSx6 := BS.at 6 rfl
  have BSx7 := BS.at 7 rfl
  go_wp2_with fail
  refine (awake_calls _).mono ?_
  rintro e w3 ⟨rfl, hb⟩
  replace hb := below_step (show Below f2.heap.size f2 _ from by repeat (first | exact Below.refl _ _ | apply below_alloc | apply pw_below_drewN | apply below_drew1)) hb
  replace R0 := R0.below hb
  replace R1 := R1.below hb
  replace R2 := R2.below hb
  replace R3 := R3.below hb
  replace R4 := R4.below hb
  replace R5 := R5.below hb
  replace R6 := R6.below hb
  replace R7 := R7.below hb
  replace BS := BS.below hb
  replace SB := SB.step hb
  clear hb
  go_wp2_with fail
  try go_wp2_with fail
  go_ret
  exact ⟨rfl, SB.get⟩
set_option maxHeartbeats 4000000 in
set_option maxRecDepth 100000 in
theorem law7_few3 (A0 : Option Addr) (c0 : Nat) (x0 : List Int) (A1 : Option Addr) (c1 : Nat) (x1 : List S94) (A2 : Option Addr) (c2 : Nat) (x2 : List Int) (A3 : Option Addr) (c3 : Nat) (x3 : List S94) (A4 : Option Addr) (c4 : Nat) (x4 : List Int) (A5 : Option Addr) (c5 : Nat) (x5 : List Int) (A6 : Option Addr) (c6 : Nat) (x6 : List Int) (A7 : Option Addr) (c7 : Nat) (x7 : List Int) (w : World)
    (R0 : Row (Kd.int .i64) w A0 c0 x0) (R1 : Row k94 w A1 c1 x1) (R2 : Row (Kd.int .i64) w A2 c2 x2) (R3 : Row k94 w A3 c3 x3) (R4 : Row (Kd.int .i64) w A4 c4 x4) (R5 : Row (Kd.int .i64) w A5 c5 x5) (R6 : Row (Kd.int .i64) w A6 c6 x6) (R7 : Row (Kd.int .i64) w A7 c7 x7)
    (hF0 : scarfjointref05_Few.f x0 x1 = some true) (hF1 : scarfjointref05_Few.f x2 x3 = some true) (hF2 : scarfjointref06_Few.f x4 x5 150 = some true) (hF3 : scarfjointref06_Few.f x6 x7 150 = some false) :
    Calls Try.prog 7 #[.agg #[.slice A0 x0.length c0, .slice A1 x1.length c1, .slice A2 x2.length c2, .slice A3 x3.length c3, .slice A4 x4.length c4, .slice A5 x5.length c5, .slice A6 x6.length c6, .slice A7 x7.length c7]] w fun e w' => e = .returned (.bool true) ∧ Below w.heap.size w w' := by
  have HF0_ := Aside0.mk hF0
  have HF1_ := Aside0.mk hF1
  have HF2_ := Aside0.mk hF2
  have HF3_ := Aside0.mk hF3
  clear hF0 hF1 hF2 hF3
  have hu25 := Try.underlying25
  have hu27 := Try.underlying27
  have hu60 := Try.underlying60
  have hu66 := Try.underlying66
  have SB := Since.refl w
  go_enter Try.func7, Try.ntmps7
  go_upto_region 1 with fail
  obtain ⟨BS, hb⟩ := blk_new1 w 66 #[.slice A0 x0.length c0, .slice A1 x1.length c1, .slice A2 x2.length c2, .slice A3 x3.length c3, .slice A4 x4.length c4, .slice A5 x5.length c5, .slice A6 x6.length c6, .slice A7 x7.length c7]
  replace R0 := R0.below hb
  replace R1 := R1.below hb
  replace R2 := R2.below hb
  replace R3 := R3.below hb
  replace R4 := R4.below hb
  replace R5 := R5.below hb
  replace R6 := R6.below hb
  replace R7 := R7.below hb
  replace SB := SB.step hb
  clear hb
  generalize hw : (w.alloc (.cells #[.slice A0 x0.length c0, .slice A1 x1.length c1, .slice A2 x2.length c2, .slice A3 x3.length c3, .slice A4 x4.length c4, .slice A5 x5.length c5, .slice A6 x6.length c6, .slice A7 x7.length c7] 66)) = w0 at *
  clear hw
  have BSx0 := BS.at 0 rfl
  have BSx1 := BS.at 1 rfl
  have BSx2 := BS.at 2 rfl
  have BSx3 := BS.at 3 rfl
  have BSx4 := BS.at 4 rfl
  have BSx5 := BS.at 5 rfl
  have BSx6 := BS.at 6 rfl
  have BSx7 := BS.at 7 rfl
  go_wp2_with fail
  refine (awake_calls _).mono ?_
  rintro e w1 ⟨rfl, hb⟩
  replace hb := below_step (show Below w0.heap.size w0 _ from by repeat (first | exact Below.refl _ _ | apply below_alloc | apply pw_below_drewN | apply below_drew1)) hb
  replace R0 := R0.below hb
  replace R1 := R1.below hb
  replace R2 := R2.below hb
  replace R3 := R3.below hb
  replace R4 := R4.below hb
  replace R5 := R5.below hb
  replace R6 := R6.below hb
  replace R7 := R7.below hb
  replace BS := BS.below hb
  replace SB := SB.step hb
  clear hb
  have BSx0 := BS.at 0 rfl
  have BSx1 := BS.at 1 rfl
  have BSx2 := BS.at 2 rfl
  have BSx3 := BS.at 3 rfl
  have BSx4 := BS.at 4 rfl
  have BSx5 := BS.at 5 rfl
  have BSx6 := BS.at 6 rfl
  have BSx7 := BS.at 7 rfl
  go_wp2_with fail
  refine (scarfjointref05_Few.calls _ _ x0 _ _ x1 true _ R0.at_ R0.cap R1.at_ R1.cap HF0_.out).mono ?_
  rintro e f0 ⟨rfl, hb⟩
  replace hb := below_step (show Below w1.heap.size w1 _ from by repeat (first | exact Below.refl _ _ | apply below_alloc | apply pw_below_drewN | apply below_drew1)) hb
  replace R0 := R0.below hb
  replace R1 := R1.below hb
  replace R2 := R2.below hb
  replace R3 := R3.below hb
  replace R4 := R4.below hb
  replace R5 := R5.below hb
  replace R6 := R6.below hb
  replace R7 := R7.below hb
  replace BS := BS.below hb
  replace SB := SB.step hb
  clear hb
  have BSx0 := BS.at 0 rfl
  have BSx1 := BS.at 1 rfl
  have BSx2 := BS.at 2 rfl
  have BSx3 := BS.at 3 rfl
  have BSx4 := BS.at 4 rfl
  have BSx5 := BS.at 5 rfl
  have BSx6 := BS.at 6 rfl
  have BSx7 := BS.at 7 rfl
  go_wp2_with fail
  refine (scarfjointref05_Few.calls _ _ x2 _ _ x3 true _ R2.at_ R2.cap R3.at_ R3.cap HF1_.out).mono ?_
  rintro e f1 ⟨rfl, hb⟩
  replace hb := below_step (show Below f0.heap.size f0 _ from by repeat (first | exact Below.refl _ _ | apply below_alloc | apply pw_below_drewN | apply below_drew1)) hb
  replace R0 := R0.below hb
  replace R1 := R1.below hb
  replace R2 := R2.below hb
  replace R3 := R3.below hb
  replace R4 := R4.below hb
  replace R5 := R5.below hb
  replace R6 := R6.below hb
  replace R7 := R7.below hb
  replace BS := BS.below hb
  replace SB := SB.step hb
  clear hb
  have BSx0 := BS.at 0 rfl
  have BSx1 := BS.at 1 rfl
  have BSx2 := BS.at 2 rfl
  have BSx3 := BS.at 3 rfl
  have BSx4 := BS.at 4 rfl
  have BSx5 := BS.at 5 rfl
  have BSx6 := BS.at 6 rfl
  have BSx7 := BS.at 7 rfl
  go_wp2_with fail
  refine (scarfjointref06_Few.calls _ _ x4 _ _ x5 150 true _ R4.at_ R4.cap R5.at_ R5.cap HF2_.out).mono ?_
  rintro e f2 ⟨rfl, hb⟩
  replace hb := below_step (show Below f1.heap.size f1 _ from by repeat (first | exact Below.refl _ _ | apply below_alloc | apply pw_below_drewN | apply below_drew1)) hb
  replace R0 := R0.below hb
  replace R1 := R1.below hb
  replace R2 := R2.below hb
  replace R3 := R3.below hb
  replace R4 := R4.below hb
  replace R5 := R5.below hb
  replace R6 := R6.below hb
  replace R7 := R7.below hb
  replace BS := BS.below hb
  replace SB := SB.step hb
  clear hb
  have BSx0 := BS.at 0 rfl
  have BSx1 := BS.at 1 rfl
  have BSx2 := BS.at 2 rfl
  have BSx3 := BS.at 3 rfl
  have BSx4 := BS.at 4 rfl
  have BSx5 := BS.at 5 rfl
  have BSx6 := BS.at 6 rfl
  have BSx7 := BS.at 7 rfl
  go_wp2_with fail
  refine (scarfjointref06_Few.calls _ _ x6 _ _ x7 150 false _ R6.at_ R6.cap R7.at_ R7.cap HF3_.out).mono ?_
  rintro e f3 ⟨rfl, hb⟩
  replace hb := below_step (show Below f2.heap.size f2 _ from by repeat (first | exact Below.refl _ _ | apply below_alloc | apply pw_below_drewN | apply below_drew1)) hb
  replace R0 := R0.below hb
  replace R1 := R1.below hb
  replace R2 := R2.below hb
  replace R3 := R3.below hb
  replace R4 := R4.below hb
  replace R5 := R5.below hb
  replace R6 := R6.below hb
  replace R7 := R7.below hb
  replace BS := BS.below hb
  replace SB := SB.step hb
  clear hb
  have BSx0 := BS.at 0 rfl
  have BSx1 := BS.at 1 rfl
  have BSx2 := BS.at 2 rfl
  have BSx3 := BS.at 3 rfl
  have BSx4 := BS.at 4 rfl
  have BSx5 := BS.at 5 rfl
  have BSx6 := BS.at 6 rfl
  have BSx7 := BS.at 7 rfl
  go_wp2_with fail
  refine (awake_calls _).mono ?_
  rintro e w3 ⟨rfl, hb⟩
  replace hb := below_step (show Below f3.heap.size f3 _ from by repeat (first | exact Below.refl _ _ | apply below_alloc | apply pw_below_drewN | apply below_drew1)) hb
  replace R0 := R0.below hb
  replace R1 := R1.below hb
  replace R2 := R2.below hb
  replace R3 := R3.below hb
  replace R4 := R4.below hb
  replace R5 := R5.below hb
  replace R6 := R6.below hb
  replace R7 := R7.below hb
  replace BS := BS.below hb
  replace SB := SB.step hb
  clear hb
  go_wp2_with fail
  try go_wp2_with fail
  go_ret
  exact ⟨rfl, SB.get⟩
set_option maxHeartbeats 4000000 in
set_option maxRecDepth 100000 in
theorem law7_a (k : Nat) (A0 : Option Addr) (c0 : Nat) (x0 : List Int) (A1 : Option Addr) (c1 : Nat) (x1 : List S94) (A2 : Option Addr) (c2 : Nat) (x2 : List Int) (A3 : Option Addr) (c3 : Nat) (x3 : List S94) (A4 : Option Addr) (c4 : Nat) (x4 : List Int) (A5 : Option Addr) (c5 : Nat) (x5 : List Int) (A6 : Option Addr) (c6 : Nat) (x6 : List Int) (A7 : Option Addr) (c7 : Nat) (x7 : List Int) (w : World)
    (R0 : Row (Kd.int .i64) w A0 c0 x0) (R1 : Row k94 w A1 c1 x1) (R2 : Row (Kd.int .i64) w A2 c2 x2) (R3 : Row k94 w A3 c3 x3) (R4 : Row (Kd.int .i64) w A4 c4 x4) (R5 : Row (Kd.int .i64) w A5 c5 x5) (R6 : Row (Kd.int .i64) w A6 c6 x6) (R7 : Row (Kd.int .i64) w A7 c7 x7) (p0 p1 : List Int) (e : Int) (n m : List S79) (g : Int)
    (hF0 : scarfjointref05_Few.f x0 x1 = some true)
    (hF1 : scarfjointref05_Few.f x2 x3 = some true)
    (hF2 : scarfjointref06_Few.f x4 x5 150 = some true)
    (hF3 : scarfjointref06_Few.f x6 x7 150 = some true)
    (hE : pullback_Equalizer.f k x0 x1 x2 x3 x4 x5 x6 x7 = some (p0, p1, e))
    (hG : scarfjointref11_Equalizer.f k x0 x1 x2 x3 x4 x5 x6 x7 = some (p0, p1, e))
    (hK : pullback_Kernel.f k x0 x1 x2 x3 x4 x5 = some (n, m, g))
    (hL : scarfjointref11_Kernel.f k x0 x1 x2 x3 x4 x5 = some (n, m, g))
    (hS : scarfjointref07_Same.f k p0 p1 p0 p1 = some true)
    (hn : scarfjointref11_SamePairs.f k n n = some true)
    (hm : scarfjointref11_SamePairs.f k m m = some true)
    (hz : g ≠ 0) :
    Calls Try.prog 7 #[.agg #[.slice A0 x0.length c0, .slice A1 x1.length c1, .slice A2 x2.length c2, .slice A3 x3.length c3, .slice A4 x4.length c4, .slice A5 x5.length c5, .slice A6 x6.length c6, .slice A7 x7.length c7]] w fun e w' => e = .returned (.bool true) ∧ Below w.heap.size w w' := by
  have HF0_ := Aside0.mk hF0
  have HF1_ := Aside0.mk hF1
  have HF2_ := Aside0.mk hF2
  have HF3_ := Aside0.mk hF3
  have HE_ := Aside0.mk hE
  have HG_ := Aside0.mk hG
  have HK_ := Aside0.mk hK
  have HL_ := Aside0.mk hL
  have HS_ := Aside0.mk hS
  have HN_L := Aside0.mk hn
  have HM_L := Aside0.mk hm
  have HZ_L := Aside0.mk hz
  clear hF0 hF1 hF2 hF3 hE hG hK hL hS hn hm hz
  have hu25 := Try.underlying25
  have hu27 := Try.underlying27
  have hu60 := Try.underlying60
  have hu66 := Try.underlying66
  have SB := Since.refl w
  go_enter Try.func7, Try.ntmps7
  go_upto_region 1 with fail
  obtain ⟨BS, hb⟩ := blk_new1 w 66 #[.slice A0 x0.length c0, .slice A1 x1.length c1, .slice A2 x2.length c2, .slice A3 x3.length c3, .slice A4 x4.length c4, .slice A5 x5.length c5, .slice A6 x6.length c6, .slice A7 x7.length c7]
  replace R0 := R0.below hb
  replace R1 := R1.below hb
  replace R2 := R2.below hb
  replace R3 := R3.below hb
  replace R4 := R4.below hb
  replace R5 := R5.below hb
  replace R6 := R6.below hb
  replace R7 := R7.below hb
  replace SB := SB.step hb
  clear hb
  generalize hw : (w.alloc (.cells #[.slice A0 x0.length c0, .slice A1 x1.length c1, .slice A2 x2.length c2, .slice A3 x3.length c3, .slice A4 x4.length c4, .slice A5 x5.length c5, .slice A6 x6.length c6, .slice A7 x7.length c7] 66)) = w0 at *
  clear hw
  have BSx0 := BS.at 0 rfl
  have BSx1 := BS.at 1 rfl
  have BSx2 := BS.at 2 rfl
  have BSx3 := BS.at 3 rfl
  have BSx4 := BS.at 4 rfl
  have BSx5 := BS.at 5 rfl
  have BSx6 := BS.at 6 rfl
  have BSx7 := BS.at 7 rfl
  go_wp2_with fail
  refine (awake_calls _).mono ?_
  rintro e w1 ⟨rfl, hb⟩
  replace hb := below_step (show Below w0.heap.size w0 _ from by repeat (first | exact Below.refl _ _ | apply below_alloc | apply pw_below_drewN | apply below_drew1)) hb
  replace R0 := R0.below hb
  replace R1 := R1.below hb
  replace R2 := R2.below hb
  replace R3 := R3.below hb
  replace R4 := R4.below hb
  replace R5 := R5.below hb
  replace R6 := R6.below hb
  replace R7 := R7.below hb
  replace BS := BS.below hb
  replace SB := SB.step hb
  clear hb
  have BSx0 := BS.at 0 rfl
  have BSx1 := BS.at 1 rfl
  have BSx2 := BS.at 2 rfl
  have BSx3 := BS.at 3 rfl
  have BSx4 := BS.at 4 rfl
  have BSx5 := BS.at 5 rfl
  have BSx6 := BS.at 6 rfl
  have BSx7 := BS.at 7 rfl
  go_wp2_with fail
  refine (scarfjointref05_Few.calls _ _ x0 _ _ x1 true _ R0.at_ R0.cap R1.at_ R1.cap HF0_.out).mono ?_
  rintro e f0 ⟨rfl, hb⟩
  replace hb := below_step (show Below w1.heap.size w1 _ from by repeat (first | exact Below.refl _ _ | apply below_alloc | apply pw_below_drewN | apply below_drew1)) hb
  replace R0 := R0.below hb
  replace R1 := R1.below hb
  replace R2 := R2.below hb
  replace R3 := R3.below hb
  replace R4 := R4.below hb
  replace R5 := R5.below hb
  replace R6 := R6.below hb
  replace R7 := R7.below hb
  replace BS := BS.below hb
  replace SB := SB.step hb
  clear hb
  have BSx0 := BS.at 0 rfl
  have BSx1 := BS.at 1 rfl
  have BSx2 := BS.at 2 rfl
  have BSx3 := BS.at 3 rfl
  have BSx4 := BS.at 4 rfl
  have BSx5 := BS.at 5 rfl
  have BSx6 := BS.at 6 rfl
  have BSx7 := BS.at 7 rfl
  go_wp2_with fail
  refine (scarfjointref05_Few.calls _ _ x2 _ _ x3 true _ R2.at_ R2.cap R3.at_ R3.cap HF1_.out).mono ?_
  rintro e f1 ⟨rfl, hb⟩
  replace hb := below_step (show Below f0.heap.size f0 _ from by repeat (first | exact Below.refl _ _ | apply below_alloc | apply pw_below_drewN | apply below_drew1)) hb
  replace R0 := R0.below hb
  replace R1 := R1.below hb
  replace R2 := R2.below hb
  replace R3 := R3.below hb
  replace R4 := R4.below hb
  replace R5 := R5.below hb
  replace R6 := R6.below hb
  replace R7 := R7.below hb
  replace BS := BS.below hb
  replace SB := SB.step hb
  clear hb
  have BSx0 := BS.at 0 rfl
  have BSx1 := BS.at 1 rfl
  have BSx2 := BS.at 2 rfl
  have BSx3 := BS.at 3 rfl
  have BSx4 := BS.at 4 rfl
  have BSx5 := BS.at 5 rfl
  have BSx6 := BS.at 6 rfl
  have BSx7 := BS.at 7 rfl
  go_wp2_with fail
  refine (scarfjointref06_Few.calls _ _ x4 _ _ x5 150 true _ R4.at_ R4.cap R5.at_ R5.cap HF2_.out).mono ?_
  rintro e f2 ⟨rfl, hb⟩
  replace hb := below_step (show Below f1.heap.size f1 _ from by repeat (first | exact Below.refl _ _ | apply below_alloc | apply pw_below_drewN | apply below_drew1)) hb
  replace R0 := R0.below hb
  replace R1 := R1.below hb
  replace R2 := R2.below hb
  replace R3 := R3.below hb
  replace R4 := R4.below hb
  replace R5 := R5.below hb
  replace R6 := R6.below hb
  replace R7 := R7.below hb
  replace BS := BS.below hb
  replace SB := SB.step hb
  clear hb
  have BSx0 := BS.at 0 rfl
  have BSx1 := BS.at 1 rfl
  have BSx2 := BS.at 2 rfl
  have BSx3 := BS.at 3 rfl
  have BSx4 := BS.at 4 rfl
  have BSx5 := BS.at 5 rfl
  have BSx6 := BS.at 6 rfl
  have BSx7 := BS.at 7 rfl
  go_wp2_with fail
  refine (scarfjointref06_Few.calls _ _ x6 _ _ x7 150 true _ R6.at_ R6.cap R7.at_ R7.cap HF3_.out).mono ?_
  rintro e f3 ⟨rfl, hb⟩
  replace hb := below_step (show Below f2.heap.size f2 _ from by repeat (first | exact Below.refl _ _ | apply below_alloc | apply pw_below_drewN | apply below_drew1)) hb
  replace R0 := R0.below hb
  replace R1 := R1.below hb
  replace R2 := R2.below hb
  replace R3 := R3.below hb
  replace R4 := R4.below hb
  replace R5 := R5.below hb
  replace R6 := R6.below hb
  replace R7 := R7.below hb
  replace BS := BS.below hb
  replace SB := SB.step hb
  clear hb
  have BSx0 := BS.at 0 rfl
  have BSx1 := BS.at 1 rfl
  have BSx2 := BS.at 2 rfl
  have BSx3 := BS.at 3 rfl
  have BSx4 := BS.at 4 rfl
  have BSx5 := BS.at 5 rfl
  have BSx6 := BS.at 6 rfl
  have BSx7 := BS.at 7 rfl
  go_wp2_with fail
  refine (pullback_Equalizer.calls k _ _ x0 _ _ x1 _ _ x2 _ _ x3 _ _ x4 _ _ x5 _ _ x6 _ _ x7 p0 p1 e _ R0.at_ R0.cap R1.at_ R1.cap R2.at_ R2.cap R3.at_ R3.cap R4.at_ R4.cap R5.at_ R5.cap R6.at_ R6.cap R7.at_ R7.cap HE_.out).mono ?_
  rintro e w2 ⟨y0, y1, rfl, q0, q1, hb⟩
  replace hb := below_step (show Below f3.heap.size f3 _ from by repeat (first | exact Below.refl _ _ | apply below_alloc | apply pw_below_drewN | apply below_drew1)) hb
  replace R0 := R0.below hb
  replace R1 := R1.below hb
  replace R2 := R2.below hb
  replace R3 := R3.below hb
  replace R4 := R4.below hb
  replace R5 := R5.below hb
  replace R6 := R6.below hb
  replace R7 := R7.below hb
  replace BS := BS.below hb
  replace SB := SB.step hb
  clear hb
  obtain ⟨B0, b0, rfl, P0⟩ := Row.of_R q0
  clear q0
  obtain ⟨B1, b1, rfl, P1⟩ := Row.of_R q1
  clear q1
  go_upto_region 4 with fail
  obtain ⟨BP, hb⟩ := blk_new1 w2 60 #[.slice B0 p0.length b0, .slice B1 p1.length b1]
  replace R0 := R0.below hb
  replace R1 := R1.below hb
  replace R2 := R2.below hb
  replace R3 := R3.below hb
  replace R4 := R4.below hb
  replace R5 := R5.below hb
  replace R6 := R6.below hb
  replace R7 := R7.below hb
  replace P0 := P0.below hb
  replace P1 := P1.below hb
  replace BS := BS.below hb
  replace SB := SB.step hb
  clear hb
  generalize hw : (w2.alloc (.cells #[.slice B0 p0.length b0, .slice B1 p1.length b1] 60)) = w3 at *
  clear hw
  have BSx0 := BS.at 0 rfl
  have BSx1 := BS.at 1 rfl
  have BSx2 := BS.at 2 rfl
  have BSx3 := BS.at 3 rfl
  have BSx4 := BS.at 4 rfl
  have BSx5 := BS.at 5 rfl
  have BSx6 := BS.at 6 rfl
  have BSx7 := BS.at 7 rfl
  have BPx0 := BP.at 0 rfl
  have BPx1 := BP.at 1 rfl
  go_wp2_with fail
  refine (scarfjointref11_Equalizer.calls k _ _ x0 _ _ x1 _ _ x2 _ _ x3 _ _ x4 _ _ x5 _ _ x6 _ _ x7 p0 p1 e _ R0.at_ R0.cap R1.at_ R1.cap R2.at_ R2.cap R3.at_ R3.cap R4.at_ R4.cap R5.at_ R5.cap R6.at_ R6.cap R7.at_ R7.cap HG_.out).mono ?_
  rintro e w4 ⟨y0, y1, rfl, q0, q1, hb⟩
  replace hb := below_step (show Below w3.heap.size w3 _ from by repeat (first | exact Below.refl _ _ | apply below_alloc | apply pw_below_drewN | apply below_drew1)) hb
  replace R0 := R0.below hb
  replace R1 := R1.below hb
  replace R2 := R2.below hb
  replace R3 := R3.below hb
  replace R4 := R4.below hb
  replace R5 := R5.below hb
  replace R6 := R6.below hb
  replace R7 := R7.below hb
  replace P0 := P0.below hb
  replace P1 := P1.below hb
  replace BS := BS.below hb
  replace BP := BP.below hb
  replace SB := SB.step hb
  clear hb
  obtain ⟨D0, d0, rfl, Q0⟩ := Row.of_R q0
  clear q0
  obtain ⟨D1, d1, rfl, Q1⟩ := Row.of_R q1
  clear q1
  go_upto_region 5 with fail
  obtain ⟨BQ, hb⟩ := blk_new1 w4 60 #[.slice D0 p0.length d0, .slice D1 p1.length d1]
  replace R0 := R0.below hb
  replace R1 := R1.below hb
  replace R2 := R2.below hb
  replace R3 := R3.below hb
  replace R4 := R4.below hb
  replace R5 := R5.below hb
  replace R6 := R6.below hb
  replace R7 := R7.below hb
  replace P0 := P0.below hb
  replace P1 := P1.below hb
  replace Q0 := Q0.below hb
  replace Q1 := Q1.below hb
  replace BS := BS.below hb
  replace BP := BP.below hb
  replace SB := SB.step hb
  clear hb
  generalize hw : (w4.alloc (.cells #[.slice D0 p0.length d0, .slice D1 p1.length d1] 60)) = w5 at *
  clear hw
  have BSx0 := BS.at 0 rfl
  have BSx1 := BS.at 1 rfl
  have BSx2 := BS.at 2 rfl
  have BSx3 := BS.at 3 rfl
  have BSx4 := BS.at 4 rfl
  have BSx5 := BS.at 5 rfl
  have BSx6 := BS.at 6 rfl
  have BSx7 := BS.at 7 rfl
  have BPx0 := BP.at 0 rfl
  have BPx1 := BP.at 1 rfl
  have BQx0 := BQ.at 0 rfl
  have BQx1 := BQ.at 1 rfl
  go_wp2_with fail
  refine (pullback_Kernel.calls k _ _ x0 _ _ x1 _ _ x2 _ _ x3 _ _ x4 _ _ x5 n m g _ R0.at_ R0.cap R1.at_ R1.cap R2.at_ R2.cap R3.at_ R3.cap R4.at_ R4.cap R5.at_ R5.cap HK_.out).mono ?_
  rintro e w6 ⟨y0, y1, rfl, q0, q1, hb⟩
  replace hb := below_step (show Below w5.heap.size w5 _ from by repeat (first | exact Below.refl _ _ | apply below_alloc | apply pw_below_drewN | apply below_drew1)) hb
  replace R0 := R0.below hb
  replace R1 := R1.below hb
  replace R2 := R2.below hb
  replace R3 := R3.below hb
  replace R4 := R4.below hb
  replace R5 := R5.below hb
  replace R6 := R6.below hb
  replace R7 := R7.below hb
  replace P0 := P0.below hb
  replace P1 := P1.below hb
  replace Q0 := Q0.below hb
  replace Q1 := Q1.below hb
  replace BS := BS.below hb
  replace BP := BP.below hb
  replace BQ := BQ.below hb
  replace SB := SB.step hb
  clear hb
  obtain ⟨G0, g0, rfl, K0⟩ := Row.of_R q0
  clear q0
  obtain ⟨G1, g1, rfl, K1⟩ := Row.of_R q1
  clear q1
  have BSx0 := BS.at 0 rfl
  have BSx1 := BS.at 1 rfl
  have BSx2 := BS.at 2 rfl
  have BSx3 := BS.at 3 rfl
  have BSx4 := BS.at 4 rfl
  have BSx5 := BS.at 5 rfl
  have BSx6 := BS.at 6 rfl
  have BSx7 := BS.at 7 rfl
  have BPx0 := BP.at 0 rfl
  have BPx1 := BP.at 1 rfl
  have BQx0 := BQ.at 0 rfl
  have BQx1 := BQ.at 1 rfl
  go_wp2_with fail
  refine (scarfjointref11_Kernel.calls k _ _ x0 _ _ x1 _ _ x2 _ _ x3 _ _ x4 _ _ x5 n m g _ R0.at_ R0.cap R1.at_ R1.cap R2.at_ R2.cap R3.at_ R3.cap R4.at_ R4.cap R5.at_ R5.cap HL_.out).mono ?_
  rintro e w7 ⟨y0, y1, rfl, q0, q1, hb⟩
  replace hb := below_step (show Below w6.heap.size w6 _ from by repeat (first | exact Below.refl _ _ | apply below_alloc | apply pw_below_drewN | apply below_drew1)) hb
  replace R0 := R0.below hb
  replace R1 := R1.below hb
  replace R2 := R2.below hb
  replace R3 := R3.below hb
  replace R4 := R4.below hb
  replace R5 := R5.below hb
  replace R6 := R6.below hb
  replace R7 := R7.below hb
  replace P0 := P0.below hb
  replace P1 := P1.below hb
  replace Q0 := Q0.below hb
  replace Q1 := Q1.below hb
  replace K0 := K0.below hb
  replace K1 := K1.below hb
  replace BS := BS.below hb
  replace BP := BP.below hb
  replace BQ := BQ.below hb
  replace SB := SB.step hb
  clear hb
  obtain ⟨H0, h0, rfl, L0⟩ := Row.of_R q0
  clear q0
  obtain ⟨H1, h1, rfl, L1⟩ := Row.of_R q1
  clear q1
  have BSx0 := BS.at 0 rfl
  have BSx1 := BS.at 1 rfl
  have BSx2 := BS.at 2 rfl
  have BSx3 := BS.at 3 rfl
  have BSx4 := BS.at 4 rfl
  have BSx5 := BS.at 5 rfl
  have BSx6 := BS.at 6 rfl
  have BSx7 := BS.at 7 rfl
  have BPx0 := BP.at 0 rfl
  have BPx1 := BP.at 1 rfl
  have BQx0 := BQ.at 0 rfl
  have BQx1 := BQ.at 1 rfl
  go_wp2_with fail
  refine (scarfjointref07_Same.calls k _ _ p0 _ _ p1 _ _ p0 _ _ p1 true _ P0.at_ P0.cap P1.at_ P1.cap Q0.at_ Q0.cap Q1.at_ Q1.cap HS_.out).mono ?_
  rintro e w8 ⟨rfl, hb⟩
  replace hb := below_step (show Below w7.heap.size w7 _ from by repeat (first | exact Below.refl _ _ | apply below_alloc | apply pw_below_drewN | apply below_drew1)) hb
  replace R0 := R0.below hb
  replace R1 := R1.below hb
  replace R2 := R2.below hb
  replace R3 := R3.below hb
  replace R4 := R4.below hb
  replace R5 := R5.below hb
  replace R6 := R6.below hb
  replace R7 := R7.below hb
  replace P0 := P0.below hb
  replace P1 := P1.below hb
  replace Q0 := Q0.below hb
  replace Q1 := Q1.below hb
  replace K0 := K0.below hb
  replace K1 := K1.below hb
  replace L0 := L0.below hb
  replace L1 := L1.below hb
  replace BS := BS.below hb
  replace BP := BP.below hb
  replace BQ := BQ.below hb
  replace SB := SB.step hb
  clear hb
  have BSx0 := BS.at 0 rfl
  have BSx1 := BS.at 1 rfl
  have BSx2 := BS.at 2 rfl
  have BSx3 := BS.at 3 rfl
  have BSx4 := BS.at 4 rfl
  have BSx5 := BS.at 5 rfl
  have BSx6 := BS.at 6 rfl
  have BSx7 := BS.at 7 rfl
  have BPx0 := BP.at 0 rfl
  have BPx1 := BP.at 1 rfl
  have BQx0 := BQ.at 0 rfl
  have BQx1 := BQ.at 1 rfl
  go_wp2_with fail
  refine (scarfjointref11_SamePairs.calls k _ _ n _ _ n true _ K0.at_ K0.cap L0.at_ L0.cap HN_L.out).mono ?_
  rintro e w9 ⟨rfl, hd⟩
  have hb := hd.below
  clear hd
  replace hb := below_step (show Below w8.heap.size w8 _ from by repeat (first | exact Below.refl _ _ | apply below_alloc | apply pw_below_drewN | apply below_drew1)) hb
  replace R0 := R0.below hb
  replace R1 := R1.below hb
  replace R2 := R2.below hb
  replace R3 := R3.below hb
  replace R4 := R4.below hb
  replace R5 := R5.below hb
  replace R6 := R6.below hb
  replace R7 := R7.below hb
  replace P0 := P0.below hb
  replace P1 := P1.below hb
  replace Q0 := Q0.below hb
  replace Q1 := Q1.below hb
  replace K0 := K0.below hb
  replace K1 := K1.below hb
  replace L0 := L0.below hb
  replace L1 := L1.below hb
  replace BS := BS.below hb
  replace BP := BP.below hb
  replace BQ := BQ.below hb
  replace SB := SB.step hb
  clear hb
  have BSx0 := BS.at 0 rfl
  have BSx1 := BS.at 1 rfl
  have BSx2 := BS.at 2 rfl
  have BSx3 := BS.at 3 rfl
  have BSx4 := BS.at 4 rfl
  have BSx5 := BS.at 5 rfl
  have BSx6 := BS.at 6 rfl
  have BSx7 := BS.at 7 rfl
  have BPx0 := BP.at 0 rfl
  have BPx1 := BP.at 1 rfl
  have BQx0 := BQ.at 0 rfl
  have BQx1 := BQ.at 1 rfl
  go_wp2_with fail
  refine (scarfjointref11_SamePairs.calls k _ _ m _ _ m true _ K1.at_ K1.cap L1.at_ L1.cap HM_L.out).mono ?_
  rintro e wa ⟨rfl, hd⟩
  have hb := hd.below
  clear hd
  replace hb := below_step (show Below w9.heap.size w9 _ from by repeat (first | exact Below.refl _ _ | apply below_alloc | apply pw_below_drewN | apply below_drew1)) hb
  replace R0 := R0.below hb
  replace R1 := R1.below hb
  replace R2 := R2.below hb
  replace R3 := R3.below hb
  replace R4 := R4.below hb
  replace R5 := R5.below hb
  replace R6 := R6.below hb
  replace R7 := R7.below hb
  replace P0 := P0.below hb
  replace P1 := P1.below hb
  replace Q0 := Q0.below hb
  replace Q1 := Q1.below hb
  replace K0 := K0.below hb
  replace K1 := K1.below hb
  replace L0 := L0.below hb
  replace L1 := L1.below hb
  replace BS := BS.below hb
  replace BP := BP.below hb
  replace BQ := BQ.below hb
  replace SB := SB.step hb
  clear hb
  have BSx0 := BS.at 0 rfl
  have BSx1 := BS.at 1 rfl
  have BSx2 := BS.at 2 rfl
  have BSx3 := BS.at 3 rfl
  have BSx4 := BS.at 4 rfl
  have BSx5 := BS.at 5 rfl
  have BSx6 := BS.at 6 rfl
  have BSx7 := BS.at 7 rfl
  have BPx0 := BP.at 0 rfl
  have BPx1 := BP.at 1 rfl
  have BQx0 := BQ.at 0 rfl
  have BQx1 := BQ.at 1 rfl
  have hz : (g != 0) = true := bne_iff_ne.mpr HZ_L.out
  go_wp2_with fail
  try go_wp2_with fail
  go_ret
  exact ⟨rfl, SB.get⟩
set_option maxHeartbeats 4000000 in
set_option maxRecDepth 100000 in
theorem law7_b (k : Nat) (A0 : Option Addr) (c0 : Nat) (x0 : List Int) (A1 : Option Addr) (c1 : Nat) (x1 : List S94) (A2 : Option Addr) (c2 : Nat) (x2 : List Int) (A3 : Option Addr) (c3 : Nat) (x3 : List S94) (A4 : Option Addr) (c4 : Nat) (x4 : List Int) (A5 : Option Addr) (c5 : Nat) (x5 : List Int) (A6 : Option Addr) (c6 : Nat) (x6 : List Int) (A7 : Option Addr) (c7 : Nat) (x7 : List Int) (w : World)
    (R0 : Row (Kd.int .i64) w A0 c0 x0) (R1 : Row k94 w A1 c1 x1) (R2 : Row (Kd.int .i64) w A2 c2 x2) (R3 : Row k94 w A3 c3 x3) (R4 : Row (Kd.int .i64) w A4 c4 x4) (R5 : Row (Kd.int .i64) w A5 c5 x5) (R6 : Row (Kd.int .i64) w A6 c6 x6) (R7 : Row (Kd.int .i64) w A7 c7 x7) (p0 p1 : List Int) (e : Int) (n m : List S79) (b : Bool)
    (hF0 : scarfjointref05_Few.f x0 x1 = some true)
    (hF1 : scarfjointref05_Few.f x2 x3 = some true)
    (hF2 : scarfjointref06_Few.f x4 x5 150 = some true)
    (hF3 : scarfjointref06_Few.f x6 x7 150 = some true)
    (hE : pullback_Equalizer.f k x0 x1 x2 x3 x4 x5 x6 x7 = some (p0, p1, e))
    (hG : scarfjointref11_Equalizer.f k x0 x1 x2 x3 x4 x5 x6 x7 = some (p0, p1, e))
    (hK : pullback_Kernel.f k x0 x1 x2 x3 x4 x5 = some (n, m, 0))
    (hL : scarfjointref11_Kernel.f k x0 x1 x2 x3 x4 x5 = some (n, m, 0))
    (hS : scarfjointref07_Same.f k p0 p1 p0 p1 = some true)
    (hn : scarfjointref11_SamePairs.f k n n = some true)
    (hm : scarfjointref11_SamePairs.f k m m = some true)
    (hI : scarfjointref06_Injective.f k x0 x1 x2 x3 x4 x5 = some b)
    (hs : decide (wrap64 ((n.length : Int) + (m.length : Int)) = 0) = b) :
    Calls Try.prog 7 #[.agg #[.slice A0 x0.length c0, .slice A1 x1.length c1, .slice A2 x2.length c2, .slice A3 x3.length c3, .slice A4 x4.length c4, .slice A5 x5.length c5, .slice A6 x6.length c6, .slice A7 x7.length c7]] w fun e w' => e = .returned (.bool true) ∧ Below w.heap.size w w' := by
  have HF0_ := Aside0.mk hF0
  have HF1_ := Aside0.mk hF1
  have HF2_ := Aside0.mk hF2
  have HF3_ := Aside0.mk hF3
  have HE_ := Aside0.mk hE
  have HG_ := Aside0.mk hG
  have HK_ := Aside0.mk hK
  have HL_ := Aside0.mk hL
  have HS_ := Aside0.mk hS
  have HN_L := Aside0.mk hn
  have HM_L := Aside0.mk hm
  have HI_ := Aside0.mk hI
  have HS_L := Aside0.mk hs
  clear hF0 hF1 hF2 hF3 hE hG hK hL hS hn hm hI hs
  have hu25 := Try.underlying25
  have hu27 := Try.underlying27
  have hu60 := Try.underlying60
  have hu66 := Try.underlying66
  have SB := Since.refl w
  go_enter Try.func7, Try.ntmps7
  go_upto_region 1 with fail
  obtain ⟨BS, hb⟩ := blk_new1 w 66 #[.slice A0 x0.length c0, .slice A1 x1.length c1, .slice A2 x2.length c2, .slice A3 x3.length c3, .slice A4 x4.length c4, .slice A5 x5.length c5, .slice A6 x6.length c6, .slice A7 x7.length c7]
  replace R0 := R0.below hb
  replace R1 := R1.below hb
  replace R2 := R2.below hb
  replace R3 := R3.below hb
  replace R4 := R4.below hb
  replace R5 := R5.below hb
  replace R6 := R6.below hb
  replace R7 := R7.below hb
  replace SB := SB.step hb
  clear hb
  generalize hw : (w.alloc (.cells #[.slice A0 x0.length c0, .slice A1 x1.length c1, .slice A2 x2.length c2, .slice A3 x3.length c3, .slice A4 x4.length c4, .slice A5 x5.length c5, .slice A6 x6.length c6, .slice A7 x7.length c7] 66)) = w0 at *
  clear hw
  have BSx0 := BS.at 0 rfl
  have BSx1 := BS.at 1 rfl
  have BSx2 := BS.at 2 rfl
  have BSx3 := BS.at 3 rfl
  have BSx4 := BS.at 4 rfl
  have BSx5 := BS.at 5 rfl
  have BSx6 := BS.at 6 rfl
  have BSx7 := BS.at 7 rfl
  go_wp2_with fail
  refine (awake_calls _).mono ?_
  rintro e w1 ⟨rfl, hb⟩
  replace hb := below_step (show Below w0.heap.size w0 _ from by repeat (first | exact Below.refl _ _ | apply below_alloc | apply pw_below_drewN | apply below_drew1)) hb
  replace R0 := R0.below hb
  replace R1 := R1.below hb
  replace R2 := R2.below hb
  replace R3 := R3.below hb
  replace R4 := R4.below hb
  replace R5 := R5.below hb
  replace R6 := R6.below hb
  replace R7 := R7.below hb
  replace BS := BS.below hb
  replace SB := SB.step hb
  clear hb
  have BSx0 := BS.at 0 rfl
  have BSx1 := BS.at 1 rfl
  have BSx2 := BS.at 2 rfl
  have BSx3 := BS.at 3 rfl
  have BSx4 := BS.at 4 rfl
  have BSx5 := BS.at 5 rfl
  have BSx6 := BS.at 6 rfl
  have BSx7 := BS.at 7 rfl
  go_wp2_with fail
  refine (scarfjointref05_Few.calls _ _ x0 _ _ x1 true _ R0.at_ R0.cap R1.at_ R1.cap HF0_.out).mono ?_
  rintro e f0 ⟨rfl, hb⟩
  replace hb := below_step (show Below w1.heap.size w1 _ from by repeat (first | exact Below.refl _ _ | apply below_alloc | apply pw_below_drewN | apply below_drew1)) hb
  replace R0 := R0.below hb
  replace R1 := R1.below hb
  replace R2 := R2.below hb
  replace R3 := R3.below hb
  replace R4 := R4.below hb
  replace R5 := R5.below hb
  replace R6 := R6.below hb
  replace R7 := R7.below hb
  replace BS := BS.below hb
  replace SB := SB.step hb
  clear hb
  have BSx0 := BS.at 0 rfl
  have BSx1 := BS.at 1 rfl
  have BSx2 := BS.at 2 rfl
  have BSx3 := BS.at 3 rfl
  have BSx4 := BS.at 4 rfl
  have BSx5 := BS.at 5 rfl
  have BSx6 := BS.at 6 rfl
  have BSx7 := BS.at 7 rfl
  go_wp2_with fail
  refine (scarfjointref05_Few.calls _ _ x2 _ _ x3 true _ R2.at_ R2.cap R3.at_ R3.cap HF1_.out).mono ?_
  rintro e f1 ⟨rfl, hb⟩
  replace hb := below_step (show Below f0.heap.size f0 _ from by repeat (first | exact Below.refl _ _ | apply below_alloc | apply pw_below_drewN | apply below_drew1)) hb
  replace R0 := R0.below hb
  replace R1 := R1.below hb
  replace R2 := R2.below hb
  replace R3 := R3.below hb
  replace R4 := R4.below hb
  replace R5 := R5.below hb
  replace R6 := R6.below hb
  replace R7 := R7.below hb
  replace BS := BS.below hb
  replace SB := SB.step hb
  clear hb
  have BSx0 := BS.at 0 rfl
  have BSx1 := BS.at 1 rfl
  have BSx2 := BS.at 2 rfl
  have BSx3 := BS.at 3 rfl
  have BSx4 := BS.at 4 rfl
  have BSx5 := BS.at 5 rfl
  have BSx6 := BS.at 6 rfl
  have BSx7 := BS.at 7 rfl
  go_wp2_with fail
  refine (scarfjointref06_Few.calls _ _ x4 _ _ x5 150 true _ R4.at_ R4.cap R5.at_ R5.cap HF2_.out).mono ?_
  rintro e f2 ⟨rfl, hb⟩
  replace hb := below_step (show Below f1.heap.size f1 _ from by repeat (first | exact Below.refl _ _ | apply below_alloc | apply pw_below_drewN | apply below_drew1)) hb
  replace R0 := R0.below hb
  replace R1 := R1.below hb
  replace R2 := R2.below hb
  replace R3 := R3.below hb
  replace R4 := R4.below hb
  replace R5 := R5.below hb
  replace R6 := R6.below hb
  replace R7 := R7.below hb
  replace BS := BS.below hb
  replace SB := SB.step hb
  clear hb
  have BSx0 := BS.at 0 rfl
  have BSx1 := BS.at 1 rfl
  have BSx2 := BS.at 2 rfl
  have BSx3 := BS.at 3 rfl
  have BSx4 := BS.at 4 rfl
  have BSx5 := BS.at 5 rfl
  have BSx6 := BS.at 6 rfl
  have BSx7 := BS.at 7 rfl
  go_wp2_with fail
  refine (scarfjointref06_Few.calls _ _ x6 _ _ x7 150 true _ R6.at_ R6.cap R7.at_ R7.cap HF3_.out).mono ?_
  rintro e f3 ⟨rfl, hb⟩
  replace hb := below_step (show Below f2.heap.size f2 _ from by repeat (first | exact Below.refl _ _ | apply below_alloc | apply pw_below_drewN | apply below_drew1)) hb
  replace R0 := R0.below hb
  replace R1 := R1.below hb
  replace R2 := R2.below hb
  replace R3 := R3.below hb
  replace R4 := R4.below hb
  replace R5 := R5.below hb
  replace R6 := R6.below hb
  replace R7 := R7.below hb
  replace BS := BS.below hb
  replace SB := SB.step hb
  clear hb
  have BSx0 := BS.at 0 rfl
  have BSx1 := BS.at 1 rfl
  have BSx2 := BS.at 2 rfl
  have BSx3 := BS.at 3 rfl
  have BSx4 := BS.at 4 rfl
  have BSx5 := BS.at 5 rfl
  have BSx6 := BS.at 6 rfl
  have BSx7 := BS.at 7 rfl
  go_wp2_with fail
  refine (pullback_Equalizer.calls k _ _ x0 _ _ x1 _ _ x2 _ _ x3 _ _ x4 _ _ x5 _ _ x6 _ _ x7 p0 p1 e _ R0.at_ R0.cap R1.at_ R1.cap R2.at_ R2.cap R3.at_ R3.cap R4.at_ R4.cap R5.at_ R5.cap R6.at_ R6.cap R7.at_ R7.cap HE_.out).mono ?_
  rintro e w2 ⟨y0, y1, rfl, q0, q1, hb⟩
  replace hb := below_step (show Below f3.heap.size f3 _ from by repeat (first | exact Below.refl _ _ | apply below_alloc | apply pw_below_drewN | apply below_drew1)) hb
  replace R0 := R0.below hb
  replace R1 := R1.below hb
  replace R2 := R2.below hb
  replace R3 := R3.below hb
  replace R4 := R4.below hb
  replace R5 := R5.below hb
  replace R6 := R6.below hb
  replace R7 := R7.below hb
  replace BS := BS.below hb
  replace SB := SB.step hb
  clear hb
  obtain ⟨B0, b0, rfl, P0⟩ := Row.of_R q0
  clear q0
  obtain ⟨B1, b1, rfl, P1⟩ := Row.of_R q1
  clear q1
  go_upto_region 4 with fail
  obtain ⟨BP, hb⟩ := blk_new1 w2 60 #[.slice B0 p0.length b0, .slice B1 p1.length b1]
  replace R0 := R0.below hb
  replace R1 := R1.below hb
  replace R2 := R2.below hb
  replace R3 := R3.below hb
  replace R4 := R4.below hb
  replace R5 := R5.below hb
  replace R6 := R6.below hb
  replace R7 := R7.below hb
  replace P0 := P0.below hb
  replace P1 := P1.below hb
  replace BS := BS.below hb
  replace SB := SB.step hb
  clear hb
  generalize hw : (w2.alloc (.cells #[.slice B0 p0.length b0, .slice B1 p1.length b1] 60)) = w3 at *
  clear hw
  have BSx0 := BS.at 0 rfl
  have BSx1 := BS.at 1 rfl
  have BSx2 := BS.at 2 rfl
  have BSx3 := BS.at 3 rfl
  have BSx4 := BS.at 4 rfl
  have BSx5 := BS.at 5 rfl
  have BSx6 := BS.at 6 rfl
  have BSx7 := BS.at 7 rfl
  have BPx0 := BP.at 0 rfl
  have BPx1 := BP.at 1 rfl
  go_wp2_with fail
  refine (scarfjointref11_Equalizer.calls k _ _ x0 _ _ x1 _ _ x2 _ _ x3 _ _ x4 _ _ x5 _ _ x6 _ _ x7 p0 p1 e _ R0.at_ R0.cap R1.at_ R1.cap R2.at_ R2.cap R3.at_ R3.cap R4.at_ R4.cap R5.at_ R5.cap R6.at_ R6.cap R7.at_ R7.cap HG_.out).mono ?_
  rintro e w4 ⟨y0, y1, rfl, q0, q1, hb⟩
  replace hb := below_step (show Below w3.heap.size w3 _ from by repeat (first | exact Below.refl _ _ | apply below_alloc | apply pw_below_drewN | apply below_drew1)) hb
  replace R0 := R0.below hb
  replace R1 := R1.below hb
  replace R2 := R2.below hb
  replace R3 := R3.below hb
  replace R4 := R4.below hb
  replace R5 := R5.below hb
  replace R6 := R6.below hb
  replace R7 := R7.below hb
  replace P0 := P0.below hb
  replace P1 := P1.below hb
  replace BS := BS.below hb
  replace BP := BP.below hb
  replace SB := SB.step hb
  clear hb
  obtain ⟨D0, d0, rfl, Q0⟩ := Row.of_R q0
  clear q0
  obtain ⟨D1, d1, rfl, Q1⟩ := Row.of_R q1
  clear q1
  go_upto_region 5 with fail
  obtain ⟨BQ, hb⟩ := blk_new1 w4 60 #[.slice D0 p0.length d0, .slice D1 p1.length d1]
  replace R0 := R0.below hb
  replace R1 := R1.below hb
  replace R2 := R2.below hb
  replace R3 := R3.below hb
  replace R4 := R4.below hb
  replace R5 := R5.below hb
  replace R6 := R6.below hb
  replace R7 := R7.below hb
  replace P0 := P0.below hb
  replace P1 := P1.below hb
  replace Q0 := Q0.below hb
  replace Q1 := Q1.below hb
  replace BS := BS.below hb
  replace BP := BP.below hb
  replace SB := SB.step hb
  clear hb
  generalize hw : (w4.alloc (.cells #[.slice D0 p0.length d0, .slice D1 p1.length d1] 60)) = w5 at *
  clear hw
  have BSx0 := BS.at 0 rfl
  have BSx1 := BS.at 1 rfl
  have BSx2 := BS.at 2 rfl
  have BSx3 := BS.at 3 rfl
  have BSx4 := BS.at 4 rfl
  have BSx5 := BS.at 5 rfl
  have BSx6 := BS.at 6 rfl
  have BSx7 := BS.at 7 rfl
  have BPx0 := BP.at 0 rfl
  have BPx1 := BP.at 1 rfl
  have BQx0 := BQ.at 0 rfl
  have BQx1 := BQ.at 1 rfl
  go_wp2_with fail
  refine (pullback_Kernel.calls k _ _ x0 _ _ x1 _ _ x2 _ _ x3 _ _ x4 _ _ x5 n m 0 _ R0.at_ R0.cap R1.at_ R1.cap R2.at_ R2.cap R3.at_ R3.cap R4.at_ R4.cap R5.at_ R5.cap HK_.out).mono ?_
  rintro e w6 ⟨y0, y1, rfl, q0, q1, hb⟩
  replace hb := below_step (show Below w5.heap.size w5 _ from by repeat (first | exact Below.refl _ _ | apply below_alloc | apply pw_below_drewN | apply below_drew1)) hb
  replace R0 := R0.below hb
  replace R1 := R1.below hb
  replace R2 := R2.below hb
  replace R3 := R3.below hb
  replace R4 := R4.below hb
  replace R5 := R5.below hb
  replace R6 := R6.below hb
  replace R7 := R7.below hb
  replace P0 := P0.below hb
  replace P1 := P1.below hb
  replace Q0 := Q0.below hb
  replace Q1 := Q1.below hb
  replace BS := BS.below hb
  replace BP := BP.below hb
  replace BQ := BQ.below hb
  replace SB := SB.step hb
  clear hb
  obtain ⟨G0, g0, rfl, K0⟩ := Row.of_R q0
  clear q0
  obtain ⟨G1, g1, rfl, K1⟩ := Row.of_R q1
  clear q1
  have BSx0 := BS.at 0 rfl
  have BSx1 := BS.at 1 rfl
  have BSx2 := BS.at 2 rfl
  have BSx3 := BS.at 3 rfl
  have BSx4 := BS.at 4 rfl
  have BSx5 := BS.at 5 rfl
  have BSx6 := BS.at 6 rfl
  have BSx7 := BS.at 7 rfl
  have BPx0 := BP.at 0 rfl
  have BPx1 := BP.at 1 rfl
  have BQx0 := BQ.at 0 rfl
  have BQx1 := BQ.at 1 rfl
  go_wp2_with fail
  refine (scarfjointref11_Kernel.calls k _ _ x0 _ _ x1 _ _ x2 _ _ x3 _ _ x4 _ _ x5 n m 0 _ R0.at_ R0.cap R1.at_ R1.cap R2.at_ R2.cap R3.at_ R3.cap R4.at_ R4.cap R5.at_ R5.cap HL_.out).mono ?_
  rintro e w7 ⟨y0, y1, rfl, q0, q1, hb⟩
  replace hb := below_step (show Below w6.heap.size w6 _ from by repeat (first | exact Below.refl _ _ | apply below_alloc | apply pw_below_drewN | apply below_drew1)) hb
  replace R0 := R0.below hb
  replace R1 := R1.below hb
  replace R2 := R2.below hb
  replace R3 := R3.below hb
  replace R4 := R4.below hb
  replace R5 := R5.below hb
  replace R6 := R6.below hb
  replace R7 := R7.below hb
  replace P0 := P0.below hb
  replace P1 := P1.below hb
  replace Q0 := Q0.below hb
  replace Q1 := Q1.below hb
  replace K0 := K0.below hb
  replace K1 := K1.below hb
  replace BS := BS.below hb
  replace BP := BP.below hb
  replace BQ := BQ.below hb
  replace SB := SB.step hb
  clear hb
  obtain ⟨H0, h0, rfl, L0⟩ := Row.of_R q0
  clear q0
  obtain ⟨H1, h1, rfl, L1⟩ := Row.of_R q1
  clear q1
  have BSx0 := BS.at 0 rfl
  have BSx1 := BS.at 1 rfl
  have BSx2 := BS.at 2 rfl
  have BSx3 := BS.at 3 rfl
  have BSx4 := BS.at 4 rfl
  have BSx5 := BS.at 5 rfl
  have BSx6 := BS.at 6 rfl
  have BSx7 := BS.at 7 rfl
  have BPx0 := BP.at 0 rfl
  have BPx1 := BP.at 1 rfl
  have BQx0 := BQ.at 0 rfl
  have BQx1 := BQ.at 1 rfl
  go_wp2_with fail
  refine (scarfjointref07_Same.calls k _ _ p0 _ _ p1 _ _ p0 _ _ p1 true _ P0.at_ P0.cap P1.at_ P1.cap Q0.at_ Q0.cap Q1.at_ Q1.cap HS_.out).mono ?_
  rintro e w8 ⟨rfl, hb⟩
  replace hb := below_step (show Below w7.heap.size w7 _ from by repeat (first | exact Below.refl _ _ | apply below_alloc | apply pw_below_drewN | apply below_drew1)) hb
  replace R0 := R0.below hb
  replace R1 := R1.below hb
  replace R2 := R2.below hb
  replace R3 := R3.below hb
  replace R4 := R4.below hb
  replace R5 := R5.below hb
  replace R6 := R6.below hb
  replace R7 := R7.below hb
  replace P0 := P0.below hb
  replace P1 := P1.below hb
  replace Q0 := Q0.below hb
  replace Q1 := Q1.below hb
  replace K0 := K0.below hb
  replace K1 := K1.below hb
  replace L0 := L0.below hb
  replace L1 := L1.below hb
  replace BS := BS.below hb
  replace BP := BP.below hb
  replace BQ := BQ.below hb
  replace SB := SB.step hb
  clear hb
  have BSx0 := BS.at 0 rfl
  have BSx1 := BS.at 1 rfl
  have BSx2 := BS.at 2 rfl
  have BSx3 := BS.at 3 rfl
  have BSx4 := BS.at 4 rfl
  have BSx5 := BS.at 5 rfl
  have BSx6 := BS.at 6 rfl
  have BSx7 := BS.at 7 rfl
  have BPx0 := BP.at 0 rfl
  have BPx1 := BP.at 1 rfl
  have BQx0 := BQ.at 0 rfl
  have BQx1 := BQ.at 1 rfl
  go_wp2_with fail
  refine (scarfjointref11_SamePairs.calls k _ _ n _ _ n true _ K0.at_ K0.cap L0.at_ L0.cap HN_L.out).mono ?_
  rintro e w9 ⟨rfl, hd⟩
  have hb := hd.below
  clear hd
  replace hb := below_step (show Below w8.heap.size w8 _ from by repeat (first | exact Below.refl _ _ | apply below_alloc | apply pw_below_drewN | apply below_drew1)) hb
  replace R0 := R0.below hb
  replace R1 := R1.below hb
  replace R2 := R2.below hb
  replace R3 := R3.below hb
  replace R4 := R4.below hb
  replace R5 := R5.below hb
  replace R6 := R6.below hb
  replace R7 := R7.below hb
  replace P0 := P0.below hb
  replace P1 := P1.below hb
  replace Q0 := Q0.below hb
  replace Q1 := Q1.below hb
  replace K0 := K0.below hb
  replace K1 := K1.below hb
  replace L0 := L0.below hb
  replace L1 := L1.below hb
  replace BS := BS.below hb
  replace BP := BP.below hb
  replace BQ := BQ.below hb
  replace SB := SB.step hb
  clear hb
  have BSx0 := BS.at 0 rfl
  have BSx1 := BS.at 1 rfl
  have BSx2 := BS.at 2 rfl
  have BSx3 := BS.at 3 rfl
  have BSx4 := BS.at 4 rfl
  have BSx5 := BS.at 5 rfl
  have BSx6 := BS.at 6 rfl
  have BSx7 := BS.at 7 rfl
  have BPx0 := BP.at 0 rfl
  have BPx1 := BP.at 1 rfl
  have BQx0 := BQ.at 0 rfl
  have BQx1 := BQ.at 1 rfl
  go_wp2_with fail
  refine (scarfjointref11_SamePairs.calls k _ _ m _ _ m true _ K1.at_ K1.cap L1.at_ L1.cap HM_L.out).mono ?_
  rintro e wa ⟨rfl, hd⟩
  have hb := hd.below
  clear hd
  replace hb := below_step (show Below w9.heap.size w9 _ from by repeat (first | exact Below.refl _ _ | apply below_alloc | apply pw_below_drewN | apply below_drew1)) hb
  replace R0 := R0.below hb
  replace R1 := R1.below hb
  replace R2 := R2.below hb
  replace R3 := R3.below hb
  replace R4 := R4.below hb
  replace R5 := R5.below hb
  replace R6 := R6.below hb
  replace R7 := R7.below hb
  replace P0 := P0.below hb
  replace P1 := P1.below hb
  replace Q0 := Q0.below hb
  replace Q1 := Q1.below hb
  replace K0 := K0.below hb
  replace K1 := K1.below hb
  replace L0 := L0.below hb
  replace L1 := L1.below hb
  replace BS := BS.below hb
  replace BP := BP.below hb
  replace BQ := BQ.below hb
  replace SB := SB.step hb
  clear hb
  have BSx0 := BS.at 0 rfl
  have BSx1 := BS.at 1 rfl
  have BSx2 := BS.at 2 rfl
  have BSx3 := BS.at 3 rfl
  have BSx4 := BS.at 4 rfl
  have BSx5 := BS.at 5 rfl
  have BSx6 := BS.at 6 rfl
  have BSx7 := BS.at 7 rfl
  have BPx0 := BP.at 0 rfl
  have BPx1 := BP.at 1 rfl
  have BQx0 := BQ.at 0 rfl
  have BQx1 := BQ.at 1 rfl
  have hs := HS_L.out
  go_wp2_with fail
  refine (scarfjointref06_Injective.calls k _ _ x0 _ _ x1 _ _ x2 _ _ x3 _ _ x4 _ _ x5 b _ R0.at_ R0.cap R1.at_ R1.cap R2.at_ R2.cap R3.at_ R3.cap R4.at_ R4.cap R5.at_ R5.cap HI_.out).mono ?_
  rintro e wb ⟨rfl, hb⟩
  replace hb := below_step (show Below wa.heap.size wa _ from by repeat (first | exact Below.refl _ _ | apply below_alloc | apply pw_below_drewN | apply below_drew1)) hb
  replace R0 := R0.below hb
  replace R1 := R1.below hb
  replace R2 := R2.below hb
  replace R3 := R3.below hb
  replace R4 := R4.below hb
  replace R5 := R5.below hb
  replace R6 := R6.below hb
  replace R7 := R7.below hb
  replace P0 := P0.below hb
  replace P1 := P1.below hb
  replace Q0 := Q0.below hb
  replace Q1 := Q1.below hb
  replace K0 := K0.below hb
  replace K1 := K1.below hb
  replace L0 := L0.below hb
  replace L1 := L1.below hb
  replace BS := BS.below hb
  replace BP := BP.below hb
  replace BQ := BQ.below hb
  replace SB := SB.step hb
  clear hb
  have BSx0 := BS.at 0 rfl
  have BSx1 := BS.at 1 rfl
  have BSx2 := BS.at 2 rfl
  have BSx3 := BS.at 3 rfl
  have BSx4 := BS.at 4 rfl
  have BSx5 := BS.at 5 rfl
  have BSx6 := BS.at 6 rfl
  have BSx7 := BS.at 7 rfl
  have BPx0 := BP.at 0 rfl
  have BPx1 := BP.at 1 rfl
  have BQx0 := BQ.at 0 rfl
  have BQx1 := BQ.at 1 rfl
  have hs := HS_L.out
  have hs' : (wrap64 ((n.length : Int) + (m.length : Int)) == 0) = b := hs
  have hbb : (b == b) = true := by cases b <;> rfl
  go_wp2_with fail
  try go_wp2_with fail
  go_ret
  exact ⟨rfl, SB.get⟩
end Go.Proofs.Ytillofiphkmjjaa.X

/- Plain laws: pairs of places, kernels, equalizers. -/
namespace Go.Proofs.Ytillofiphkmjjaa.Pl
open Go.RowKit Go.Proofs.YtillofiphkmjjaaW.PrintWords Go.Proofs.Ytillofiphkmjjaa.X
set_option linter.unusedVariables false

def agrees : Int → List Int → List Int → List Int
  | i, x :: r, y :: s => if x = y then i :: agrees (i + 1) r s else agrees (i + 1) r s
  | _, _, _ => []
theorem agrees_len : ∀ (r s : List Int) (i : Int), (agrees i r s).length ≤ r.length := by
  intro r
  induction r with
  | nil => intro s i; simp [agrees]
  | cons x r ih =>
    intro s i
    cases s with
    | nil => simp [agrees]
    | cons y s =>
      have := ih s (i + 1)
      unfold agrees
      split
      · simp; omega
      · simp; omega
theorem rd_mid' (pre : List Int) (x : Int) (r : List Int) {n : Nat} (h : n = pre.length) : rd (pre ++ x :: r) (n : Int) = x := by subst h; exact rd_mid pre x r
theorem lt_mid' {α : Type} (pre : List α) (x : α) (r : List α) {n : Nat} (h : n = pre.length) : (n : Int) < ((pre ++ x :: r).length : Int) := by subst h; exact lt_mid pre x r
theorem equal_l0' (l m : List Int) (hl : l.length ≤ 1000000) : ∀ (r pre s pre' acc : List Int), l = pre ++ r → m = pre' ++ s → pre.length = pre'.length → r.length = s.length → acc.length ≤ pre.length →
    Ev (fun k => pullback_equal.l0 k l m acc (l.length : Int) (pre.length : Int)) (acc ++ agrees pre.length r s) := by
  intro r
  induction r with
  | nil =>
    rintro pre s pre' acc rfl rfl h1 h2 h3
    refine Ev.step (fun k => by simp only [pullback_equal.l0]; rw [if_neg (by simp)]) ?_
    simpa [agrees] using Ev.now acc
  | cons x r ih =>
    rintro pre s pre' acc rfl rfl h1 h2 h3
    cases s with
    | nil => simp at h2
    | cons y s =>
      simp at hl
      have e : wrap64 ((pre.length : Int) + 1) = ((pre ++ [x]).length : Int) := wrap_mid pre x r (by simp; omega)
      by_cases hxy : x = y
      · have ih' := ih (pre ++ [x]) s (pre' ++ [y]) (acc ++ [(pre.length : Int)]) (snoc_mid pre x r) (snoc_mid pre' y s) (by simp [h1]) (by simpa using h2) (by simp; omega)
        refine Ev.step (fun k => by simp only [pullback_equal.l0]; rw [if_pos (lt_mid pre x r), if_pos (by omega), if_pos (lt_mid pre x r), if_pos (lt_mid' pre' y s h1), rd_mid, rd_mid' _ _ _ h1, if_pos hxy, if_pos (by omega), e]) ?_
        have e2 : agrees (pre.length : Int) (x :: r) (y :: s) = (pre.length : Int) :: agrees ((pre.length : Int) + 1) r s := by rw [agrees, if_pos hxy]
        rw [e2]
        simpa using ih'
      · have ih' := ih (pre ++ [x]) s (pre' ++ [y]) acc (snoc_mid pre x r) (snoc_mid pre' y s) (by simp [h1]) (by simpa using h2) (by simp; omega)
        refine Ev.step (fun k => by simp only [pullback_equal.l0]; rw [if_pos (lt_mid pre x r), if_pos (by omega), if_pos (lt_mid pre x r), if_pos (lt_mid' pre' y s h1), rd_mid, rd_mid' _ _ _ h1, if_neg hxy, e]) ?_
        have e2 : agrees (pre.length : Int) (x :: r) (y :: s) = agrees ((pre.length : Int) + 1) r s := by rw [agrees, if_neg hxy]
        rw [e2]
        simpa using ih'
theorem gequal_ev (l m : List Int) (hl : l.length ≤ 1000000) (h : l.length = m.length) : Ev (fun k => pullback_equal.f k l m) (agrees 0 l m) := by
  unfold pullback_equal.f
  simpa using equal_l0' l m hl l [] m [] [] rfl rfl rfl h (Nat.le_refl _)
theorem agree_l0 (l m : List Int) (hl : l.length ≤ 1000000) : ∀ (r pre s pre' acc : List Int), l = pre ++ r → m = pre' ++ s → pre.length = pre'.length → r.length = s.length → acc.length ≤ pre.length →
    Ev (fun k => scarfjointref11_agree.l0 k l m acc (pre.length : Int)) (acc ++ agrees pre.length r s) := by
  intro r
  induction r with
  | nil =>
    rintro pre s pre' acc rfl rfl h1 h2 h3
    refine Ev.step (fun k => by simp only [scarfjointref11_agree.l0]; rw [if_neg (by simp)]) ?_
    simpa [agrees] using Ev.now acc
  | cons x r ih =>
    rintro pre s pre' acc rfl rfl h1 h2 h3
    cases s with
    | nil => simp at h2
    | cons y s =>
      simp at hl
      have e : wrap64 ((pre.length : Int) + 1) = ((pre ++ [x]).length : Int) := wrap_mid pre x r (by simp; omega)
      by_cases hxy : x = y
      · have ih' := ih (pre ++ [x]) s (pre' ++ [y]) (acc ++ [(pre.length : Int)]) (snoc_mid pre x r) (snoc_mid pre' y s) (by simp [h1]) (by simpa using h2) (by simp; omega)
        refine Ev.step (fun k => by simp only [scarfjointref11_agree.l0]; rw [if_pos (lt_mid pre x r), if_pos (by omega), if_pos (lt_mid' pre' y s h1), rd_mid, rd_mid' _ _ _ h1, if_pos hxy, if_pos (by omega), e]) ?_
        have e2 : agrees (pre.length : Int) (x :: r) (y :: s) = (pre.length : Int) :: agrees ((pre.length : Int) + 1) r s := by rw [agrees, if_pos hxy]
        rw [e2]
        simpa using ih'
      · have ih' := ih (pre ++ [x]) s (pre' ++ [y]) acc (snoc_mid pre x r) (snoc_mid pre' y s) (by simp [h1]) (by simpa using h2) (by simp; omega)
        refine Ev.step (fun k => by simp only [scarfjointref11_agree.l0]; rw [if_pos (lt_mid pre x r), if_pos (by omega), if_pos (lt_mid' pre' y s h1), rd_mid, rd_mid' _ _ _ h1, if_neg hxy, e]) ?_
        have e2 : agrees (pre.length : Int) (x :: r) (y :: s) = agrees ((pre.length : Int) + 1) r s := by rw [agrees, if_neg hxy]
        rw [e2]
        simpa using ih'
theorem ragree_ev (l m : List Int) (hl : l.length ≤ 1000000) (h : l.length = m.length) : Ev (fun k => scarfjointref11_agree.f k l m) (agrees 0 l m) := by
  unfold scarfjointref11_agree.f
  simpa using agree_l0 l m hl l [] m [] [] rfl rfl rfl h (Nat.le_refl _)

/-! pairs of places -/
def row1 (i x : Int) : Int → List Int → List S79
  | _, [] => []
  | k, y :: s => if x = y then ⟨i, k⟩ :: row1 i x (k + 1) s else row1 i x (k + 1) s
def rows (g : List Int) : Int → List Int → List S79
  | _, [] => []
  | i, x :: r => row1 i x 0 g ++ rows g (i + 1) r
def tri : Int → List Int → List S79
  | _, [] => []
  | i, x :: r => row1 i x (i + 1) r ++ tri (i + 1) r
theorem row1_len (i x : Int) : ∀ (s : List Int) (k : Int), (row1 i x k s).length ≤ s.length := by
  intro s
  induction s with
  | nil => intro k; simp [row1]
  | cons y s ih =>
    intro k
    have := ih (k + 1)
    unfold row1
    split <;> simp <;> omega
theorem pairs_l1 (f g : List Int) (i x : Int) {R : List S79} (hg : g.length ≤ 1000000) : ∀ (r pre : List Int) (acc : List S79), g = pre ++ r → acc.length + r.length ≤ 8796093022207 →
    Ev (fun k => pullback_pairs.l0 k g (acc ++ row1 i x pre.length r) f (f.length : Int) (wrap64 (i + 1))) R → Ev (fun k => pullback_pairs.l1 k g acc i x f (f.length : Int) i g (g.length : Int) (pre.length : Int)) R := by
  intro r
  induction r with
  | nil =>
    rintro pre acc rfl h1 h
    refine Ev.step (fun k => by simp only [pullback_pairs.l1]; rw [if_neg (by simp)]) ?_
    simpa [row1] using h
  | cons y r ih =>
    rintro pre acc rfl h1 h
    simp at hg h1
    have e : wrap64 ((pre.length : Int) + 1) = ((pre ++ [y]).length : Int) := wrap_mid pre y r (by simp; omega)
    by_cases hxy : x = y
    · refine Ev.step (fun k => by simp only [pullback_pairs.l1]; rw [if_pos (lt_mid pre y r), if_pos (by omega), if_pos (lt_mid pre y r), rd_mid, if_pos hxy, if_pos (by omega), e]) ?_
      refine ih (pre ++ [y]) _ (snoc_mid pre y r) (by simp; omega) ?_
      have e2 : row1 i x (pre.length : Int) (y :: r) = ⟨i, (pre.length : Int)⟩ :: row1 i x ((pre.length : Int) + 1) r := by rw [row1, if_pos hxy]
      rw [e2] at h
      simpa using h
    · refine Ev.step (fun k => by simp only [pullback_pairs.l1]; rw [if_pos (lt_mid pre y r), if_pos (by omega), if_pos (lt_mid pre y r), rd_mid, if_neg hxy, e]) ?_
      refine ih (pre ++ [y]) _ (snoc_mid pre y r) (by omega) ?_
      have e2 : row1 i x (pre.length : Int) (y :: r) = row1 i x ((pre.length : Int) + 1) r := by rw [row1, if_neg hxy]
      rw [e2] at h
      simpa using h
theorem pairs_l0 (f g : List Int) (hf : f.length ≤ 1000000) (hg : g.length ≤ 1000000) : ∀ (r pre : List Int) (acc : List S79), f = pre ++ r → acc.length + r.length * g.length ≤ 8796093022207 →
    Ev (fun k => pullback_pairs.l0 k g acc f (f.length : Int) (pre.length : Int)) (acc ++ rows g pre.length r) := by
  intro r
  induction r with
  | nil =>
    rintro pre acc rfl h1
    refine Ev.step (fun k => by simp only [pullback_pairs.l0]; rw [if_neg (by simp)]) ?_
    simpa [rows] using Ev.now acc
  | cons x r ih =>
    rintro pre acc rfl h1
    rw [List.length_cons, Nat.succ_mul] at h1
    have e : wrap64 ((pre.length : Int) + 1) = ((pre ++ [x]).length : Int) := wrap_mid pre x r (by omega)
    have hr := row1_len (pre.length : Int) x g 0
    have ih' := ih (pre ++ [x]) (acc ++ row1 (pre.length : Int) x 0 g) (snoc_mid pre x r) (by rw [List.length_append]; omega)
    refine Ev.step (fun k => by simp only [pullback_pairs.l0]; rw [if_pos (lt_mid pre x r), if_pos (by omega), if_pos (lt_mid pre x r), rd_mid]) ?_
    refine pairs_l1 (pre ++ x :: r) g (pre.length : Int) x hg g [] acc rfl (by omega) ?_
    rw [e]
    have e2 : rows g (pre.length : Int) (x :: r) = row1 (pre.length : Int) x 0 g ++ rows g ((pre.length : Int) + 1) r := rfl
    rw [e2]
    simpa using ih'
theorem pairs_ev (f g : List Int) (hf : f.length ≤ 1000000) (hg : g.length ≤ 1000000) : Ev (fun k => pullback_pairs.f k f g) (rows g 0 f) := by
  unfold pullback_pairs.f
  have := Nat.mul_le_mul hf hg
  simpa using pairs_l0 f g hf hg f [] [] rfl (by simp; omega)
/-! the reference's kernel -/
theorem requal_l1 (f : List Int) (hf : f.length ≤ 1000000) (p : List Int) (x : Int) (q : List Int) (hp : f = p ++ x :: q) {R : List S79} : ∀ (r pre : List Int) (acc : List S79), f = pre ++ r → acc.length + r.length ≤ 8796093022207 →
    Ev (fun k => scarfjointref11_equal.l0 k f (acc ++ row1 p.length x pre.length r) (wrap64 ((p.length : Int) + 1))) R → Ev (fun k => scarfjointref11_equal.l1 k f acc (p.length : Int) (pre.length : Int)) R := by
  intro r
  have hlt : (p.length : Int) < (f.length : Int) := by rw [hp]; exact lt_mid p x q
  have hrd : rd f (p.length : Int) = x := by rw [hp]; exact rd_mid p x q
  induction r with
  | nil =>
    rintro pre acc hpre h1 h
    refine Ev.step (fun k => by simp only [scarfjointref11_equal.l1]; rw [if_neg (by rw [hpre]; simp)]) ?_
    simpa [row1] using h
  | cons y r ih =>
    rintro pre acc hpre h1 h
    have hl2 : (pre.length : Int) < (f.length : Int) := by rw [hpre]; exact lt_mid pre y r
    have hr2 : rd f (pre.length : Int) = y := by rw [hpre]; exact rd_mid pre y r
    have e : wrap64 ((pre.length : Int) + 1) = ((pre ++ [y]).length : Int) := wrap_mid pre y r (by rw [← hpre]; omega)
    rw [List.length_cons] at h1
    by_cases hxy : x = y
    · refine Ev.step (fun k => by simp only [scarfjointref11_equal.l1]; rw [if_pos hl2, if_pos (by omega), if_pos hlt, if_pos (by omega), hrd, hr2, if_pos hxy, if_pos (by omega), e]) ?_
      refine ih (pre ++ [y]) _ (by rw [hpre]; exact snoc_mid pre y r) (by simp; omega) ?_
      have e2 : row1 p.length x (pre.length : Int) (y :: r) = ⟨(p.length : Int), (pre.length : Int)⟩ :: row1 p.length x ((pre.length : Int) + 1) r := by rw [row1, if_pos hxy]
      rw [e2] at h
      simpa using h
    · refine Ev.step (fun k => by simp only [scarfjointref11_equal.l1]; rw [if_pos hl2, if_pos (by omega), if_pos hlt, if_pos (by omega), hrd, hr2, if_neg hxy, e]) ?_
      refine ih (pre ++ [y]) _ (by rw [hpre]; exact snoc_mid pre y r) (by omega) ?_
      have e2 : row1 p.length x (pre.length : Int) (y :: r) = row1 p.length x ((pre.length : Int) + 1) r := by rw [row1, if_neg hxy]
      rw [e2] at h
      simpa using h
theorem requal_l0 (f : List Int) (hf : f.length ≤ 1000000) : ∀ (r pre : List Int) (acc : List S79), f = pre ++ r → acc.length + r.length * f.length ≤ 8796093022207 →
    Ev (fun k => scarfjointref11_equal.l0 k f acc (pre.length : Int)) (acc ++ tri pre.length r) := by
  intro r
  induction r with
  | nil =>
    rintro pre acc rfl h1
    refine Ev.step (fun k => by simp only [scarfjointref11_equal.l0]; rw [if_neg (by simp)]) ?_
    simpa [tri] using Ev.now acc
  | cons x r ih =>
    rintro pre acc hp h1
    have hl : (pre.length : Int) < (f.length : Int) := by rw [hp]; exact lt_mid pre x r
    have hlr : r.length ≤ f.length := by rw [hp]; simp; omega
    rw [List.length_cons, Nat.succ_mul] at h1
    have e : wrap64 ((pre.length : Int) + 1) = ((pre ++ [x]).length : Int) := wrap_mid pre x r (by rw [← hp]; omega)
    have hr := row1_len (pre.length : Int) x r ((pre.length : Int) + 1)
    have ih' := ih (pre ++ [x]) (acc ++ row1 (pre.length : Int) x ((pre.length : Int) + 1) r) (by rw [hp]; exact snoc_mid pre x r) (by rw [List.length_append]; omega)
    refine Ev.step (fun k => by simp only [scarfjointref11_equal.l0]; rw [if_pos hl, e]) ?_
    refine requal_l1 f hf pre x r hp r (pre ++ [x]) acc (by rw [hp]; exact snoc_mid pre x r) (by omega) ?_
    rw [e]
    have e2 : tri (pre.length : Int) (x :: r) = row1 (pre.length : Int) x ((pre.length : Int) + 1) r ++ tri ((pre.length : Int) + 1) r := rfl
    rw [e2]
    simpa using ih'
theorem requal_ev (f : List Int) (hf : f.length ≤ 1000000) : Ev (fun k => scarfjointref11_equal.f k f) (tri 0 f) := by
  unfold scarfjointref11_equal.f
  have := Nat.mul_le_mul hf hf
  simpa using requal_l0 f hf f [] [] rfl (by simp; omega)
/-! both kernels are one -/
theorem row1_append (i x : Int) : ∀ (a b : List Int) (k : Int), row1 i x k (a ++ b) = row1 i x k a ++ row1 i x (k + a.length) b := by
  intro a
  induction a with
  | nil => intro b k; simp [row1]
  | cons y a ih =>
    intro b k
    have e : k + 1 + (a.length : Int) = k + ((y :: a).length : Int) := by simp; omega
    simp only [List.cons_append, row1]
    split
    · rw [ih, e]; rfl
    · rw [ih, e]
theorem row1_mem (i x : Int) : ∀ (s : List Int) (k : Int) (p : S79), p ∈ row1 i x k s → p.f0 = i ∧ k ≤ p.f1 ∧ p.f1 < k + s.length := by
  intro s
  induction s with
  | nil => intro k p h; simp [row1] at h
  | cons y s ih =>
    intro k p h
    unfold row1 at h
    have hi := ih (k + 1) p
    split at h
    · rcases List.mem_cons.mp h with rfl | h
      · refine ⟨rfl, Int.le_refl _, ?_⟩
        simp; omega
      · have := hi h
        refine ⟨this.1, by omega, ?_⟩
        simp; omega
    · have := hi h
      refine ⟨this.1, by omega, ?_⟩
      simp; omega
theorem rows_filter (f : List Int) : ∀ (r pre : List Int), f = pre ++ r → (rows f pre.length r).filter (fun p => !decide (p.f0 ≥ p.f1)) = tri pre.length r := by
  intro r
  induction r with
  | nil => intro pre h; rfl
  | cons x r ih =>
    intro pre h
    have ih' := ih (pre ++ [x]) (by rw [h]; exact snoc_mid pre x r)
    have e2 : tri (pre.length : Int) (x :: r) = row1 (pre.length : Int) x ((pre.length : Int) + 1) r ++ tri ((pre.length : Int) + 1) r := rfl
    have e3 : rows f (pre.length : Int) (x :: r) = row1 (pre.length : Int) x 0 f ++ rows f ((pre.length : Int) + 1) r := rfl
    have e4 : row1 (pre.length : Int) x 0 f = row1 (pre.length : Int) x 0 (pre ++ [x]) ++ row1 (pre.length : Int) x ((pre.length : Int) + 1) r := by
      conv => lhs; rw [h, snoc_mid pre x r, row1_append]
      simp
    rw [e2, e3, e4, List.filter_append, List.filter_append]
    have e5 : (row1 (pre.length : Int) x 0 (pre ++ [x])).filter (fun p => !decide (p.f0 ≥ p.f1)) = [] := by
      rw [List.filter_eq_nil_iff]
      intro p hp
      obtain ⟨h1, h2, h3⟩ := row1_mem _ _ _ _ _ hp
      simp at h3
      have : p.f0 ≥ p.f1 := by omega
      simp [this]
    have e6 : (row1 (pre.length : Int) x ((pre.length : Int) + 1) r).filter (fun p => !decide (p.f0 ≥ p.f1)) = row1 (pre.length : Int) x ((pre.length : Int) + 1) r := by
      rw [List.filter_eq_self]
      intro p hp
      obtain ⟨h1, h2, h3⟩ := row1_mem _ _ _ _ _ hp
      have : ¬ p.f0 ≥ p.f1 := by omega
      simp [this]
    rw [e5, e6]
    have e7 : ((pre ++ [x]).length : Int) = (pre.length : Int) + 1 := by simp
    rw [e7] at ih'
    rw [ih']
    rfl
theorem row1_nil (i x : Int) : ∀ (s : List Int) (k : Int), row1 i x k s = [] ↔ x ∉ s := by
  intro s
  induction s with
  | nil => intro k; simp [row1]
  | cons y s ih =>
    intro k
    unfold row1
    by_cases h : x = y
    · simp [h]
    · simp [h, ih]
theorem tri_nil : ∀ (l : List Int) (i : Int), tri i l = [] ↔ l.Nodup := by
  intro l
  induction l with
  | nil => intro i; simp [tri]
  | cons x r ih =>
    intro i
    rw [tri, List.append_eq_nil_iff, row1_nil, ih, List.nodup_cons]
/-! Distinct -/
def dup : List Int → List Int → Bool
  | _, [] => true
  | pre, x :: r => if x ∈ pre then false else dup (pre ++ [x]) r
theorem dup_nodup : ∀ (r pre : List Int), dup pre r = true ↔ (∀ x ∈ r, x ∉ pre) ∧ r.Nodup := by
  intro r
  induction r with
  | nil => intro pre; simp [dup]
  | cons x r ih =>
    intro pre
    unfold dup
    by_cases h : x ∈ pre
    · rw [if_pos h]
      simp [h]
    · rw [if_neg h, ih, List.nodup_cons]
      constructor
      · rintro ⟨h1, h2⟩
        refine ⟨fun y hy => ?_, fun hx => ?_, h2⟩
        · rcases List.mem_cons.mp hy with rfl | hy
          · exact h
          · exact fun hp => h1 y hy (List.mem_append_left _ hp)
        · exact h1 x hx (by simp)
      · rintro ⟨h1, h2, h3⟩
        refine ⟨fun y hy hp => ?_, h3⟩
        rcases List.mem_append.mp hp with hp | hp
        · exact h1 y (List.mem_cons_of_mem _ hy) hp
        · rw [List.mem_singleton.mp hp] at hy
          exact h2 hy
theorem distinct_l1 (f : List Int) (hf : f.length ≤ 1000000) (p : List Int) (x : Int) (q : List Int) (hp : f = p ++ x :: q) {R : Bool} (hR : Ev (fun k => scarfjointref06_Distinct.l0 k f (wrap64 ((p.length : Int) + 1))) R) : ∀ (r pre : List Int), p = pre ++ r →
    Ev (fun k => scarfjointref06_Distinct.l1 k f (p.length : Int) (pre.length : Int)) (if x ∈ r then false else R) := by
  intro r
  have hlt : (p.length : Int) < (f.length : Int) := by rw [hp]; exact lt_mid p x q
  have hrd : rd f (p.length : Int) = x := by rw [hp]; exact rd_mid p x q
  induction r with
  | nil =>
    rintro pre hpre
    refine Ev.step (fun k => by simp only [scarfjointref06_Distinct.l1]; rw [if_neg (by rw [hpre]; simp)]) ?_
    simpa using hR
  | cons y r ih =>
    rintro pre hpre
    have hl1 : (pre.length : Int) < (p.length : Int) := by rw [hpre]; exact lt_mid pre y r
    have hl2 : (pre.length : Int) < (f.length : Int) := by omega
    have hr2 : rd f (pre.length : Int) = y := by rw [hp, hpre, List.append_assoc]; exact rd_mid pre y _
    have e : wrap64 ((pre.length : Int) + 1) = ((pre ++ [y]).length : Int) := by simp; unfold wrap64; omega
    by_cases hxy : x = y
    · refine Ev.step (fun k => by simp only [scarfjointref06_Distinct.l1]; rw [if_pos hl1, if_pos (by omega), if_pos hlt, if_pos (by omega), if_pos hl2, hrd, hr2, if_pos hxy]) ?_
      rw [if_pos (by simp [hxy])]
      exact Ev.now _
    · refine Ev.step (fun k => by simp only [scarfjointref06_Distinct.l1]; rw [if_pos hl1, if_pos (by omega), if_pos hlt, if_pos (by omega), if_pos hl2, hrd, hr2, if_neg hxy, e]) ?_
      have ih' := ih (pre ++ [y]) (by rw [hpre]; exact snoc_mid pre y r)
      have : (x ∈ y :: r) ↔ x ∈ r := by simp [hxy]
      simpa only [this] using ih'
theorem distinct_l0 (f : List Int) (hf : f.length ≤ 1000000) : ∀ (r pre : List Int), f = pre ++ r → Ev (fun k => scarfjointref06_Distinct.l0 k f (pre.length : Int)) (dup pre r) := by
  intro r
  induction r with
  | nil =>
    rintro pre rfl
    refine Ev.step (fun k => by simp only [scarfjointref06_Distinct.l0]; rw [if_neg (by simp)]) ?_
    exact Ev.now _
  | cons x r ih =>
    rintro pre hp
    have hl : (pre.length : Int) < (f.length : Int) := by rw [hp]; exact lt_mid pre x r
    have e : wrap64 ((pre.length : Int) + 1) = ((pre ++ [x]).length : Int) := wrap_mid pre x r (by rw [← hp]; omega)
    refine Ev.step (fun k => by simp only [scarfjointref06_Distinct.l0]; rw [if_pos hl]) ?_
    have ih' := ih (pre ++ [x]) (by rw [hp]; exact snoc_mid pre x r)
    rw [← e] at ih'
    unfold dup
    exact distinct_l1 f hf pre x r hp ih' pre [] rfl
theorem distinct_ev (f : List Int) (hf : f.length ≤ 1000000) : Ev (fun k => scarfjointref06_Distinct.f k f) (decide f.Nodup) := by
  unfold scarfjointref06_Distinct.f
  have h := distinct_l0 f hf f [] rfl
  have e : dup [] f = decide f.Nodup := by
    rw [Bool.eq_iff_iff, dup_nodup]
    simp
  rw [e] at h
  simpa using h
/-! a list of pairs is the same as itself -/
theorem rd79_mid (pre : List S79) (x : S79) (r : List S79) : rd_T79 (pre ++ x :: r) (pre.length : Int) = x := by
  unfold rd_T79; rw [Int.toNat_natCast, List.getD_eq_getElem?_getD, List.getElem?_append_right (Nat.le_refl _)]; simp
theorem samePairs_l0 (l : List S79) (hl : l.length ≤ 9223372036854775807) : ∀ (r pre : List S79), l = pre ++ r → Ev (fun k => scarfjointref11_SamePairs.l0 k l l (pre.length : Int)) true := by
  intro r
  induction r with
  | nil =>
    rintro pre rfl
    exact Ev.step (fun k => by simp only [scarfjointref11_SamePairs.l0]; rw [if_neg (by simp)]) (Ev.now _)
  | cons x r ih =>
    rintro pre rfl
    refine Ev.step (fun k => by simp only [scarfjointref11_SamePairs.l0]; rw [if_pos (lt_mid pre x r), if_pos (by omega), if_pos (lt_mid pre x r), if_neg (by simp), wrap_mid pre x r hl]) (ih (pre ++ [x]) (snoc_mid pre x r))
theorem samePairs_self (l : List S79) (hl : l.length ≤ 9223372036854775807) : Ev (fun k => scarfjointref11_SamePairs.f k l l) true := by
  unfold scarfjointref11_SamePairs.f
  simp only [if_true]
  exact samePairs_l0 l hl l [] rfl
theorem same07_self (a b : List Int) (ha : a.length ≤ 1000000) (hb : b.length ≤ 1000000) : Ev (fun k => scarfjointref07_Same.f k a b a b) true := by
  unfold scarfjointref07_Same.f
  refine Ev.bind (sameInts_self a ha) ?_
  simp only [if_true]
  refine Ev.bind (sameInts_self b hb) ?_
  exact Ev.now _
theorem tri_len : ∀ (l : List Int) (i : Int), (tri i l).length ≤ l.length * l.length := by
  intro l
  induction l with
  | nil => intro i; simp [tri]
  | cons x r ih =>
    intro i
    have h1 := ih (i + 1)
    have h2 := row1_len i x r (i + 1)
    rw [tri, List.length_append, List.length_cons, Nat.succ_mul, Nat.mul_succ]
    omega
end Go.Proofs.Ytillofiphkmjjaa.Pl

/- The plain law of PullbackEqualizer, and the walk with it: the law answers true. -/
namespace Go.Proofs.Ytillofiphkmjjaa.Pl
open Go.RowKit Go.Proofs.YtillofiphkmjjaaW.PrintWords Go.Proofs.Ytillofiphkmjjaa.X
set_option linter.unusedVariables false
theorem mvalid_len {a0 : List Int} {a1 : List S94} {b0 : List Int} {b1 : List S94} {n m : List Int} (h : mvalid a0 a1 b0 b1 n m = 0) : validE a0 a1 = 0 ∧ validE b0 b1 = 0 ∧ n.length = a0.length ∧ m.length = a1.length ∧ n.length ≤ 40 ∧ m.length ≤ 80 := by
  unfold mvalid at h
  split at h
  · rename_i h1
    split at h
    · rename_i h2
      split at h
      · exact absurd h (by decide)
      · rename_i h3
        obtain ⟨g1, g2, -⟩ := okE_of h1
        refine ⟨h1, h2, ?_, ?_, ?_, ?_⟩ <;> omega
    · rename_i h2
      exact absurd h h2
  · rename_i h1
    exact absurd h h1
def kerR (x0 : List Int) (x1 : List S94) (x2 : List Int) (x3 : List S94) (x4 x5 : List Int) : List S79 × List S79 × Int := if mvalid x0 x1 x2 x3 x4 x5 = 0 then (tri 0 x4, tri 0 x5, 0) else ([], [], mvalid x0 x1 x2 x3 x4 x5)
def eqR (x0 : List Int) (x1 : List S94) (x2 : List Int) (x3 : List S94) (x4 x5 x6 x7 : List Int) : List Int × List Int × Int :=
  if mvalid x0 x1 x2 x3 x4 x5 = 0 then (if mvalid x0 x1 x2 x3 x6 x7 = 0 then (agrees 0 x4 x6, agrees 0 x5 x7, 0) else ([], [], mvalid x0 x1 x2 x3 x6 x7)) else ([], [], mvalid x0 x1 x2 x3 x4 x5)
section
variable (x0 : List Int) (x1 : List S94) (x2 : List Int) (x3 : List S94) (x4 x5 x6 x7 : List Int)
theorem gker_ev : Ev (fun k => pullback_Kernel.f k x0 x1 x2 x3 x4 x5) (kerR x0 x1 x2 x3 x4 x5) := by
  unfold pullback_Kernel.f kerR
  by_cases h : mvalid x0 x1 x2 x3 x4 x5 = 0
  · simp only [if_pos h]
    obtain ⟨-, -, -, -, h1, h2⟩ := mvalid_len h
    refine Ev.bind (pairs_ev x4 x4 (by omega) (by omega)) (Ev.bind (pairs_ev x5 x5 (by omega) (by omega)) ?_)
    have e1 := rows_filter x4 x4 [] rfl
    have e2 := rows_filter x5 x5 [] rfl
    simp only [List.length_nil, Int.natCast_zero] at e1 e2
    rw [← e1, ← e2]
    exact Ev.now _
  · simp only [if_neg h]
    exact Ev.now _
theorem rker_ev : Ev (fun k => scarfjointref11_Kernel.f k x0 x1 x2 x3 x4 x5) (kerR x0 x1 x2 x3 x4 x5) := by
  unfold scarfjointref11_Kernel.f scarfjointref06_Valid.f kerR
  simp only [Option.bind_some]
  by_cases h : mvalid x0 x1 x2 x3 x4 x5 = 0
  · simp only [if_pos h]
    obtain ⟨-, -, -, -, h1, h2⟩ := mvalid_len h
    exact Ev.bind (requal_ev x4 (by omega)) (Ev.bind (requal_ev x5 (by omega)) (Ev.now _))
  · simp only [if_neg h]
    exact Ev.now _
theorem geq_ev : Ev (fun k => pullback_Equalizer.f k x0 x1 x2 x3 x4 x5 x6 x7) (eqR x0 x1 x2 x3 x4 x5 x6 x7) := by
  unfold pullback_Equalizer.f morphism_Valid.f eqR
  simp only [Option.bind_some]
  by_cases h : mvalid x0 x1 x2 x3 x4 x5 = 0
  · simp only [if_pos h]
    by_cases h' : mvalid x0 x1 x2 x3 x6 x7 = 0
    · simp only [if_pos h']
      obtain ⟨-, -, h1, h2, h3, h4⟩ := mvalid_len h
      obtain ⟨-, -, h5, h6, -, -⟩ := mvalid_len h'
      exact Ev.bind (gequal_ev x4 x6 (by omega) (by omega)) (Ev.bind (gequal_ev x5 x7 (by omega) (by omega)) (Ev.now _))
    · simp only [if_neg h']
      exact Ev.now _
  · simp only [if_neg h]
    exact Ev.now _
theorem req_ev : Ev (fun k => scarfjointref11_Equalizer.f k x0 x1 x2 x3 x4 x5 x6 x7) (eqR x0 x1 x2 x3 x4 x5 x6 x7) := by
  unfold scarfjointref11_Equalizer.f scarfjointref06_Valid.f eqR
  simp only [Option.bind_some]
  by_cases h : mvalid x0 x1 x2 x3 x4 x5 = 0
  · simp only [if_pos h]
    by_cases h' : mvalid x0 x1 x2 x3 x6 x7 = 0
    · simp only [if_pos h']
      obtain ⟨-, -, h1, h2, h3, h4⟩ := mvalid_len h
      obtain ⟨-, -, h5, h6, -, -⟩ := mvalid_len h'
      exact Ev.bind (ragree_ev x4 x6 (by omega) (by omega)) (Ev.bind (ragree_ev x5 x7 (by omega) (by omega)) (Ev.now _))
    · simp only [if_neg h']
      exact Ev.now _
  · simp only [if_neg h]
    exact Ev.now _
theorem inj_ev (h : mvalid x0 x1 x2 x3 x4 x5 = 0) : Ev (fun k => scarfjointref06_Injective.f k x0 x1 x2 x3 x4 x5) (decide x4.Nodup && decide x5.Nodup) := by
  unfold scarfjointref06_Injective.f scarfjointref06_Valid.f
  simp only [Option.bind_some, if_pos h]
  obtain ⟨-, -, -, -, h1, h2⟩ := mvalid_len h
  refine Ev.bind (distinct_ev x4 (by omega)) ?_
  by_cases hn : x4.Nodup
  · simp only [hn, decide_true, if_true, Bool.true_and]
    exact Ev.bind (distinct_ev x5 (by omega)) (Ev.now _)
  · simp only [hn, decide_false, Bool.false_and, Bool.false_eq_true, if_false]
    exact Ev.now _
end
end Go.Proofs.Ytillofiphkmjjaa.Pl
namespace Go.Proofs.Ytillofiphkmjjaa.Pure
open Go.RowKit Go.Proofs.YtillofiphkmjjaaW.PrintWords Go.Proofs.Ytillofiphkmjjaa.X Go.Proofs.Ytillofiphkmjjaa.Pl
set_option linter.unusedVariables false
theorem PullbackEqualizer_walk (A0 : Option Addr) (c0 : Nat) (x0 : List Int) (A1 : Option Addr) (c1 : Nat) (x1 : List S94) (A2 : Option Addr) (c2 : Nat) (x2 : List Int) (A3 : Option Addr) (c3 : Nat) (x3 : List S94) (A4 : Option Addr) (c4 : Nat) (x4 : List Int) (A5 : Option Addr) (c5 : Nat) (x5 : List Int) (A6 : Option Addr) (c6 : Nat) (x6 : List Int) (A7 : Option Addr) (c7 : Nat) (x7 : List Int) (w : World)
    (h0 : Kd.C (Kd.int .i64) w A0 x0.length x0) (hc0 : x0.length ≤ c0) (h1 : Kd.C k94 w A1 x1.length x1) (hc1 : x1.length ≤ c1) (h2 : Kd.C (Kd.int .i64) w A2 x2.length x2) (hc2 : x2.length ≤ c2) (h3 : Kd.C k94 w A3 x3.length x3) (hc3 : x3.length ≤ c3)
    (h4 : Kd.C (Kd.int .i64) w A4 x4.length x4) (hc4 : x4.length ≤ c4) (h5 : Kd.C (Kd.int .i64) w A5 x5.length x5) (hc5 : x5.length ≤ c5) (h6 : Kd.C (Kd.int .i64) w A6 x6.length x6) (hc6 : x6.length ≤ c6) (h7 : Kd.C (Kd.int .i64) w A7 x7.length x7) (hc7 : x7.length ≤ c7) :
    Calls Try.prog 7 #[.agg #[.slice A0 x0.length c0, .slice A1 x1.length c1, .slice A2 x2.length c2, .slice A3 x3.length c3, .slice A4 x4.length c4, .slice A5 x5.length c5, .slice A6 x6.length c6, .slice A7 x7.length c7]] w fun e w' => e = .returned (.bool true) ∧ Below w.heap.size w w' := by
  have f0 := few_eq x0 x1
  have f1 := few_eq x2 x3
  have f2 : scarfjointref06_Few.f x4 x5 150 = some (decide (wrap64 ((x4.length : Int) + (x5.length : Int)) ≤ 150)) := rfl
  have f3 : scarfjointref06_Few.f x6 x7 150 = some (decide (wrap64 ((x6.length : Int) + (x7.length : Int)) ≤ 150)) := rfl
  cases b0 : decide (x0.length ≤ 45 ∧ x1.length ≤ 90) with
  | false => rw [b0] at f0; exact law7_few0 A0 c0 x0 A1 c1 x1 A2 c2 x2 A3 c3 x3 A4 c4 x4 A5 c5 x5 A6 c6 x6 A7 c7 x7 w ⟨hc0, h0⟩ ⟨hc1, h1⟩ ⟨hc2, h2⟩ ⟨hc3, h3⟩ ⟨hc4, h4⟩ ⟨hc5, h5⟩ ⟨hc6, h6⟩ ⟨hc7, h7⟩ f0
  | true =>
  rw [b0] at f0
  cases b1 : decide (x2.length ≤ 45 ∧ x3.length ≤ 90) with
  | false => rw [b1] at f1; exact law7_few1 A0 c0 x0 A1 c1 x1 A2 c2 x2 A3 c3 x3 A4 c4 x4 A5 c5 x5 A6 c6 x6 A7 c7 x7 w ⟨hc0, h0⟩ ⟨hc1, h1⟩ ⟨hc2, h2⟩ ⟨hc3, h3⟩ ⟨hc4, h4⟩ ⟨hc5, h5⟩ ⟨hc6, h6⟩ ⟨hc7, h7⟩ f0 f1
  | true =>
  rw [b1] at f1
  cases b2 : decide (wrap64 ((x4.length : Int) + (x5.length : Int)) ≤ 150) with
  | false => rw [b2] at f2; exact law7_few2 A0 c0 x0 A1 c1 x1 A2 c2 x2 A3 c3 x3 A4 c4 x4 A5 c5 x5 A6 c6 x6 A7 c7 x7 w ⟨hc0, h0⟩ ⟨hc1, h1⟩ ⟨hc2, h2⟩ ⟨hc3, h3⟩ ⟨hc4, h4⟩ ⟨hc5, h5⟩ ⟨hc6, h6⟩ ⟨hc7, h7⟩ f0 f1 f2
  | true =>
  rw [b2] at f2
  cases b3 : decide (wrap64 ((x6.length : Int) + (x7.length : Int)) ≤ 150) with
  | false => rw [b3] at f3; exact law7_few3 A0 c0 x0 A1 c1 x1 A2 c2 x2 A3 c3 x3 A4 c4 x4 A5 c5 x5 A6 c6 x6 A7 c7 x7 w ⟨hc0, h0⟩ ⟨hc1, h1⟩ ⟨hc2, h2⟩ ⟨hc3, h3⟩ ⟨hc4, h4⟩ ⟨hc5, h5⟩ ⟨hc6, h6⟩ ⟨hc7, h7⟩ f0 f1 f2 f3
  | true =>
  rw [b3] at f3
  clear b0 b1 b2 b3
  obtain ⟨p0, p1, e, he⟩ : ∃ p0 p1 e, eqR x0 x1 x2 x3 x4 x5 x6 x7 = (p0, p1, e) := ⟨_, _, _, rfl⟩
  have hlen : p0.length ≤ 1000000 ∧ p1.length ≤ 1000000 := by
    unfold eqR at he
    split at he
    · rename_i hv
      obtain ⟨-, -, -, -, g1, g2⟩ := mvalid_len hv
      split at he
      · cases he
        have := agrees_len x4 x6 0
        have := agrees_len x5 x7 0
        omega
      · cases he; exact ⟨by simp, by simp⟩
    · cases he; exact ⟨by simp, by simp⟩
  obtain ⟨K0, hE⟩ := geq_ev x0 x1 x2 x3 x4 x5 x6 x7
  obtain ⟨K1, hG⟩ := req_ev x0 x1 x2 x3 x4 x5 x6 x7
  obtain ⟨K2, hK⟩ := gker_ev x0 x1 x2 x3 x4 x5
  obtain ⟨K3, hL⟩ := rker_ev x0 x1 x2 x3 x4 x5
  obtain ⟨K4, hS⟩ := same07_self p0 p1 hlen.1 hlen.2
  by_cases hv : mvalid x0 x1 x2 x3 x4 x5 = 0
  · obtain ⟨-, -, -, -, g1, g2⟩ := mvalid_len hv
    have t1 := tri_len x4 0
    have t2 := tri_len x5 0
    have m1 := Nat.mul_le_mul g1 g1
    have m2 := Nat.mul_le_mul g2 g2
    obtain ⟨K5, hn⟩ := samePairs_self (tri 0 x4) (by omega)
    obtain ⟨K6, hm⟩ := samePairs_self (tri 0 x5) (by omega)
    obtain ⟨K7, hI⟩ := inj_ev x0 x1 x2 x3 x4 x5 hv
    have hker : kerR x0 x1 x2 x3 x4 x5 = (tri 0 x4, tri 0 x5, 0) := if_pos hv
    obtain ⟨k, k0, k1, k2, k3, k4, k5, k6, k7⟩ : ∃ k, K0 ≤ k ∧ K1 ≤ k ∧ K2 ≤ k ∧ K3 ≤ k ∧ K4 ≤ k ∧ K5 ≤ k ∧ K6 ≤ k ∧ K7 ≤ k := ⟨K0 + K1 + K2 + K3 + K4 + K5 + K6 + K7, by omega, by omega, by omega, by omega, by omega, by omega, by omega, by omega⟩
    refine law7_b k A0 c0 x0 A1 c1 x1 A2 c2 x2 A3 c3 x3 A4 c4 x4 A5 c5 x5 A6 c6 x6 A7 c7 x7 w ⟨hc0, h0⟩ ⟨hc1, h1⟩ ⟨hc2, h2⟩ ⟨hc3, h3⟩ ⟨hc4, h4⟩ ⟨hc5, h5⟩ ⟨hc6, h6⟩ ⟨hc7, h7⟩ p0 p1 e _ _ _ f0 f1 f2 f3 ((hE k k0).trans (congrArg some he)) ((hG k k1).trans (congrArg some he)) ((hK k k2).trans (congrArg some hker)) ((hL k k3).trans (congrArg some hker)) (hS k k4) (hn k k5) (hm k k6) (hI k k7) ?_
    rw [Bool.eq_iff_iff, decide_eq_true_eq, Bool.and_eq_true, decide_eq_true_eq, decide_eq_true_eq, ← tri_nil x4 0, ← tri_nil x5 0, ← List.length_eq_zero_iff, ← List.length_eq_zero_iff]
    unfold wrap64
    omega
  · have hker : kerR x0 x1 x2 x3 x4 x5 = ([], [], mvalid x0 x1 x2 x3 x4 x5) := if_neg hv
    obtain ⟨K5, hn⟩ := samePairs_self [] (by simp)
    obtain ⟨k, k0, k1, k2, k3, k4, k5⟩ : ∃ k, K0 ≤ k ∧ K1 ≤ k ∧ K2 ≤ k ∧ K3 ≤ k ∧ K4 ≤ k ∧ K5 ≤ k := ⟨K0 + K1 + K2 + K3 + K4 + K5, by omega, by omega, by omega, by omega, by omega, by omega⟩
    exact law7_a k A0 c0 x0 A1 c1 x1 A2 c2 x2 A3 c3 x3 A4 c4 x4 A5 c5 x5 A6 c6 x6 A7 c7 x7 w ⟨hc0, h0⟩ ⟨hc1, h1⟩ ⟨hc2, h2⟩ ⟨hc3, h3⟩ ⟨hc4, h4⟩ ⟨hc5, h5⟩ ⟨hc6, h6⟩ ⟨hc7, h7⟩ p0 p1 e [] [] _ f0 f1 f2 f3 ((hE k k0).trans (congrArg some he)) ((hG k k1).trans (congrArg some he)) ((hK k k2).trans (congrArg some hker)) ((hL k k3).trans (congrArg some hker)) (hS k k4) (hn k k5) (hn k k5) hv
end Go.Proofs.Ytillofiphkmjjaa.Pure

/- The seat's own argument types, by 'Opens'. -/
namespace Go.Proofs.Ytillofiphkmjjaa.Open
open Go.ChangeShapes Go.WideShapes Go.Deep Go.RowKit Go.Proofs.YtillofiphkmjjaaW.PrintWords Go.Proofs.Ytillofiphkmjjaa.X
set_option linter.unusedVariables false
section
variable {P : Program} {α β γ δ ε : Type}
theorem opens_true {t : TypeId} {d : Kd α} {g : α → Prop} (h : Opens P t d g) : Opens P t d (fun _ => True) := by
  intro H enc w spare held fuel cs x hx
  obtain ⟨a, hk, _⟩ := h hx
  exact ⟨a, hk, trivial⟩
theorem cut4 {σ : Type} (cs : List σ) (a b c : Nat) : cs = cs.take a ++ ((cs.drop a).take b ++ ((cs.drop (a + b)).take c ++ cs.drop (a + b + c))) := by
  have e1 : cs.drop (a + b) = (cs.drop a).drop b := by rw [List.drop_drop]
  have e2 : cs.drop (a + b + c) = ((cs.drop a).drop b).drop c := by rw [List.drop_drop, List.drop_drop, Nat.add_assoc]
  rw [e1, e2, List.take_append_drop, List.take_append_drop, List.take_append_drop]
theorem cut5 {σ : Type} (cs : List σ) (a b c d : Nat) : cs = cs.take a ++ ((cs.drop a).take b ++ ((cs.drop (a + b)).take c ++ ((cs.drop (a + b + c)).take d ++ cs.drop (a + b + c + d)))) := by
  have e2 : cs.drop (a + b + c + d) = (cs.drop (a + b + c)).drop d := by rw [List.drop_drop]
  rw [e2, List.take_append_drop]
  exact cut4 cs a b c
theorem opens_struct4 {t : TypeId} {f0 f1 f2 f3 : Field} {d0 : Kd α} {d1 : Kd β} {d2 : Kd γ} {d3 : Kd δ} {g0 : α → Prop} {g1 : β → Prop} {g2 : γ → Prop} {g3 : δ → Prop} (ht : P.underlying t = some (.struct #[f0, f1, f2, f3])) (h0 : f0.offset = 0) (h1 : f1.offset = P.cellsOf f0.type) (h2 : f2.offset = P.cellsOf f0.type + P.cellsOf f1.type) (h3 : f3.offset = P.cellsOf f0.type + P.cellsOf f1.type + P.cellsOf f2.type)
    (hs : P.cellsOf t = P.cellsOf f0.type + P.cellsOf f1.type + P.cellsOf f2.type + P.cellsOf f3.type) (o0 : Opens P f0.type d0 g0) (o1 : Opens P f1.type d1 g1) (o2 : Opens P f2.type d2 g2) (o3 : Opens P f3.type d3 g3) : Opens P t (Kd.pair d0 (Kd.pair d1 (Kd.pair d2 d3))) (fun _ => True) := by
  intro H enc w spare held fuel cs x h
  obtain ⟨xs, n, _, _, hl, hlen, hf⟩ := DataW.trod_struct ht h
  match xs, hlen with
  | [y0, y1, y2, y3], _ =>
    obtain ⟨a0, k0, -⟩ := o0 (hf 0 f0 rfl)
    obtain ⟨a1, k1, -⟩ := o1 (hf 1 f1 rfl)
    obtain ⟨a2, k2, -⟩ := o2 (hf 2 f2 rfl)
    obtain ⟨a3, k3, -⟩ := o3 (hf 3 f3 rfl)
    refine ⟨(a0, a1, a2, a3), ⟨_, _, ?_, k0, _, _, rfl, k1, _, _, rfl, k2, k3⟩, trivial⟩
    rw [h0, h1, h2, h3, List.drop_zero, List.take_of_length_le (l := cs.drop (_ + _ + _)) (by rw [List.length_drop]; omega)]
    exact cut4 _ _ _ _
theorem opens_struct5 {t : TypeId} {f0 f1 f2 f3 f4 : Field} {d0 : Kd α} {d1 : Kd β} {d2 : Kd γ} {d3 : Kd δ} {d4 : Kd ε} {g0 : α → Prop} {g1 : β → Prop} {g2 : γ → Prop} {g3 : δ → Prop} {g4 : ε → Prop} (ht : P.underlying t = some (.struct #[f0, f1, f2, f3, f4])) (h0 : f0.offset = 0) (h1 : f1.offset = P.cellsOf f0.type) (h2 : f2.offset = P.cellsOf f0.type + P.cellsOf f1.type) (h3 : f3.offset = P.cellsOf f0.type + P.cellsOf f1.type + P.cellsOf f2.type) (h4 : f4.offset = P.cellsOf f0.type + P.cellsOf f1.type + P.cellsOf f2.type + P.cellsOf f3.type)
    (hs : P.cellsOf t = P.cellsOf f0.type + P.cellsOf f1.type + P.cellsOf f2.type + P.cellsOf f3.type + P.cellsOf f4.type) (o0 : Opens P f0.type d0 g0) (o1 : Opens P f1.type d1 g1) (o2 : Opens P f2.type d2 g2) (o3 : Opens P f3.type d3 g3) (o4 : Opens P f4.type d4 g4) : Opens P t (Kd.pair d0 (Kd.pair d1 (Kd.pair d2 (Kd.pair d3 d4)))) (fun _ => True) := by
  intro H enc w spare held fuel cs x h
  obtain ⟨xs, n, _, _, hl, hlen, hf⟩ := DataW.trod_struct ht h
  match xs, hlen with
  | [y0, y1, y2, y3, y4], _ =>
    obtain ⟨a0, k0, -⟩ := o0 (hf 0 f0 rfl)
    obtain ⟨a1, k1, -⟩ := o1 (hf 1 f1 rfl)
    obtain ⟨a2, k2, -⟩ := o2 (hf 2 f2 rfl)
    obtain ⟨a3, k3, -⟩ := o3 (hf 3 f3 rfl)
    obtain ⟨a4, k4, -⟩ := o4 (hf 4 f4 rfl)
    refine ⟨(a0, a1, a2, a3, a4), ⟨_, _, ?_, k0, _, _, rfl, k1, _, _, rfl, k2, _, _, rfl, k3, k4⟩, trivial⟩
    rw [h0, h1, h2, h3, h4, List.drop_zero, List.take_of_length_le (l := cs.drop (_ + _ + _ + _)) (by rw [List.length_drop]; omega)]
    exact cut5 _ _ _ _ _
end
abbrev okInt (n : Int) : Prop := (Lit.int .i64 n).wf = true
theorem open22 : Opens Try.prog 22 (Kd.slice 3 (Kd.int .i64)) (fun l => ∀ x ∈ l, okInt x) := opens_slice Try.underlying22 (opens_int Try.underlying3) (by kernel_rfl)
theorem open94 : Opens Try.prog 94 k94 (fun e : S94 => okInt e.f0 ∧ okInt e.f1 ∧ okInt e.f2) :=
  opens_iso (opens_struct3 Try.underlying94 rfl (by kernel_rfl) (by kernel_rfl) (by kernel_rfl) (opens_int Try.underlying3) (opens_int Try.underlying3) (opens_int Try.underlying3)) _ (fun p => ⟨p.1, p.2.1, p.2.2⟩) (fun _ => rfl)
theorem open23 : Opens Try.prog 23 (Kd.slice 94 k94) (fun l => ∀ e ∈ l, okInt e.f0 ∧ okInt e.f1 ∧ okInt e.f2) := opens_slice Try.underlying23 open94 (by kernel_rfl)
theorem open25 : Opens Try.prog 25 k25 (fun g : S25 => (∀ x ∈ g.f0, okInt x) ∧ ∀ e ∈ g.f1, okInt e.f0 ∧ okInt e.f1 ∧ okInt e.f2) :=
  opens_iso (opens_struct2 Try.underlying25 rfl (by kernel_rfl) (by kernel_rfl) open22 open23) _ (fun p => ⟨p.1, p.2⟩) (fun _ => rfl)
theorem open27 : Opens Try.prog 27 k27 (fun g : S27 => (∀ x ∈ g.f0, okInt x) ∧ ∀ x ∈ g.f1, okInt x) :=
  opens_iso (opens_struct2 Try.underlying27 rfl (by kernel_rfl) (by kernel_rfl) open22 open22) _ (fun p => ⟨p.1, p.2⟩) (fun _ => rfl)
structure S66 where
  f0 : List Int
  f1 : List S94
  f2 : List Int
  f3 : List S94
  f4 : List Int
  f5 : List Int
  f6 : List Int
  f7 : List Int
def k66 : Kd S66 := Kd.iso (Kd.pair k25 (Kd.pair k25 (Kd.pair k27 k27))) (fun x : S66 => ((⟨x.f0, x.f1⟩ : S25), (⟨x.f2, x.f3⟩ : S25), (⟨x.f4, x.f5⟩ : S27), (⟨x.f6, x.f7⟩ : S27)))
theorem k66_open {w : World} {x : S66} {cs : List Value} (h : k66.K w x cs) : ∃ A0 c0 A1 c1 A2 c2 A3 c3 A4 c4 A5 c5 A6 c6 A7 c7, cs = [.slice A0 x.f0.length c0, .slice A1 x.f1.length c1, .slice A2 x.f2.length c2, .slice A3 x.f3.length c3, .slice A4 x.f4.length c4, .slice A5 x.f5.length c5, .slice A6 x.f6.length c6, .slice A7 x.f7.length c7] ∧ x.f0.length ≤ c0 ∧ (Kd.int .i64).C w A0 x.f0.length x.f0 ∧ x.f1.length ≤ c1 ∧ k94.C w A1 x.f1.length x.f1 ∧ x.f2.length ≤ c2 ∧ (Kd.int .i64).C w A2 x.f2.length x.f2 ∧ x.f3.length ≤ c3 ∧ k94.C w A3 x.f3.length x.f3 ∧ x.f4.length ≤ c4 ∧ (Kd.int .i64).C w A4 x.f4.length x.f4 ∧ x.f5.length ≤ c5 ∧ (Kd.int .i64).C w A5 x.f5.length x.f5 ∧ x.f6.length ≤ c6 ∧ (Kd.int .i64).C w A6 x.f6.length x.f6 ∧ x.f7.length ≤ c7 ∧ (Kd.int .i64).C w A7 x.f7.length x.f7 := by
  obtain ⟨_, _, rfl, h0, ⟨_, _, rfl, h1, ⟨_, _, rfl, h2, h3⟩⟩⟩ := h
  obtain ⟨A0, c0, A1, c1, rfl, l0, g0, l1, g1⟩ := k25_open h0
  obtain ⟨A2, c2, A3, c3, rfl, l2, g2, l3, g3⟩ := k25_open h1
  obtain ⟨A4, c4, A5, c5, rfl, l4, g4, l5, g5⟩ := k27_open h2
  obtain ⟨A6, c6, A7, c7, rfl, l6, g6, l7, g7⟩ := k27_open h3
  exact ⟨A0, c0, A1, c1, A2, c2, A3, c3, A4, c4, A5, c5, A6, c6, A7, c7, rfl, l0, g0, l1, g1, l2, g2, l3, g3, l4, g4, l5, g5, l6, g6, l7, g7⟩
theorem open66 : Opens Try.prog 66 k66 (fun _ => True) :=
  opens_true (opens_iso (opens_struct4 Try.underlying66 rfl (by kernel_rfl) (by kernel_rfl) (by kernel_rfl) (by kernel_rfl) open25 open25 open27 open27) _ (fun p => (⟨p.1.f0, p.1.f1, p.2.1.f0, p.2.1.f1, p.2.2.1.f0, p.2.2.1.f1, p.2.2.2.f0, p.2.2.2.f1⟩ : S66)) (fun _ => rfl))
structure S29 where
  f0 : List Int
  f1 : List S94
  f2 : List Int
  f3 : List S94
  f4 : List Int
  f5 : List S94
  f6 : List Int
  f7 : List Int
  f8 : List Int
  f9 : List Int
def k29 : Kd S29 := Kd.iso (Kd.pair k25 (Kd.pair k25 (Kd.pair k25 (Kd.pair k27 k27)))) (fun x : S29 => ((⟨x.f0, x.f1⟩ : S25), (⟨x.f2, x.f3⟩ : S25), (⟨x.f4, x.f5⟩ : S25), (⟨x.f6, x.f7⟩ : S27), (⟨x.f8, x.f9⟩ : S27)))
theorem k29_open {w : World} {x : S29} {cs : List Value} (h : k29.K w x cs) : ∃ A0 c0 A1 c1 A2 c2 A3 c3 A4 c4 A5 c5 A6 c6 A7 c7 A8 c8 A9 c9, cs = [.slice A0 x.f0.length c0, .slice A1 x.f1.length c1, .slice A2 x.f2.length c2, .slice A3 x.f3.length c3, .slice A4 x.f4.length c4, .slice A5 x.f5.length c5, .slice A6 x.f6.length c6, .slice A7 x.f7.length c7, .slice A8 x.f8.length c8, .slice A9 x.f9.length c9] ∧ x.f0.length ≤ c0 ∧ (Kd.int .i64).C w A0 x.f0.length x.f0 ∧ x.f1.length ≤ c1 ∧ k94.C w A1 x.f1.length x.f1 ∧ x.f2.length ≤ c2 ∧ (Kd.int .i64).C w A2 x.f2.length x.f2 ∧ x.f3.length ≤ c3 ∧ k94.C w A3 x.f3.length x.f3 ∧ x.f4.length ≤ c4 ∧ (Kd.int .i64).C w A4 x.f4.length x.f4 ∧ x.f5.length ≤ c5 ∧ k94.C w A5 x.f5.length x.f5 ∧ x.f6.length ≤ c6 ∧ (Kd.int .i64).C w A6 x.f6.length x.f6 ∧ x.f7.length ≤ c7 ∧ (Kd.int .i64).C w A7 x.f7.length x.f7 ∧ x.f8.length ≤ c8 ∧ (Kd.int .i64).C w A8 x.f8.length x.f8 ∧ x.f9.length ≤ c9 ∧ (Kd.int .i64).C w A9 x.f9.length x.f9 := by
  obtain ⟨_, _, rfl, h0, ⟨_, _, rfl, h1, ⟨_, _, rfl, h2, ⟨_, _, rfl, h3, h4⟩⟩⟩⟩ := h
  obtain ⟨A0, c0, A1, c1, rfl, l0, g0, l1, g1⟩ := k25_open h0
  obtain ⟨A2, c2, A3, c3, rfl, l2, g2, l3, g3⟩ := k25_open h1
  obtain ⟨A4, c4, A5, c5, rfl, l4, g4, l5, g5⟩ := k25_open h2
  obtain ⟨A6, c6, A7, c7, rfl, l6, g6, l7, g7⟩ := k27_open h3
  obtain ⟨A8, c8, A9, c9, rfl, l8, g8, l9, g9⟩ := k27_open h4
  exact ⟨A0, c0, A1, c1, A2, c2, A3, c3, A4, c4, A5, c5, A6, c6, A7, c7, A8, c8, A9, c9, rfl, l0, g0, l1, g1, l2, g2, l3, g3, l4, g4, l5, g5, l6, g6, l7, g7, l8, g8, l9, g9⟩
theorem open29 : Opens Try.prog 29 k29 (fun _ => True) :=
  opens_true (opens_iso (opens_struct5 Try.underlying29 rfl (by kernel_rfl) (by kernel_rfl) (by kernel_rfl) (by kernel_rfl) (by kernel_rfl) open25 open25 open25 open27 open27) _ (fun p => (⟨p.1.f0, p.1.f1, p.2.1.f0, p.2.1.f1, p.2.2.1.f0, p.2.2.1.f1, p.2.2.2.1.f0, p.2.2.2.1.f1, p.2.2.2.2.f0, p.2.2.2.2.f1⟩ : S29)) (fun _ => rfl))
structure S31 where
  f0 : List Int
  f1 : List S94
  f2 : List Int
  f3 : List Int
  f4 : List Int
  f5 : List Int
def k31 : Kd S31 := Kd.iso (Kd.pair k25 (Kd.pair k27 k27)) (fun x : S31 => ((⟨x.f0, x.f1⟩ : S25), (⟨x.f2, x.f3⟩ : S27), (⟨x.f4, x.f5⟩ : S27)))
theorem k31_open {w : World} {x : S31} {cs : List Value} (h : k31.K w x cs) : ∃ A0 c0 A1 c1 A2 c2 A3 c3 A4 c4 A5 c5, cs = [.slice A0 x.f0.length c0, .slice A1 x.f1.length c1, .slice A2 x.f2.length c2, .slice A3 x.f3.length c3, .slice A4 x.f4.length c4, .slice A5 x.f5.length c5] ∧ x.f0.length ≤ c0 ∧ (Kd.int .i64).C w A0 x.f0.length x.f0 ∧ x.f1.length ≤ c1 ∧ k94.C w A1 x.f1.length x.f1 ∧ x.f2.length ≤ c2 ∧ (Kd.int .i64).C w A2 x.f2.length x.f2 ∧ x.f3.length ≤ c3 ∧ (Kd.int .i64).C w A3 x.f3.length x.f3 ∧ x.f4.length ≤ c4 ∧ (Kd.int .i64).C w A4 x.f4.length x.f4 ∧ x.f5.length ≤ c5 ∧ (Kd.int .i64).C w A5 x.f5.length x.f5 := by
  obtain ⟨_, _, rfl, h0, ⟨_, _, rfl, h1, h2⟩⟩ := h
  obtain ⟨A0, c0, A1, c1, rfl, l0, g0, l1, g1⟩ := k25_open h0
  obtain ⟨A2, c2, A3, c3, rfl, l2, g2, l3, g3⟩ := k27_open h1
  obtain ⟨A4, c4, A5, c5, rfl, l4, g4, l5, g5⟩ := k27_open h2
  exact ⟨A0, c0, A1, c1, A2, c2, A3, c3, A4, c4, A5, c5, rfl, l0, g0, l1, g1, l2, g2, l3, g3, l4, g4, l5, g5⟩
theorem open31 : Opens Try.prog 31 k31 (fun _ => True) :=
  opens_true (opens_iso (opens_struct3 Try.underlying31 rfl (by kernel_rfl) (by kernel_rfl) (by kernel_rfl) open25 open27 open27) _ (fun p => (⟨p.1.f0, p.1.f1, p.2.1.f0, p.2.1.f1, p.2.2.f0, p.2.2.f1⟩ : S31)) (fun _ => rfl))
end Go.Proofs.Ytillofiphkmjjaa.Open


namespace Go.Proofs.Ytillofiphkmjjaa.pullbackEqualizer
open Go.ChangeShapes Go.WideShapes Go.ChangeAt Go.RowKit
open Go.ChangeMaps (open_string shut_string)
open Go.Proofs.YtillofiphkmjjaaW.PrintWords Go.Proofs.Ytillofiphkmjjaa.X
set_option linter.unusedVariables false
theorem own : ownKnob Try.prog.godebug = none := by kernel_rfl
theorem laidOut : laidOutB Try.prog = true := by kernel_rfl
set_option maxRecDepth 100000 in
theorem lifted (os : Os) (started : os.Started) (H : Type) (enc : TypeId × Value → H) :
    ReturnsInHanded {} Try.checked os 7 .any (Rows.pullbackEqualizerSpec.pre6 enc Try.prog Try.f7 Rows.pullbackEqualizerRow.domain false) (Rows.pullbackEqualizerSpec.post enc Try.prog Try.f7 false true false false) := by
  refine returnsInHanded_of_change_sized (C := Try.checked) own started (by kernel_rfl) Try.func7
    (ChangeSpec.witness6 (enc := enc) (C := Try.checked) false ⟨#[], #[.agg #[.slice none 0 0, .slice none 0 0, .slice none 0 0, .slice none 0 0, .slice none 0 0, .slice none 0 0, .slice none 0 0, .slice none 0 0]], []⟩ 8 (by kernel_rfl) (by kernel_rfl) (by kernel_rfl) (by kernel_rfl)) ?_
  intro W base args ds gs before hval0 hW hcnd hsz0 _
  clear hsz0
  have hval : ∀ (j : Nat) t v, Try.f7.params[j]? = some t → args[j]? = some v → Value.okWide Try.prog W .any base t v := hval0
  have hW' := hW
  obtain ⟨p, q, hA0, hV, rfl, hfz, hnd⟩ := hW
  have hA : DataW.TrodAll enc Try.prog W 0 (fun _ => true) true Try.f7.params.toList args.toList ds p := hA0
  rw [Try.params7] at hA hval
  obtain ⟨v0, vs0, d0, ds0, p0, q0, hargs, rfl, rfl, h0, r0⟩ := trodAll_cons hA
  obtain ⟨rfl, rfl, rfl⟩ := trodAll_nil r0
  obtain rfl : args = #[v0] := by cases args; simp_all
  obtain ⟨rfl, rfl⟩ := trodVars_none hV
  have k0 := h0
  have lt0 : ∀ x ∈ p0, x.block < W.heap.size := by obtain ⟨m, hm⟩ := k0; exact DataW.trod_lt m _ _ _ hm
  obtain ⟨cs0, rfl, hz0⟩ := okWide_struct Try.underlying66 (hval 0 66 v0 rfl rfl)
  obtain ⟨m0, hm0⟩ := h0
  obtain ⟨x0, K0, g0⟩ := Open.open66 hm0
  replace K0 : Open.k66.K W x0 cs0.toList := K0
  obtain ⟨A0_0, c0_0, A0_1, c0_1, A0_2, c0_2, A0_3, c0_3, A0_4, c0_4, A0_5, c0_5, A0_6, c0_6, A0_7, c0_7, e0, hc0_0, hr0_0, hc0_1, hr0_1, hc0_2, hr0_2, hc0_3, hr0_3, hc0_4, hr0_4, hc0_5, hr0_5, hc0_6, hr0_6, hc0_7, hr0_7⟩ := Open.k66_open K0
  obtain rfl : cs0 = #[.slice A0_0 x0.f0.length c0_0, .slice A0_1 x0.f1.length c0_1, .slice A0_2 x0.f2.length c0_2, .slice A0_3 x0.f3.length c0_3, .slice A0_4 x0.f4.length c0_4, .slice A0_5 x0.f5.length c0_5, .slice A0_6 x0.f6.length c0_6, .slice A0_7 x0.f7.length c0_7] := by apply Array.toList_inj.mp; rw [e0]
  clear hA0 hval0
  refine (Pure.PullbackEqualizer_walk _ _ x0.f0 _ _ x0.f1 _ _ x0.f2 _ _ x0.f3 _ _ x0.f4 _ _ x0.f5 _ _ x0.f6 _ _ x0.f7 W hr0_0 hc0_0 hr0_1 hc0_1 hr0_2 hc0_2 hr0_3 hc0_3 hr0_4 hc0_4 hr0_5 hc0_5 hr0_6 hc0_6 hr0_7 hc0_7).mono fun e W' ⟨he, bel⟩ => ?_
  subst he
  exact ⟨_, rfl, _, _, _, [], _, [], hW', trodAll_mk1 (shut_bool Try.underlying4 _), (trodAll_cons_mk (Below.trod laidOut (by kernel_rfl) (of_decide_eq_true (by kernel_rfl)) k0 bel lt0) trodAll_mk0), rfl, bel.frame _, fun h => by cases h⟩
theorem over : Rows.pullbackEqualizerRow.holds Try.pinned (OpenSpec.ofChange Rows.pullbackEqualizerSpec) :=
  OpenClaim.holds_of_wide 7 Try.f7 rfl rfl rfl rfl rfl rfl rfl ⟨rfl, rfl, rfl, rfl, rfl⟩ rfl rfl rfl rfl rfl (by kernel_rfl) Try.func7 (by kernel_rfl)
    (of_decide_eq_true (by kernel_rfl)) (by unfold Func.isWrapper; first | (rw [if_pos (by decide +kernel)]; kernel_rfl) | (rw [if_neg (by decide +kernel)]; exact ⟨rfl, rfl⟩))
    (fun os started H enc _ => lifted os started H enc)
theorem proved : Rows.PullbackEqualizerSaid := over
#print axioms proved
end Go.Proofs.Ytillofiphkmjjaa.pullbackEqualizer
namespace Go.Proofs.Ytillofiphkmjjaa
/-- The row, under a short name, for the claim. -/
theorem pullbackEqualizer_holds : Rows.PullbackEqualizerSaid := pullbackEqualizer.proved
end Go.Proofs.Ytillofiphkmjjaa
