/- A part of the proof that the law GraphIncident returns true at every input: contracts of the functions that it calls, and lemmas. -/
import Derived.Test.YtmbnibonggbjgaaZGraphIncident4
namespace Go.Proofs.Ytmbnibonggbjgaa.X
open Go.RowKit Go.Proofs.YtmbnibonggbjgaaW.PrintWords Go.Proofs.YtmbnibonggbjgaaW.PrintLast Go.Proofs.YtmbnibonggbjgaaW.PrintMore
open Go.Proofs.YtmbnibonggbjgaaW.PrintWords renaming blk_drewN → bN, blk_drew → bD, blk_alloc → bA, below_alloc → wA, pw_below_drewN → wN, below_drew1 → wD, blk_below → bB, below_step → wS, blk_at → bT, blk_grown → bG
open Go.Proofs.YtmbnibonggbjgaaW.PrintWords.Kd renaming R_alloc → rA, R_drewN → rN, R_drew → rD, R_below → rB, R_grown → rG, C_below → cB, C_alloc → cA, C_drewN → cN, C_drew → cD
attribute [local go_sem] max2_int min2_int max_two min_two max_three min_three max_four min_four
set_option linter.unusedVariables false
set_option linter.unusedSimpArgs false
/-! ### scarfjointref05_Valid: function 27 -/
mutual
def scarfjointref05_Valid.j0 : Nat → Bool → List Int → List (S38) → Option (Int)
 | 0, _, _, _ => none
 | k + 1, x14, x102000, x102001 => if x14 = true then (some 3) else (scarfjointref05_Valid.l0 k 0 x102000 x102001)
def scarfjointref05_Valid.l0 : Nat → Int → List Int → List (S38) → Option (Int)
 | 0, _, _, _ => none
 | k + 1, x3, x102000, x102001 => if x3 < (x102000.length : Int) then (if 0 ≤ x3 then ((scarfjointref05_kind.f (rd x102000 x3)).bind fun t103 => (if t103 = true then (scarfjointref05_Valid.l0 k (wrap64 (x3 + 1)) x102000 x102001) else (some 6))) else (none)) else (scarfjointref05_Valid.l1 k 0 x102000 x102001)
def scarfjointref05_Valid.l1 : Nat → Int → List Int → List (S38) → Option (Int)
 | 0, _, _, _ => none
 | k + 1, x4, x102000, x102001 => if x4 < (x102001.length : Int) then (if 0 ≤ x4 then ((scarfjointref05_right.f ((rd_T38 x102001 x4).f0) ((rd_T38 x102001 x4).f1) ((rd_T38 x102001 x4).f2) (x102000.length : Int)).bind fun t105 => (if t105 = true then (scarfjointref05_Valid.l1 k (wrap64 (x4 + 1)) x102000 x102001) else (some 6))) else (none)) else (some 0)
end
def scarfjointref05_Valid.f (k : Nat) (l0_0 : List Int) (l0_1 : List (S38)) : Option (Int) := if (l0_0.length : Int) > 40 then (scarfjointref05_Valid.j0 k true l0_0 l0_1) else (scarfjointref05_Valid.j0 k (decide ((l0_1.length : Int) > 80)) l0_0 l0_1)
theorem scarfjointref05_Valid.mono_l : ∀ k, (∀ y0 y1 y2, LeO (scarfjointref05_Valid.j0 k y0 y1 y2) (scarfjointref05_Valid.j0 (k + 1) y0 y1 y2)) ∧ (∀ y0 y1 y2, LeO (scarfjointref05_Valid.l0 k y0 y1 y2) (scarfjointref05_Valid.l0 (k + 1) y0 y1 y2)) ∧ (∀ y0 y1 y2, LeO (scarfjointref05_Valid.l1 k y0 y1 y2) (scarfjointref05_Valid.l1 (k + 1) y0 y1 y2))
 | 0 => ⟨fun _ _ _ r h => by simp [scarfjointref05_Valid.j0] at h, fun _ _ _ r h => by simp [scarfjointref05_Valid.l0] at h, fun _ _ _ r h => by simp [scarfjointref05_Valid.l1] at h⟩
 | k + 1 => by
  obtain ⟨ih0, ih1, ih2⟩ := scarfjointref05_Valid.mono_l k
  refine ⟨?_, ?_, ?_⟩
  ·intro y0 y1 y2
   unfold scarfjointref05_Valid.j0
   repeat' first
   | (with_reducible exact ih0 _ _ _)
   | (with_reducible exact ih1 _ _ _)
   | (with_reducible exact ih2 _ _ _)
   | (with_reducible exact LeO.refl _)
   | (with_reducible exact LeO.none _)
   | (with_reducible refine LeO.ite ?_ ?_)
   | (with_reducible refine LeO.bind ?_ (fun _ => ?_))
   | exact ih0 _ _ _
   | exact ih1 _ _ _
   | exact ih2 _ _ _
   | exact LeO.none _
   | refine LeO.ite ?_ ?_
   | refine LeO.bind ?_ (fun _ => ?_)
  ·intro y0 y1 y2
   unfold scarfjointref05_Valid.l0
   repeat' first
   | (with_reducible exact ih0 _ _ _)
   | (with_reducible exact ih1 _ _ _)
   | (with_reducible exact ih2 _ _ _)
   | (with_reducible exact LeO.refl _)
   | (with_reducible exact LeO.none _)
   | (with_reducible refine LeO.ite ?_ ?_)
   | (with_reducible refine LeO.bind ?_ (fun _ => ?_))
   | exact ih0 _ _ _
   | exact ih1 _ _ _
   | exact ih2 _ _ _
   | exact LeO.none _
   | refine LeO.ite ?_ ?_
   | refine LeO.bind ?_ (fun _ => ?_)
  ·intro y0 y1 y2
   unfold scarfjointref05_Valid.l1
   repeat' first
   | (with_reducible exact ih0 _ _ _)
   | (with_reducible exact ih1 _ _ _)
   | (with_reducible exact ih2 _ _ _)
   | (with_reducible exact LeO.refl _)
   | (with_reducible exact LeO.none _)
   | (with_reducible refine LeO.ite ?_ ?_)
   | (with_reducible refine LeO.bind ?_ (fun _ => ?_))
   | exact ih0 _ _ _
   | exact ih1 _ _ _
   | exact ih2 _ _ _
   | exact LeO.none _
   | refine LeO.ite ?_ ?_
   | refine LeO.bind ?_ (fun _ => ?_)
theorem scarfjointref05_Valid.mono : ∀ a0 a1 k, LeO (scarfjointref05_Valid.f k a0 a1) (scarfjointref05_Valid.f (k + 1) a0 a1) := by
 intro a0 a1 k
 obtain ⟨ih0, ih1, ih2⟩ := scarfjointref05_Valid.mono_l k
 unfold scarfjointref05_Valid.f
 repeat' first
   | (with_reducible exact ih0 _ _ _)
   | (with_reducible exact ih1 _ _ _)
   | (with_reducible exact ih2 _ _ _)
   | (with_reducible exact LeO.refl _)
   | (with_reducible exact LeO.none _)
   | (with_reducible refine LeO.ite ?_ ?_)
   | (with_reducible refine LeO.bind ?_ (fun _ => ?_))
   | exact ih0 _ _ _
   | exact ih1 _ _ _
   | exact ih2 _ _ _
   | exact LeO.none _
   | refine LeO.ite ?_ ?_
   | refine LeO.bind ?_ (fun _ => ?_)
def scarfjointref05_Valid.T11 : Bool × List (List Nat × List Nat) := (true, [([], []), ([0], [0]), ([], []), ([1, 2], [1, 2]), ([3], [3]), ([], []), ([5], [5]), ([6], [6]), ([4, 7], [4, 7]), ([8], [8])])
def scarfjointref05_Valid.B11 : List Nat := [0, 1, 0, 7, 15, 0, 32, 96, 255, 511]
theorem scarfjointref05_Valid.tab11 : rtab .any (opsOf Try.f27 11) = scarfjointref05_Valid.T11 := by kernel_rfl
theorem scarfjointref05_Valid.bits11 : waitsOk scarfjointref05_Valid.T11.2 scarfjointref05_Valid.B11 = true := by kernel_rfl
set_option maxHeartbeats 8000000 in
set_option maxRecDepth 100000 in
theorem scarfjointref05_Valid.calls (k : Nat) (A0_0 : Option Addr) (c0_0 : Nat) (l0_0 : List Int) (A0_1 : Option Addr) (c0_1 : Nat) (l0_1 : List (S38)) (r : Int) (w : World) (hr0_0 : Kd.C (Kd.int .i64) w A0_0 l0_0.length l0_0) (hc0_0 : l0_0.length ≤ c0_0) (hr0_1 : Kd.C k38 w A0_1 l0_1.length l0_1) (hc0_1 : l0_1.length ≤ c0_1) (h : scarfjointref05_Valid.f k l0_0 l0_1 = some r) :
  Calls Try.prog 27 #[.agg #[.slice A0_0 l0_0.length c0_0, .slice A0_1 l0_1.length c0_1]] w fun e w' => e = .returned (.int .i64 r) ∧ Below w.heap.size w w' := by
 have hu25 := Try.underlying25
 have hu38 := Try.underlying38
 have HR0_0 := Aside0.mk hr0_0
 have HC0_0 := Aside0.mk hc0_0
 clear hr0_0 hc0_0
 have HR0_1 := Aside0.mk hr0_1
 have HC0_1 := Aside0.mk hc0_1
 clear hr0_1 hc0_1
 have HB := Aside0.mk (Below.refl w.heap.size w)
 have H : (if (l0_0.length : Int) > 40 then (scarfjointref05_Valid.j0 k true l0_0 l0_1) else (scarfjointref05_Valid.j0 k (decide ((l0_1.length : Int) > 80)) l0_0 l0_1)) = some r := h
 clear h
 have HC2 := Aside0.mk H
 clear H
 go_enter Try.func27, Try.ntmps27
 go_upto_region 1 with (first | ((with_reducible refine gate_dst (N := 1) rfl ?_); (try (refine gate_guard (by rfl) ?_; dsimp only)); refine box_event ?hg (N := 1) ?hd (cs := #[.slice A0_0 l0_0.length c0_0, .slice A0_1 l0_1.length c0_1]) (t := 25) ?hr ?_; (case hd => rfl); (case hg => rfl); (case hr => first | (go_simp; done) | (go_simp; rfl)); intro gb101 hg w3 hbox hb; have n0_ := Aside0.mk (wS hB hb); have n1_ := Aside0.mk (hbox); have n2_ := Aside0.mk ((by rw [hg]; exact (below_size hB) : w.heap.size ≤ gb101)); have n3_ := Aside0.mk ((by rw [hg]; exact (below_size hB) : w.heap.size ≤ gb101)); clear HB; have HB := n0_; have BK101 := n1_; have GW101 := n2_; have GE101 := n3_; clear n0_ n1_ n2_ n3_; clear hb hbox hg))
 (try simp only [Act.put, List.setIfInBounds_toArray, List.set_cons_zero, List.set_cons_succ])
 go_cut [14] (fun v14 wc => ∃ (kq : Nat) (x14_1 : Bool), v14 = .bool x14_1 ∧ Aside0 (scarfjointref05_Valid.j0 kq x14_1 l0_0 l0_1 = some r) ∧ Aside0 (kq ≤ k) ∧ Aside0 (wc.heap[gb101]? = some (.cells #[(.slice A0_0 l0_0.length c0_0), (.slice A0_1 l0_1.length c0_1)] 25 (0, 0))) ∧ Aside0 (Below w.heap.size w wc))
 case first =>
  have H := HC2.out
  clear HC2
  by_cases c4 : (l0_0.length : Int) > 40
  ·rw [if_pos c4] at H
   have c4b0 : decide (40 < (l0_0.length : Int)) = true := decide_eq_true c4
   have c4b1 : decide (40 < l0_0.length) = true := decide_eq_true (by omega)
   clear c4
   (first | rw [c4b0] | (simp only [i64_w, i32_w]; rw [c4b0]) | skip)
   have H' := Aside0.mk H
   clear H
   have hcz5_0 : w3.cell? ⟨gb101, 0, none⟩ = some (.slice A0_0 l0_0.length c0_0) := (blk_cell BK101.out 0).trans rfl
   have hcz5_1 : w3.cell? ⟨gb101, 1, none⟩ = some (.slice A0_1 l0_1.length c0_1) := (blk_cell BK101.out 1).trans rfl
   have hfz5_0 := blk_frozen BK101.out 0
   have hfz5_1 := blk_frozen BK101.out 1
   go_wp2
   go_meet
   case rel => exact ⟨_, (true), rS, H', ⟨by first | omega | exact Nat.le_refl _⟩, ⟨by (with_reducible repeat (first | refine bN ?_ _ | refine bD ?_ | refine bA ?_ _)); exact BK101.out⟩, ⟨by repeat (first | (with_reducible first | exact HB.out | apply wA | apply wN | apply wD | refine below_set ?_ GE101.out) | exact HB.out)⟩⟩
  ·rw [if_neg c4] at H
   have c4b0 : decide (40 < (l0_0.length : Int)) = false := decide_eq_false c4
   have c4b1 : decide (40 < l0_0.length) = false := decide_eq_false (by omega)
   clear c4
   (first | rw [c4b0] | (simp only [i64_w, i32_w]; rw [c4b0]) | skip)
   have H' := Aside0.mk H
   clear H
   have hcz6_0 : w3.cell? ⟨gb101, 0, none⟩ = some (.slice A0_0 l0_0.length c0_0) := (blk_cell BK101.out 0).trans rfl
   have hcz6_1 : w3.cell? ⟨gb101, 1, none⟩ = some (.slice A0_1 l0_1.length c0_1) := (blk_cell BK101.out 1).trans rfl
   have hfz6_0 := blk_frozen BK101.out 0
   have hfz6_1 := blk_frozen BK101.out 1
   go_wp2
   go_meet
   case rel => exact ⟨_, (decide ((l0_1.length : Int) > 80)), rS, H', ⟨by first | omega | exact Nat.le_refl _⟩, ⟨by (with_reducible repeat (first | refine bN ?_ _ | refine bD ?_ | refine bA ?_ _)); exact BK101.out⟩, ⟨by repeat (first | (with_reducible first | exact HB.out | apply wA | apply wN | apply wD | refine below_set ?_ GE101.out) | exact HB.out)⟩⟩
 case rest =>
  clear HC2
  try clear c2
  try clear p2
  try clear c4
  try clear c4b0
  try clear c4b1
  try clear hcz5_0
  try clear hcz5_1
  try clear hcz6_0
  try clear hcz6_1
  try clear hfz5_0
  try clear hfz5_1
  try clear hfz6_0
  try clear hfz6_1
  obtain ⟨kq, x14_1, rfl, HA, HJ1, BK101, HB⟩ := hcut
  cases kq with
  | zero => exact absurd HA.out (by simp [scarfjointref05_Valid.j0])
  | succ kj1 =>
   have H := HA.out
   clear HA
   simp only [scarfjointref05_Valid.j0] at H
   by_cases c7 : x14_1 = true
   ·subst c7
    have H1 : (some 3) = some r := by rw [if_pos rfl] at H; exact H
    clear H
    have H := H1
    clear H1
    obtain rfl := Option.some.inj H
    go_wp2
    go_ret
    exact ⟨by first | rfl | (simp [errW_none, errW_some] <;> rfl) | (simp [*, errW_none, errW_some] <;> rfl), by repeat (first | (with_reducible first | exact HB.out | apply wA | apply wN | apply wD | refine below_set ?_ GE101.out) | exact HB.out)⟩
   ·replace c7 := Bool.eq_false_iff.mpr c7
    subst c7
    have H1 : (scarfjointref05_Valid.l0 kj1 0 l0_0 l0_1) = some r := by rw [if_neg (show ¬ (false = true) by decide)] at H; exact H
    clear H
    have H := H1
    clear H1
    have H' := Aside0.mk H
    clear H
    go_wp2
    go_loopg [3] kj1 (fun kq v3 w' => ∃ (x3_2 : Int), v3 = .int .i64 x3_2 ∧ Aside0 (scarfjointref05_Valid.l0 kq x3_2 l0_0 l0_1 = some r) ∧ Aside0 (kq ≤ kj1) ∧ Aside0 (w'.heap[gb101]? = some (.cells #[(.slice A0_0 l0_0.length c0_0), (.slice A0_1 l0_1.length c0_1)] 25 (0, 0))) ∧ Aside0 (Below w.heap.size w w'))
    case atStart => exact ⟨(0), rS, H', ⟨Nat.le_refl _⟩, ⟨by (with_reducible repeat (first | refine bN ?_ _ | refine bD ?_ | refine bA ?_ _)); exact BK101.out⟩, ⟨by repeat (first | (with_reducible first | exact HB.out | apply wA | apply wN | apply wD | refine below_set ?_ GE101.out) | exact HB.out)⟩⟩
    case round =>
     clear H'
     try clear c2
     try clear p2
     try clear c4
     try clear c4b0
     try clear c4b1
     try clear c7
     try clear hcz5_0
     try clear hcz5_1
     try clear hcz6_0
     try clear hcz6_1
     try clear hfz5_0
     try clear hfz5_1
     try clear hfz6_0
     try clear hfz6_1
     try clear p2
     obtain ⟨x3_2, rfl, HA, HK2, BK101, HB⟩ := hrel
     cases gk with
     | zero => exact absurd HA.out (by simp [scarfjointref05_Valid.l0])
     | succ k2 =>
      have H := HA.out
      clear HA
      simp only [scarfjointref05_Valid.l0] at H
      by_cases c8 : x3_2 < (l0_0.length : Int)
      ·rw [if_pos c8] at H
       have c8b0 : decide (x3_2 < (l0_0.length : Int)) = true := decide_eq_true c8
       clear c8
       by_cases c9 : 0 ≤ x3_2
       ·rw [if_pos c9] at H
        have c9b0 : decide (0 ≤ x3_2) = true := decide_eq_true c9
        clear c9
        replace H := Option.bind_eq_some_iff.mp H
        obtain ⟨t103, A100, H⟩ := H
        replace H : (if t103 = true then (scarfjointref05_Valid.l0 k2 (wrap64 (x3_2 + 1)) l0_0 l0_1) else (some 6)) = some r := H
        have A10 := Aside0.mk A100
        clear A100
        by_cases c11 : t103 = true
        ·subst c11
         have H1 : (scarfjointref05_Valid.l0 k2 (wrap64 (x3_2 + 1)) l0_0 l0_1) = some r := by rw [if_pos rfl] at H; exact H
         clear H
         have H := H1
         clear H1
         have H' := Aside0.mk H
         clear H
         have hcz12_0 : wr.cell? ⟨gb101, 0, none⟩ = some (.slice A0_0 l0_0.length c0_0) := (blk_cell BK101.out 0).trans rfl
         have hcz12_1 : wr.cell? ⟨gb101, 1, none⟩ = some (.slice A0_1 l0_1.length c0_1) := (blk_cell BK101.out 1).trans rfl
         have hfz12_0 := blk_frozen BK101.out 0
         have hfz12_1 := blk_frozen BK101.out 1
         have p102 : 0 ≤ (x3_2 : Int) := oT
         have q102 : x3_2 < (l0_0.length : Int) := oT
         obtain ⟨ad102, e102, hx102_0⟩ := Kd.at_int HR0_0.out x3_2 p102 q102
         cases e102
         replace hx102_0 := (HB.out.cell (World.block_lt_of_cell? w _ hx102_0)).trans hx102_0
         replace p102 := eq_true p102
         replace q102 := eq_true q102
         go_wp2_with (first | ((with_reducible refine gate_callee (f := 47) rfl ?_); refine goesL_ (some 27) rfl rfl Try.func47 (by kernel_rfl) rfl #[.int .i64 (rd l0_0 x3_2)] rfl aM ?_; (with_reducible refine (scarfjointref05_kind.calls (rd l0_0 x3_2) true _ A10.out).mono ?_); rintro e w' ⟨rfl, ⟨nd, rfl⟩⟩; refine ⟨_, rfl, ?_⟩))
         go_roundg k2
         case measure => have := HJ1.out; have := HK2.out; omega
         case rel => exact ⟨(wrap64 (x3_2 + 1)), rS, H', ⟨by have := HJ1.out; have := HK2.out; omega⟩, ⟨by (with_reducible repeat (first | refine bN ?_ _ | refine bD ?_ | refine bA ?_ _)); exact BK101.out⟩, ⟨by repeat (first | (with_reducible first | exact HB.out | apply wA | apply wN | apply wD | refine below_set ?_ GE101.out) | exact HB.out)⟩⟩
        ·replace c11 := Bool.eq_false_iff.mpr c11
         subst c11
         have H1 : (some 6) = some r := by rw [if_neg (show ¬ (false = true) by decide)] at H; exact H
         clear H
         have H := H1
         clear H1
         obtain rfl := Option.some.inj H
         have hcz13_0 : wr.cell? ⟨gb101, 0, none⟩ = some (.slice A0_0 l0_0.length c0_0) := (blk_cell BK101.out 0).trans rfl
         have hcz13_1 : wr.cell? ⟨gb101, 1, none⟩ = some (.slice A0_1 l0_1.length c0_1) := (blk_cell BK101.out 1).trans rfl
         have hfz13_0 := blk_frozen BK101.out 0
         have hfz13_1 := blk_frozen BK101.out 1
         have p102 : 0 ≤ (x3_2 : Int) := oT
         have q102 : x3_2 < (l0_0.length : Int) := oT
         obtain ⟨ad102, e102, hx102_0⟩ := Kd.at_int HR0_0.out x3_2 p102 q102
         cases e102
         replace hx102_0 := (HB.out.cell (World.block_lt_of_cell? w _ hx102_0)).trans hx102_0
         replace p102 := eq_true p102
         replace q102 := eq_true q102
         go_wp2_with (first | ((with_reducible refine gate_callee (f := 47) rfl ?_); refine goesL_ (some 27) rfl rfl Try.func47 (by kernel_rfl) rfl #[.int .i64 (rd l0_0 x3_2)] rfl aM ?_; (with_reducible refine (scarfjointref05_kind.calls (rd l0_0 x3_2) false _ A10.out).mono ?_); rintro e w' ⟨rfl, ⟨nd, rfl⟩⟩; refine ⟨_, rfl, ?_⟩))
         go_ret
         exact ⟨by first | rfl | (simp [errW_none, errW_some] <;> rfl) | (simp [*, errW_none, errW_some] <;> rfl), by repeat (first | (with_reducible first | exact HB.out | apply wA | apply wN | apply wD | refine below_set ?_ GE101.out) | exact HB.out)⟩
       ·rw [if_neg c9] at H
        exact absurd H (by simp)
      ·rw [if_neg c8] at H
       have c8b0 : decide (x3_2 < (l0_0.length : Int)) = false := decide_eq_false c8
       clear c8
       have H' := Aside0.mk H
       clear H
       have hcz14_0 : wr.cell? ⟨gb101, 0, none⟩ = some (.slice A0_0 l0_0.length c0_0) := (blk_cell BK101.out 0).trans rfl
       have hcz14_1 : wr.cell? ⟨gb101, 1, none⟩ = some (.slice A0_1 l0_1.length c0_1) := (blk_cell BK101.out 1).trans rfl
       have hfz14_0 := blk_frozen BK101.out 0
       have hfz14_1 := blk_frozen BK101.out 1
       go_wp2
       go_loopg [4] k2 (fun kq v4 w' => ∃ (x4_3 : Int), v4 = .int .i64 x4_3 ∧ Aside0 (scarfjointref05_Valid.l1 kq x4_3 l0_0 l0_1 = some r) ∧ Aside0 (kq ≤ k2) ∧ Aside0 (w'.heap[gb101]? = some (.cells #[(.slice A0_0 l0_0.length c0_0), (.slice A0_1 l0_1.length c0_1)] 25 (0, 0))) ∧ Aside0 (Below w.heap.size w w'))
       case atStart => exact ⟨(0), rS, H', ⟨Nat.le_refl _⟩, ⟨by (with_reducible repeat (first | refine bN ?_ _ | refine bD ?_ | refine bA ?_ _)); exact BK101.out⟩, ⟨by repeat (first | (with_reducible first | exact HB.out | apply wA | apply wN | apply wD | refine below_set ?_ GE101.out) | exact HB.out)⟩⟩
       case round =>
        clear H'
        try clear c1
        try clear c2
        try clear p2
        try clear q2
        try clear hx2
        try clear c4
        try clear c4b0
        try clear c4b1
        try clear p6
        try clear c7
        try clear c8
        try clear c8b0
        try clear c9
        try clear c9b0
        try clear c11
        try clear hcz12_0
        try clear hcz12_1
        try clear hcz13_0
        try clear hcz13_1
        try clear hcz14_0
        try clear hcz14_1
        try clear hcz5_0
        try clear hcz5_1
        try clear hcz6_0
        try clear hcz6_1
        try clear hfz12_0
        try clear hfz12_1
        try clear hfz13_0
        try clear hfz13_1
        try clear hfz14_0
        try clear hfz14_1
        try clear hfz5_0
        try clear hfz5_1
        try clear hfz6_0
        try clear hfz6_1
        try clear hx102_0
        try clear p2
        try clear p102
        try clear q102
        obtain ⟨x4_3, rfl, HA, HK3, BK101, HB⟩ := hrel
        cases gk with
        | zero => exact absurd HA.out (by simp [scarfjointref05_Valid.l1])
        | succ k3 =>
         have H := HA.out
         clear HA
         simp only [scarfjointref05_Valid.l1] at H
         by_cases c15 : x4_3 < (l0_1.length : Int)
         ·rw [if_pos c15] at H
          have c15b0 : decide (x4_3 < (l0_1.length : Int)) = true := decide_eq_true c15
          clear c15
          by_cases c16 : 0 ≤ x4_3
          ·rw [if_pos c16] at H
           have c16b0 : decide (0 ≤ x4_3) = true := decide_eq_true c16
           clear c16
           replace H := Option.bind_eq_some_iff.mp H
           obtain ⟨t105, A170, H⟩ := H
           replace H : (if t105 = true then (scarfjointref05_Valid.l1 k3 (wrap64 (x4_3 + 1)) l0_0 l0_1) else (some 6)) = some r := H
           have A17 := Aside0.mk A170
           clear A170
           by_cases c18 : t105 = true
           ·subst c18
            have H1 : (scarfjointref05_Valid.l1 k3 (wrap64 (x4_3 + 1)) l0_0 l0_1) = some r := by rw [if_pos rfl] at H; exact H
            clear H
            have H := H1
            clear H1
            have H' := Aside0.mk H
            clear H
            have hcz19_0 : wr.cell? ⟨gb101, 0, none⟩ = some (.slice A0_0 l0_0.length c0_0) := (blk_cell BK101.out 0).trans rfl
            have hcz19_1 : wr.cell? ⟨gb101, 1, none⟩ = some (.slice A0_1 l0_1.length c0_1) := (blk_cell BK101.out 1).trans rfl
            have hfz19_0 := blk_frozen BK101.out 0
            have hfz19_1 := blk_frozen BK101.out 1
            try go_wp2
            have n0_ := Aside0.mk (bD BK101.out)
            have n1_ := Aside0.mk (wD HB.out)
            clear BK101
            clear HB
            have BK101 := n0_
            have HB := n1_
            clear n0_ n1_
            have p104 : 0 ≤ (x4_3 : Int) := oT
            have q104 : x4_3 < (l0_1.length : Int) := oT
            obtain ⟨ad104, e104, hx104_0, hx104_1, hx104_2⟩ := at_T38 HR0_1.out x4_3 p104 q104
            have hw104_2 := hx104_2
            have hw104_1 := hx104_1
            have hw104_0 := hx104_0
            cases e104
            replace hx104_0 := (HB.out.cell (World.block_lt_of_cell? w _ hx104_0)).trans hx104_0
            replace hx104_1 := (HB.out.cell (World.block_lt_of_cell? w _ hx104_1)).trans hx104_1
            replace hx104_2 := (HB.out.cell (World.block_lt_of_cell? w _ hx104_2)).trans hx104_2
            replace p104 := eq_true p104
            replace q104 := eq_true q104
            refine start_ (n := 10) (S := fun w' => w'.cell? ⟨gb101, 0, none⟩ = some (.slice A0_0 l0_0.length c0_0) ∧ w'.cell? ⟨gb101, 1, none⟩ = some (.slice (some ad104) l0_1.length c0_1) ∧ w'.cell? (ad104.add ((x4_3).toNat * 3)) = some (.int .i64 ((rd_T38 l0_1 x4_3).f0)) ∧ w'.cell? ⟨(ad104.add ((x4_3).toNat * 3)).block, (ad104.add ((x4_3).toNat * 3)).off + 1, none⟩ = some (.int .i64 ((rd_T38 l0_1 x4_3).f1)) ∧ w'.cell? ⟨(ad104.add ((x4_3).toNat * 3)).block, (ad104.add ((x4_3).toNat * 3)).off + 2, none⟩ = some (.int .i64 ((rd_T38 l0_1 x4_3).f2))) (ds := []) #[false, false, false, false, false, false, false, false, false, false] (by kernel_rfl) rfl rfl ⟨(blk_cell BK101.out 0).trans rfl, (blk_cell BK101.out 1).trans rfl, ((HB.out.cell (World.block_lt_of_cell? w _ hw104_0)).trans hw104_0), ((HB.out.cell (World.block_lt_of_cell? w _ hw104_1)).trans hw104_1), ((HB.out.cell (World.block_lt_of_cell? w _ hw104_2)).trans hw104_2)⟩ (fun hHeld => ?_); refine with_tabW scarfjointref05_Valid.tab11 scarfjointref05_Valid.bits11 (fun HT_ HW_ => ?_)
            generalize wr.drew = w20 at BK101 HB hx104_0 hx104_1 hx104_2 hHeld ⊢
            refine pure_ (i := 0) (N := some 36) (v := ?_) (a' := ?_) #[true, false, false, false, false, false, false, false, false, false] rfl rfl (any_of HT_.out (by kernel_rfl)) (fun _ _ _ h => h) (Or.inl ⟨by rfl, ?_⟩) ?_ ?_
            rotate_left
            ·intro w'
             go_simp
             with_reducible rfl
            rotate_left
            ·simp only [Act.put, List.setIfInBounds_toArray, List.set_cons_zero, List.set_cons_succ, i64_w, i32_w]
             rfl
            refine pure_ (i := 2) (N := some 38) (v := ?_) (a' := ?_) #[true, false, true, false, false, false, false, false, false, false] rfl rfl (any_of HT_.out (by kernel_rfl)) (fun _ _ _ h => h) (Or.inl ⟨by rfl, ?_⟩) ?_ ?_
            rotate_left
            ·intro w'
             go_simp
             with_reducible rfl
            rotate_left
            ·simp only [Act.put, List.setIfInBounds_toArray, List.set_cons_zero, List.set_cons_succ, i64_w, i32_w]
             rfl
            refine pure_ (i := 5) (N := some 41) (v := ?_) (a' := ?_) #[true, false, true, false, false, true, false, false, false, false] rfl rfl (any_of HT_.out (by kernel_rfl)) (fun _ _ _ h => h) (Or.inl ⟨by rfl, ?_⟩) ?_ ?_
            rotate_left
            ·intro w'
             go_simp
             with_reducible rfl
            rotate_left
            ·simp only [Act.put, List.setIfInBounds_toArray, List.set_cons_zero, List.set_cons_succ, i64_w, i32_w]
             rfl
            refine take_ (i := 1) (N := some 37) (v := ?_) (a' := ?_) #[true, true, true, false, false, true, false, false, false, false] rfl rfl (take_ofW HT_.out HW_.out (by kernel_rfl)) (fun _ _ _ h => h) (Or.inl ⟨by rfl, ?_⟩) hHeld ?_ ?_
            rotate_left
            ·rintro w' ⟨s0, s1, s2, s3, s4⟩
             go_simp
             with_reducible rfl
            rotate_left
            ·simp only [Act.put, List.setIfInBounds_toArray, List.set_cons_zero, List.set_cons_succ, i64_w, i32_w]
             rfl
            refine pure_ (i := 3) (N := some 39) (v := ?_) (a' := ?_) #[true, true, true, true, false, true, false, false, false, false] rfl rfl (any_of HT_.out (by kernel_rfl)) (fun _ _ _ h => h) (Or.inl ⟨by rfl, ?_⟩) ?_ ?_
            rotate_left
            ·intro w'
             go_simp
             with_reducible rfl
            rotate_left
            ·simp only [Act.put, List.setIfInBounds_toArray, List.set_cons_zero, List.set_cons_succ, i64_w, i32_w]
             rfl
            refine take_ (i := 4) (N := some 40) (v := ?_) (a' := ?_) #[true, true, true, true, true, true, false, false, false, false] rfl rfl (take_ofW HT_.out HW_.out (by kernel_rfl)) (fun _ _ _ h => h) (Or.inl ⟨by rfl, ?_⟩) hHeld ?_ ?_
            rotate_left
            ·rintro w' ⟨s0, s1, s2, s3, s4⟩
             go_simp
             with_reducible rfl
            rotate_left
            ·simp only [Act.put, List.setIfInBounds_toArray, List.set_cons_zero, List.set_cons_succ, i64_w, i32_w]
             rfl
            refine take_ (i := 6) (N := some 42) (v := ?_) (a' := ?_) #[true, true, true, true, true, true, true, false, false, false] rfl rfl (take_ofW HT_.out HW_.out (by kernel_rfl)) (fun _ _ _ h => h) (Or.inl ⟨by rfl, ?_⟩) hHeld ?_ ?_
            rotate_left
            ·rintro w' ⟨s0, s1, s2, s3, s4⟩
             go_simp
             with_reducible rfl
            rotate_left
            ·simp only [Act.put, List.setIfInBounds_toArray, List.set_cons_zero, List.set_cons_succ, i64_w, i32_w]
             rfl
            refine pure_ (i := 7) (N := some 43) (v := ?_) (a' := ?_) #[true, true, true, true, true, true, true, true, false, false] rfl rfl (any_of HT_.out (by kernel_rfl)) (fun _ _ _ h => h) (Or.inl ⟨by rfl, ?_⟩) ?_ ?_
            rotate_left
            ·intro w'
             go_simp
             with_reducible rfl
            rotate_left
            ·simp only [Act.put, List.setIfInBounds_toArray, List.set_cons_zero, List.set_cons_succ, i64_w, i32_w]
             rfl
            refine one_ (i := 8) (N := some 44) #[true, true, true, true, true, true, true, true, true, false] rfl rfl (one_of HT_.out (by kernel_rfl)) (by decide) (fun K hK => ?_)
            refine goes_ Try.func53 (by kernel_rfl) rfl #[.agg #[.int .i64 ((rd_T38 l0_1 x4_3).f0), .int .i64 ((rd_T38 l0_1 x4_3).f1), .int .i64 ((rd_T38 l0_1 x4_3).f2)], .int .i64 (l0_0.length : Int)] (by rfl) rfl rfl aM ?_
            with_reducible refine (scarfjointref05_right.calls ((rd_T38 l0_1 x4_3).f0) ((rd_T38 l0_1 x4_3).f1) ((rd_T38 l0_1 x4_3).f2) (l0_0.length : Int) true _ A17.out).mono ?_
            rintro e w21 ⟨rfl, hb⟩
            refine ⟨_, rfl, ?_⟩
            have n0_ := Aside0.mk (bB (g := gb101) (o := .cells #[.slice A0_0 l0_0.length c0_0, .slice (some ad104) l0_1.length c0_1] 25 (0, 0)) (by (with_reducible repeat (first | refine bN ?_ _ | refine bD ?_ | refine bA ?_ _)); exact BK101.out) hb)
            have n1_ := Aside0.mk (wS (by repeat (first | (with_reducible first | exact HB.out | apply wA | apply wN | apply wD | refine below_set ?_ GE101.out) | exact HB.out)) hb)
            clear BK101
            clear HB
            have BK101 := n0_
            have HB := n1_
            clear n0_ n1_
            (try clear hb)
            (try clear hb2)
            (try clear hk)
            (try clear hi)
            refine hK.out _ _ ⟨(blk_cell BK101.out 0).trans rfl, (blk_cell BK101.out 1).trans rfl, ((HB.out.cell (World.block_lt_of_cell? w _ hw104_0)).trans hw104_0), ((HB.out.cell (World.block_lt_of_cell? w _ hw104_1)).trans hw104_1), ((HB.out.cell (World.block_lt_of_cell? w _ hw104_2)).trans hw104_2)⟩ (fun hHeld => ?_)
            clear hK K
            refine norm_ (a' := ?_) ?_ ?_
            rotate_left
            ·show Act.put _ (some 44) _ = _
             simp only [Act.put, List.setIfInBounds_toArray, List.set_cons_zero, List.set_cons_succ, i64_w, i32_w]
             rfl
            refine pure_ (i := 9) (N := some 45) (v := ?_) (a' := ?_) #[true, true, true, true, true, true, true, true, true, true] rfl rfl (any_of HT_.out (by kernel_rfl)) (fun _ _ _ h => h) (Or.inl ⟨by rfl, ?_⟩) ?_ ?_
            rotate_left
            ·intro w'
             go_simp
             with_reducible rfl
            rotate_left
            ·simp only [Act.put, List.setIfInBounds_toArray, List.set_cons_zero, List.set_cons_succ, i64_w, i32_w]
             rfl
            refine done_ (done_of HT_.out (by kernel_rfl)) ?_
            try go_wp2
            go_roundg k3
            case measure => have := HJ1.out; have := HK2.out; have := HK3.out; omega
            case rel => exact ⟨(wrap64 (x4_3 + 1)), rS, H', ⟨by have := HJ1.out; have := HK2.out; have := HK3.out; omega⟩, ⟨by (with_reducible repeat (first | refine bN ?_ _ | refine bD ?_ | refine bA ?_ _)); exact BK101.out⟩, ⟨by repeat (first | (with_reducible first | exact HB.out | apply wA | apply wN | apply wD | refine below_set ?_ GE101.out) | exact HB.out)⟩⟩
           ·replace c18 := Bool.eq_false_iff.mpr c18
            subst c18
            have H1 : (some 6) = some r := by rw [if_neg (show ¬ (false = true) by decide)] at H; exact H
            clear H
            have H := H1
            clear H1
            obtain rfl := Option.some.inj H
            have hcz22_0 : wr.cell? ⟨gb101, 0, none⟩ = some (.slice A0_0 l0_0.length c0_0) := (blk_cell BK101.out 0).trans rfl
            have hcz22_1 : wr.cell? ⟨gb101, 1, none⟩ = some (.slice A0_1 l0_1.length c0_1) := (blk_cell BK101.out 1).trans rfl
            have hfz22_0 := blk_frozen BK101.out 0
            have hfz22_1 := blk_frozen BK101.out 1
            try go_wp2
            have n0_ := Aside0.mk (bD BK101.out)
            have n1_ := Aside0.mk (wD HB.out)
            clear BK101
            clear HB
            have BK101 := n0_
            have HB := n1_
            clear n0_ n1_
            have p104 : 0 ≤ (x4_3 : Int) := oT
            have q104 : x4_3 < (l0_1.length : Int) := oT
            obtain ⟨ad104, e104, hx104_0, hx104_1, hx104_2⟩ := at_T38 HR0_1.out x4_3 p104 q104
            have hw104_2 := hx104_2
            have hw104_1 := hx104_1
            have hw104_0 := hx104_0
            cases e104
            replace hx104_0 := (HB.out.cell (World.block_lt_of_cell? w _ hx104_0)).trans hx104_0
            replace hx104_1 := (HB.out.cell (World.block_lt_of_cell? w _ hx104_1)).trans hx104_1
            replace hx104_2 := (HB.out.cell (World.block_lt_of_cell? w _ hx104_2)).trans hx104_2
            replace p104 := eq_true p104
            replace q104 := eq_true q104
            refine start_ (n := 10) (S := fun w' => w'.cell? ⟨gb101, 0, none⟩ = some (.slice A0_0 l0_0.length c0_0) ∧ w'.cell? ⟨gb101, 1, none⟩ = some (.slice (some ad104) l0_1.length c0_1) ∧ w'.cell? (ad104.add ((x4_3).toNat * 3)) = some (.int .i64 ((rd_T38 l0_1 x4_3).f0)) ∧ w'.cell? ⟨(ad104.add ((x4_3).toNat * 3)).block, (ad104.add ((x4_3).toNat * 3)).off + 1, none⟩ = some (.int .i64 ((rd_T38 l0_1 x4_3).f1)) ∧ w'.cell? ⟨(ad104.add ((x4_3).toNat * 3)).block, (ad104.add ((x4_3).toNat * 3)).off + 2, none⟩ = some (.int .i64 ((rd_T38 l0_1 x4_3).f2))) (ds := []) #[false, false, false, false, false, false, false, false, false, false] (by kernel_rfl) rfl rfl ⟨(blk_cell BK101.out 0).trans rfl, (blk_cell BK101.out 1).trans rfl, ((HB.out.cell (World.block_lt_of_cell? w _ hw104_0)).trans hw104_0), ((HB.out.cell (World.block_lt_of_cell? w _ hw104_1)).trans hw104_1), ((HB.out.cell (World.block_lt_of_cell? w _ hw104_2)).trans hw104_2)⟩ (fun hHeld => ?_); refine with_tabW scarfjointref05_Valid.tab11 scarfjointref05_Valid.bits11 (fun HT_ HW_ => ?_)
            generalize wr.drew = w23 at BK101 HB hx104_0 hx104_1 hx104_2 hHeld ⊢
            refine pure_ (i := 0) (N := some 36) (v := ?_) (a' := ?_) #[true, false, false, false, false, false, false, false, false, false] rfl rfl (any_of HT_.out (by kernel_rfl)) (fun _ _ _ h => h) (Or.inl ⟨by rfl, ?_⟩) ?_ ?_
            rotate_left
            ·intro w'
             go_simp
             with_reducible rfl
            rotate_left
            ·simp only [Act.put, List.setIfInBounds_toArray, List.set_cons_zero, List.set_cons_succ, i64_w, i32_w]
             rfl
            refine pure_ (i := 2) (N := some 38) (v := ?_) (a' := ?_) #[true, false, true, false, false, false, false, false, false, false] rfl rfl (any_of HT_.out (by kernel_rfl)) (fun _ _ _ h => h) (Or.inl ⟨by rfl, ?_⟩) ?_ ?_
            rotate_left
            ·intro w'
             go_simp
             with_reducible rfl
            rotate_left
            ·simp only [Act.put, List.setIfInBounds_toArray, List.set_cons_zero, List.set_cons_succ, i64_w, i32_w]
             rfl
            refine pure_ (i := 5) (N := some 41) (v := ?_) (a' := ?_) #[true, false, true, false, false, true, false, false, false, false] rfl rfl (any_of HT_.out (by kernel_rfl)) (fun _ _ _ h => h) (Or.inl ⟨by rfl, ?_⟩) ?_ ?_
            rotate_left
            ·intro w'
             go_simp
             with_reducible rfl
            rotate_left
            ·simp only [Act.put, List.setIfInBounds_toArray, List.set_cons_zero, List.set_cons_succ, i64_w, i32_w]
             rfl
            refine take_ (i := 1) (N := some 37) (v := ?_) (a' := ?_) #[true, true, true, false, false, true, false, false, false, false] rfl rfl (take_ofW HT_.out HW_.out (by kernel_rfl)) (fun _ _ _ h => h) (Or.inl ⟨by rfl, ?_⟩) hHeld ?_ ?_
            rotate_left
            ·rintro w' ⟨s0, s1, s2, s3, s4⟩
             go_simp
             with_reducible rfl
            rotate_left
            ·simp only [Act.put, List.setIfInBounds_toArray, List.set_cons_zero, List.set_cons_succ, i64_w, i32_w]
             rfl
            refine pure_ (i := 3) (N := some 39) (v := ?_) (a' := ?_) #[true, true, true, true, false, true, false, false, false, false] rfl rfl (any_of HT_.out (by kernel_rfl)) (fun _ _ _ h => h) (Or.inl ⟨by rfl, ?_⟩) ?_ ?_
            rotate_left
            ·intro w'
             go_simp
             with_reducible rfl
            rotate_left
            ·simp only [Act.put, List.setIfInBounds_toArray, List.set_cons_zero, List.set_cons_succ, i64_w, i32_w]
             rfl
            refine take_ (i := 4) (N := some 40) (v := ?_) (a' := ?_) #[true, true, true, true, true, true, false, false, false, false] rfl rfl (take_ofW HT_.out HW_.out (by kernel_rfl)) (fun _ _ _ h => h) (Or.inl ⟨by rfl, ?_⟩) hHeld ?_ ?_
            rotate_left
            ·rintro w' ⟨s0, s1, s2, s3, s4⟩
             go_simp
             with_reducible rfl
            rotate_left
            ·simp only [Act.put, List.setIfInBounds_toArray, List.set_cons_zero, List.set_cons_succ, i64_w, i32_w]
             rfl
            refine take_ (i := 6) (N := some 42) (v := ?_) (a' := ?_) #[true, true, true, true, true, true, true, false, false, false] rfl rfl (take_ofW HT_.out HW_.out (by kernel_rfl)) (fun _ _ _ h => h) (Or.inl ⟨by rfl, ?_⟩) hHeld ?_ ?_
            rotate_left
            ·rintro w' ⟨s0, s1, s2, s3, s4⟩
             go_simp
             with_reducible rfl
            rotate_left
            ·simp only [Act.put, List.setIfInBounds_toArray, List.set_cons_zero, List.set_cons_succ, i64_w, i32_w]
             rfl
            refine pure_ (i := 7) (N := some 43) (v := ?_) (a' := ?_) #[true, true, true, true, true, true, true, true, false, false] rfl rfl (any_of HT_.out (by kernel_rfl)) (fun _ _ _ h => h) (Or.inl ⟨by rfl, ?_⟩) ?_ ?_
            rotate_left
            ·intro w'
             go_simp
             with_reducible rfl
            rotate_left
            ·simp only [Act.put, List.setIfInBounds_toArray, List.set_cons_zero, List.set_cons_succ, i64_w, i32_w]
             rfl
            refine one_ (i := 8) (N := some 44) #[true, true, true, true, true, true, true, true, true, false] rfl rfl (one_of HT_.out (by kernel_rfl)) (by decide) (fun K hK => ?_)
            refine goes_ Try.func53 (by kernel_rfl) rfl #[.agg #[.int .i64 ((rd_T38 l0_1 x4_3).f0), .int .i64 ((rd_T38 l0_1 x4_3).f1), .int .i64 ((rd_T38 l0_1 x4_3).f2)], .int .i64 (l0_0.length : Int)] (by rfl) rfl rfl aM ?_
            with_reducible refine (scarfjointref05_right.calls ((rd_T38 l0_1 x4_3).f0) ((rd_T38 l0_1 x4_3).f1) ((rd_T38 l0_1 x4_3).f2) (l0_0.length : Int) false _ A17.out).mono ?_
            rintro e w24 ⟨rfl, hb⟩
            refine ⟨_, rfl, ?_⟩
            have n0_ := Aside0.mk (bB (g := gb101) (o := .cells #[.slice A0_0 l0_0.length c0_0, .slice (some ad104) l0_1.length c0_1] 25 (0, 0)) (by (with_reducible repeat (first | refine bN ?_ _ | refine bD ?_ | refine bA ?_ _)); exact BK101.out) hb)
            have n1_ := Aside0.mk (wS (by repeat (first | (with_reducible first | exact HB.out | apply wA | apply wN | apply wD | refine below_set ?_ GE101.out) | exact HB.out)) hb)
            clear BK101
            clear HB
            have BK101 := n0_
            have HB := n1_
            clear n0_ n1_
            (try clear hb)
            (try clear hb2)
            (try clear hk)
            (try clear hi)
            refine hK.out _ _ ⟨(blk_cell BK101.out 0).trans rfl, (blk_cell BK101.out 1).trans rfl, ((HB.out.cell (World.block_lt_of_cell? w _ hw104_0)).trans hw104_0), ((HB.out.cell (World.block_lt_of_cell? w _ hw104_1)).trans hw104_1), ((HB.out.cell (World.block_lt_of_cell? w _ hw104_2)).trans hw104_2)⟩ (fun hHeld => ?_)
            clear hK K
            refine norm_ (a' := ?_) ?_ ?_
            rotate_left
            ·show Act.put _ (some 44) _ = _
             simp only [Act.put, List.setIfInBounds_toArray, List.set_cons_zero, List.set_cons_succ, i64_w, i32_w]
             rfl
            refine pure_ (i := 9) (N := some 45) (v := ?_) (a' := ?_) #[true, true, true, true, true, true, true, true, true, true] rfl rfl (any_of HT_.out (by kernel_rfl)) (fun _ _ _ h => h) (Or.inl ⟨by rfl, ?_⟩) ?_ ?_
            rotate_left
            ·intro w'
             go_simp
             with_reducible rfl
            rotate_left
            ·simp only [Act.put, List.setIfInBounds_toArray, List.set_cons_zero, List.set_cons_succ, i64_w, i32_w]
             rfl
            refine done_ (done_of HT_.out (by kernel_rfl)) ?_
            try go_wp2
            go_ret
            exact ⟨by first | rfl | (simp [errW_none, errW_some] <;> rfl) | (simp [*, errW_none, errW_some] <;> rfl), by repeat (first | (with_reducible first | exact HB.out | apply wA | apply wN | apply wD | refine below_set ?_ GE101.out) | exact HB.out)⟩
          ·rw [if_neg c16] at H
           exact absurd H (by simp)
         ·rw [if_neg c15] at H
          have c15b0 : decide (x4_3 < (l0_1.length : Int)) = false := decide_eq_false c15
          clear c15
          obtain rfl := Option.some.inj H
          have hcz25_0 : wr.cell? ⟨gb101, 0, none⟩ = some (.slice A0_0 l0_0.length c0_0) := (blk_cell BK101.out 0).trans rfl
          have hcz25_1 : wr.cell? ⟨gb101, 1, none⟩ = some (.slice A0_1 l0_1.length c0_1) := (blk_cell BK101.out 1).trans rfl
          have hfz25_0 := blk_frozen BK101.out 0
          have hfz25_1 := blk_frozen BK101.out 1
          go_wp2
          go_ret
          exact ⟨by first | rfl | (simp [errW_none, errW_some] <;> rfl) | (simp [*, errW_none, errW_some] <;> rfl), by repeat (first | (with_reducible first | exact HB.out | apply wA | apply wN | apply wD | refine below_set ?_ GE101.out) | exact HB.out)⟩
end Go.Proofs.Ytmbnibonggbjgaa.X

namespace Go.Proofs.Ytmbnibonggbjgaa.X
open Go.RowKit Go.Proofs.YtmbnibonggbjgaaW.PrintWords Go.Proofs.YtmbnibonggbjgaaW.PrintLast Go.Proofs.YtmbnibonggbjgaaW.PrintMore
open Go.Proofs.YtmbnibonggbjgaaW.PrintWords renaming blk_drewN → bN, blk_drew → bD, blk_alloc → bA, below_alloc → wA, pw_below_drewN → wN, below_drew1 → wD, blk_below → bB, below_step → wS, blk_at → bT, blk_grown → bG
open Go.Proofs.YtmbnibonggbjgaaW.PrintWords.Kd renaming R_alloc → rA, R_drewN → rN, R_drew → rD, R_below → rB, R_grown → rG, C_below → cB, C_alloc → cA, C_drewN → cN, C_drew → cD
attribute [local go_sem] max2_int min2_int max_two min_two max_three min_three max_four min_four
set_option linter.unusedVariables false
set_option linter.unusedSimpArgs false
/-! ### scarfjointref05_Incident: function 19 -/
mutual
def scarfjointref05_Incident.j0 : Nat → Int → Bool → List Int → List (S38) → Option (List Int × List Int × Int)
 | 0, _, _, _, _ => none
 | k + 1, x1, x24, x102000, x102001 => if x24 = true then (some (([] : List Int), ([] : List Int), 6)) else (scarfjointref05_Incident.l0 k x1 ([] : List Int) ([] : List Int) 0 x102000 x102001)
def scarfjointref05_Incident.l0 : Nat → Int → List Int → List Int → Int → List Int → List (S38) → Option (List Int × List Int × Int)
 | 0, _, _, _, _, _, _ => none
 | k + 1, x1, x8, x9, x10, x102000, x102001 => if x10 < (x102001.length : Int) then (if 0 ≤ x10 then (if ((rd_T38 x102001 x10).f2) = x1 then (if x8.length < 17592186044416 then (scarfjointref05_Incident.j2 k x1 (x8 ++ [x10]) x9 x10 x102000 x102001) else (none)) else (scarfjointref05_Incident.j2 k x1 x8 x9 x10 x102000 x102001)) else (none)) else (some (x8, x9, 0))
def scarfjointref05_Incident.j2 : Nat → Int → List Int → List Int → Int → List Int → List (S38) → Option (List Int × List Int × Int)
 | 0, _, _, _, _, _, _ => none
 | k + 1, x1, x8, x9, x10, x102000, x102001 => if 0 ≤ x10 then (if x10 < (x102001.length : Int) then (if ((rd_T38 x102001 x10).f1) = x1 then (if x9.length < 17592186044416 then (scarfjointref05_Incident.l0 k x1 x8 (x9 ++ [x10]) (wrap64 (x10 + 1)) x102000 x102001) else (none)) else (scarfjointref05_Incident.l0 k x1 x8 x9 (wrap64 (x10 + 1)) x102000 x102001)) else (none)) else (none)
end
def scarfjointref05_Incident.f (k : Nat) (l0_0 : List Int) (l0_1 : List (S38)) (a1 : Int) : Option (List Int × List Int × Int) := (scarfjointref05_Valid.f k l0_0 l0_1).bind fun t102 => (if t102 = 0 then (if a1 < 0 then (scarfjointref05_Incident.j0 k a1 true l0_0 l0_1) else (scarfjointref05_Incident.j0 k a1 (decide (a1 ≥ (l0_0.length : Int))) l0_0 l0_1)) else (some (([] : List Int), ([] : List Int), t102)))
theorem scarfjointref05_Incident.mono_l : ∀ k, (∀ y0 y1 y2 y3, LeO (scarfjointref05_Incident.j0 k y0 y1 y2 y3) (scarfjointref05_Incident.j0 (k + 1) y0 y1 y2 y3)) ∧ (∀ y0 y1 y2 y3 y4 y5, LeO (scarfjointref05_Incident.l0 k y0 y1 y2 y3 y4 y5) (scarfjointref05_Incident.l0 (k + 1) y0 y1 y2 y3 y4 y5)) ∧ (∀ y0 y1 y2 y3 y4 y5, LeO (scarfjointref05_Incident.j2 k y0 y1 y2 y3 y4 y5) (scarfjointref05_Incident.j2 (k + 1) y0 y1 y2 y3 y4 y5))
 | 0 => ⟨fun _ _ _ _ r h => by simp [scarfjointref05_Incident.j0] at h, fun _ _ _ _ _ _ r h => by simp [scarfjointref05_Incident.l0] at h, fun _ _ _ _ _ _ r h => by simp [scarfjointref05_Incident.j2] at h⟩
 | k + 1 => by
  obtain ⟨ih0, ih1, ih2⟩ := scarfjointref05_Incident.mono_l k
  refine ⟨?_, ?_, ?_⟩
  ·intro y0 y1 y2 y3
   unfold scarfjointref05_Incident.j0
   repeat' first
   | (with_reducible exact ih0 _ _ _ _)
   | (with_reducible exact ih1 _ _ _ _ _ _)
   | (with_reducible exact ih2 _ _ _ _ _ _)
   | (with_reducible exact scarfjointref05_Valid.mono _ _ _)
   | (with_reducible exact LeO.refl _)
   | (with_reducible exact LeO.none _)
   | (with_reducible refine LeO.ite ?_ ?_)
   | (with_reducible refine LeO.bind ?_ (fun _ => ?_))
   | exact ih0 _ _ _ _
   | exact ih1 _ _ _ _ _ _
   | exact ih2 _ _ _ _ _ _
   | exact scarfjointref05_Valid.mono _ _ _
   | exact LeO.none _
   | refine LeO.ite ?_ ?_
   | refine LeO.bind ?_ (fun _ => ?_)
  ·intro y0 y1 y2 y3 y4 y5
   unfold scarfjointref05_Incident.l0
   repeat' first
   | (with_reducible exact ih0 _ _ _ _)
   | (with_reducible exact ih1 _ _ _ _ _ _)
   | (with_reducible exact ih2 _ _ _ _ _ _)
   | (with_reducible exact scarfjointref05_Valid.mono _ _ _)
   | (with_reducible exact LeO.refl _)
   | (with_reducible exact LeO.none _)
   | (with_reducible refine LeO.ite ?_ ?_)
   | (with_reducible refine LeO.bind ?_ (fun _ => ?_))
   | exact ih0 _ _ _ _
   | exact ih1 _ _ _ _ _ _
   | exact ih2 _ _ _ _ _ _
   | exact scarfjointref05_Valid.mono _ _ _
   | exact LeO.none _
   | refine LeO.ite ?_ ?_
   | refine LeO.bind ?_ (fun _ => ?_)
  ·intro y0 y1 y2 y3 y4 y5
   unfold scarfjointref05_Incident.j2
   repeat' first
   | (with_reducible exact ih0 _ _ _ _)
   | (with_reducible exact ih1 _ _ _ _ _ _)
   | (with_reducible exact ih2 _ _ _ _ _ _)
   | (with_reducible exact scarfjointref05_Valid.mono _ _ _)
   | (with_reducible exact LeO.refl _)
   | (with_reducible exact LeO.none _)
   | (with_reducible refine LeO.ite ?_ ?_)
   | (with_reducible refine LeO.bind ?_ (fun _ => ?_))
   | exact ih0 _ _ _ _
   | exact ih1 _ _ _ _ _ _
   | exact ih2 _ _ _ _ _ _
   | exact scarfjointref05_Valid.mono _ _ _
   | exact LeO.none _
   | refine LeO.ite ?_ ?_
   | refine LeO.bind ?_ (fun _ => ?_)
theorem scarfjointref05_Incident.mono : ∀ a0 a1 a2 k, LeO (scarfjointref05_Incident.f k a0 a1 a2) (scarfjointref05_Incident.f (k + 1) a0 a1 a2) := by
 intro a0 a1 a2 k
 obtain ⟨ih0, ih1, ih2⟩ := scarfjointref05_Incident.mono_l k
 unfold scarfjointref05_Incident.f
 repeat' first
   | (with_reducible exact ih0 _ _ _ _)
   | (with_reducible exact ih1 _ _ _ _ _ _)
   | (with_reducible exact ih2 _ _ _ _ _ _)
   | (with_reducible exact scarfjointref05_Valid.mono _ _ _)
   | (with_reducible exact LeO.refl _)
   | (with_reducible exact LeO.none _)
   | (with_reducible refine LeO.ite ?_ ?_)
   | (with_reducible refine LeO.bind ?_ (fun _ => ?_))
   | exact ih0 _ _ _ _
   | exact ih1 _ _ _ _ _ _
   | exact ih2 _ _ _ _ _ _
   | exact scarfjointref05_Valid.mono _ _ _
   | exact LeO.none _
   | refine LeO.ite ?_ ?_
   | refine LeO.bind ?_ (fun _ => ?_)
set_option maxHeartbeats 8000000 in
set_option maxRecDepth 100000 in
theorem scarfjointref05_Incident.calls (k : Nat) (A0_0 : Option Addr) (c0_0 : Nat) (l0_0 : List Int) (A0_1 : Option Addr) (c0_1 : Nat) (l0_1 : List (S38)) (a1 : Int) (r1 : List Int) (r2 : List Int) (r3 : Int) (w : World) (hr0_0 : Kd.C (Kd.int .i64) w A0_0 l0_0.length l0_0) (hc0_0 : l0_0.length ≤ c0_0) (hr0_1 : Kd.C k38 w A0_1 l0_1.length l0_1) (hc0_1 : l0_1.length ≤ c0_1) (h : scarfjointref05_Incident.f k l0_0 l0_1 a1 = some (r1, r2, r3)) :
  Calls Try.prog 19 #[.agg #[.slice A0_0 l0_0.length c0_0, .slice A0_1 l0_1.length c0_1], .int .i64 a1] w fun e w' => ∃ v0_ v1_ : Value, e = .returned (.tuple #[v0_, v1_, .int .i64 r3]) ∧ Kd.R (Kd.int .i64) 3 w' w.heap.size (fun k_ => some k_ ≠ (v1_ : Value).ownBlock) v0_ r1 ∧ Kd.R (Kd.int .i64) 3 w' w.heap.size (fun k_ => some k_ ≠ (v0_ : Value).ownBlock) v1_ r2 ∧ Below w.heap.size w w' := by
 have hu25 := Try.underlying25
 have HR0_0 := Aside0.mk hr0_0
 have HC0_0 := Aside0.mk hc0_0
 clear hr0_0 hc0_0
 have HR0_1 := Aside0.mk hr0_1
 have HC0_1 := Aside0.mk hc0_1
 clear hr0_1 hc0_1
 have HB := Aside0.mk (Below.refl w.heap.size w)
 have H : ((scarfjointref05_Valid.f k l0_0 l0_1).bind fun t102 => (if t102 = 0 then (if a1 < 0 then (scarfjointref05_Incident.j0 k a1 true l0_0 l0_1) else (scarfjointref05_Incident.j0 k a1 (decide (a1 ≥ (l0_0.length : Int))) l0_0 l0_1)) else (some (([] : List Int), ([] : List Int), t102)))) = some (r1, r2, r3) := h
 clear h
 replace H := Option.bind_eq_some_iff.mp H
 obtain ⟨t102, A30, H⟩ := H
 replace H : (if t102 = 0 then (if a1 < 0 then (scarfjointref05_Incident.j0 k a1 true l0_0 l0_1) else (scarfjointref05_Incident.j0 k a1 (decide (a1 ≥ (l0_0.length : Int))) l0_0 l0_1)) else (some (([] : List Int), ([] : List Int), t102))) = some (r1, r2, r3) := H
 have A3 := Aside0.mk A30
 clear A30
 by_cases c4 : t102 = 0
 ·rw [if_pos c4] at H
  have c4b0 : (t102 == 0) = true := beq_iff_eq.mpr c4
  have c4b1 : (t102 != 0) = false := bne_eq_false_iff_eq.mpr c4
  clear c4
  have HC5 := Aside0.mk H
  clear H
  go_enter Try.func19, Try.ntmps19
  go_upto_region 4 with (first | ((with_reducible refine gate_dst (N := 2) rfl ?_); (try (refine gate_guard (by rfl) ?_; dsimp only)); refine box_event ?hg (N := 2) ?hd (cs := #[.slice A0_0 l0_0.length c0_0, .slice A0_1 l0_1.length c0_1]) (t := 25) ?hr ?_; (case hd => rfl); (case hg => rfl); (case hr => first | (go_simp; done) | (go_simp; rfl)); intro gb101 hg w6 hbox hb; have n0_ := Aside0.mk (wS hB hb); have n1_ := Aside0.mk (hbox); have n2_ := Aside0.mk ((by rw [hg]; exact (below_size hB) : w.heap.size ≤ gb101)); have n3_ := Aside0.mk ((by rw [hg]; exact (below_size hB) : w.heap.size ≤ gb101)); clear HB; have HB := n0_; have BK101 := n1_; have GW101 := n2_; have GE101 := n3_; clear n0_ n1_ n2_ n3_; clear hb hbox hg; have hcz7_0 : w6.cell? ⟨gb101, 0, none⟩ = some (.slice A0_0 l0_0.length c0_0) := (blk_cell BK101.out 0).trans rfl; have hcz7_1 : w6.cell? ⟨gb101, 1, none⟩ = some (.slice A0_1 l0_1.length c0_1) := (blk_cell BK101.out 1).trans rfl; have hfz7_0 := blk_frozen BK101.out 0; have hfz7_1 := blk_frozen BK101.out 1) | ((with_reducible refine gate_callee (f := 27) rfl ?_); refine goesL_ (some 12) rfl rfl Try.func27 (by kernel_rfl) rfl #[.agg #[.slice A0_0 l0_0.length c0_0, .slice A0_1 l0_1.length c0_1]] rfl aM ?_; (with_reducible refine (scarfjointref05_Valid.calls k _ _ l0_0 _ _ l0_1 t102 _ ?side1 ?side2 ?side3 ?side4 A3.out).mono ?_); (case side1 => repeat (first | exact (cB HR0_0.out HB.out) | (with_reducible refine cA ?_ _) | (with_reducible refine cN ?_ _) | (with_reducible refine cD ?_))); (case side2 => exact HC0_0.out); (case side3 => repeat (first | exact (cB HR0_1.out HB.out) | (with_reducible refine cA ?_ _) | (with_reducible refine cN ?_ _) | (with_reducible refine cD ?_))); (case side4 => exact HC0_1.out); rintro e w8 ⟨rfl, hb⟩; refine ⟨_, rfl, ?_⟩; have n0_ := Aside0.mk (bB (g := gb101) (o := .cells #[.slice A0_0 l0_0.length c0_0, .slice A0_1 l0_1.length c0_1] 25 (0, 0)) (by (with_reducible repeat (first | refine bN ?_ _ | refine bD ?_ | refine bA ?_ _)); exact BK101.out) hb); have n1_ := Aside0.mk (wS (by repeat (first | (with_reducible first | exact HB.out | apply wA | apply wN | apply wD | refine below_set ?_ GE101.out) | exact HB.out)) hb); clear BK101; clear HB; have BK101 := n0_; have HB := n1_; clear n0_ n1_; (try clear hb); (try clear hb2); (try clear hk); (try clear hi)))
  (try simp only [Act.put, List.setIfInBounds_toArray, List.set_cons_zero, List.set_cons_succ])
  go_cut [24] (fun v24 wc => ∃ (kq : Nat) (x24_4 : Bool), v24 = .bool x24_4 ∧ Aside0 (scarfjointref05_Incident.j0 kq a1 x24_4 l0_0 l0_1 = some (r1, r2, r3)) ∧ Aside0 (kq ≤ k) ∧ Aside0 (wc.heap[gb101]? = some (.cells #[(.slice A0_0 l0_0.length c0_0), (.slice A0_1 l0_1.length c0_1)] 25 (0, 0))) ∧ Aside0 (Below w.heap.size w wc))
  case first =>
   have H := HC5.out
   clear HC5
   by_cases c9 : a1 < 0
   ·rw [if_pos c9] at H
    have c9b0 : decide (a1 < 0) = true := decide_eq_true c9
    clear c9
    (first | rw [c9b0] | (simp only [i64_w, i32_w]; rw [c9b0]) | skip)
    have H' := Aside0.mk H
    clear H
    go_wp2
    go_meet
    case rel => exact ⟨_, (true), rS, H', ⟨by first | omega | exact Nat.le_refl _⟩, ⟨by (with_reducible repeat (first | refine bN ?_ _ | refine bD ?_ | refine bA ?_ _)); exact BK101.out⟩, ⟨by repeat (first | (with_reducible first | exact HB.out | apply wA | apply wN | apply wD | refine below_set ?_ GE101.out) | exact HB.out)⟩⟩
   ·rw [if_neg c9] at H
    have c9b0 : decide (a1 < 0) = false := decide_eq_false c9
    clear c9
    (first | rw [c9b0] | (simp only [i64_w, i32_w]; rw [c9b0]) | skip)
    have H' := Aside0.mk H
    clear H
    have hcz10_0 : w8.cell? ⟨gb101, 0, none⟩ = some (.slice A0_0 l0_0.length c0_0) := (blk_cell BK101.out 0).trans rfl
    have hcz10_1 : w8.cell? ⟨gb101, 1, none⟩ = some (.slice A0_1 l0_1.length c0_1) := (blk_cell BK101.out 1).trans rfl
    have hfz10_0 := blk_frozen BK101.out 0
    have hfz10_1 := blk_frozen BK101.out 1
    go_wp2
    go_meet
    case rel => exact ⟨_, (decide (a1 ≥ (l0_0.length : Int))), rS, H', ⟨by first | omega | exact Nat.le_refl _⟩, ⟨by (with_reducible repeat (first | refine bN ?_ _ | refine bD ?_ | refine bA ?_ _)); exact BK101.out⟩, ⟨by repeat (first | (with_reducible first | exact HB.out | apply wA | apply wN | apply wD | refine below_set ?_ GE101.out) | exact HB.out)⟩⟩
  case rest =>
   clear HC5
   try clear c1
   try clear c2
   try clear p2
   try clear c4
   try clear c4b0
   try clear c4b1
   try clear c9
   try clear c9b0
   try clear hcz10_0
   try clear hcz10_1
   try clear hcz7_0
   try clear hcz7_1
   try clear hfz10_0
   try clear hfz10_1
   try clear hfz7_0
   try clear hfz7_1
   obtain ⟨kq, x24_4, rfl, HA, HJ4, BK101, HB⟩ := hcut
   cases kq with
   | zero => exact absurd HA.out (by simp [scarfjointref05_Incident.j0])
   | succ kj4 =>
    have H := HA.out
    clear HA
    simp only [scarfjointref05_Incident.j0] at H
    by_cases c11 : x24_4 = true
    ·subst c11
     have H1 : (some (([] : List Int), ([] : List Int), 6)) = some (r1, r2, r3) := by rw [if_pos rfl] at H; exact H
     clear H
     have H := H1
     clear H1
     simp only [Option.some.injEq, Prod.mk.injEq] at H
     obtain ⟨rfl, rfl, rfl⟩ := H
     go_wp2
     go_ret3
     exact ⟨_, _, by first | rfl | (simp [errW_none, errW_some] <;> rfl) | (simp [*, errW_none, errW_some] <;> rfl), by first | exact Kd.R_nil _ _ _ _ _ | exact Kd.N_nil _ _ _ _ _ | exact Kd.V_nil _ _ _ _ _ | exact Kd.Q_nil _ _ _ _ _ | exact Kd.S_nil _ _ _ _ _, by first | exact Kd.R_nil _ _ _ _ _ | exact Kd.N_nil _ _ _ _ _ | exact Kd.V_nil _ _ _ _ _ | exact Kd.Q_nil _ _ _ _ _ | exact Kd.S_nil _ _ _ _ _, by repeat (first | (with_reducible first | exact HB.out | apply wA | apply wN | apply wD | refine below_set ?_ GE101.out) | exact HB.out)⟩
    ·replace c11 := Bool.eq_false_iff.mpr c11
     subst c11
     have H1 : (scarfjointref05_Incident.l0 kj4 a1 ([] : List Int) ([] : List Int) 0 l0_0 l0_1) = some (r1, r2, r3) := by rw [if_neg (show ¬ (false = true) by decide)] at H; exact H
     clear H
     have H := H1
     clear H1
     have H' := Aside0.mk H
     clear H
     go_wp2
     go_loopg [8, 9, 10] kj4 (fun kq v8 v9 v10 w' => ∃ (x8_2 : List Int) (x9_2 : List Int) (x10_2 : Int), v10 = .int .i64 x10_2 ∧ Aside0 (scarfjointref05_Incident.l0 kq a1 x8_2 x9_2 x10_2 l0_0 l0_1 = some (r1, r2, r3)) ∧ Aside0 (kq ≤ kj4) ∧ Aside0 (Kd.R (Kd.int .i64) 3 w' w.heap.size (fun k_ => some k_ ≠ (v9 : Value).ownBlock) v8 x8_2) ∧ Aside0 (Kd.R (Kd.int .i64) 3 w' w.heap.size (fun k_ => some k_ ≠ (v8 : Value).ownBlock) v9 x9_2) ∧ Aside0 (w'.heap[gb101]? = some (.cells #[(.slice A0_0 l0_0.length c0_0), (.slice A0_1 l0_1.length c0_1)] 25 (0, 0))) ∧ Aside0 (Below w.heap.size w w'))
     case atStart => exact ⟨(([] : List Int)), (([] : List Int)), (0), rS, H', ⟨Nat.le_refl _⟩, ⟨by first | exact Kd.R_nil _ _ _ _ _ | exact Kd.N_nil _ _ _ _ _ | exact Kd.V_nil _ _ _ _ _ | exact Kd.Q_nil _ _ _ _ _ | exact Kd.S_nil _ _ _ _ _⟩, ⟨by first | exact Kd.R_nil _ _ _ _ _ | exact Kd.N_nil _ _ _ _ _ | exact Kd.V_nil _ _ _ _ _ | exact Kd.Q_nil _ _ _ _ _ | exact Kd.S_nil _ _ _ _ _⟩, ⟨by (with_reducible repeat (first | refine bN ?_ _ | refine bD ?_ | refine bA ?_ _)); exact BK101.out⟩, ⟨by repeat (first | (with_reducible first | exact HB.out | apply wA | apply wN | apply wD | refine below_set ?_ GE101.out) | exact HB.out)⟩⟩
     case round =>
      clear H'
      try clear c1
      try clear c2
      try clear p2
      try clear c4
      try clear c4b0
      try clear c4b1
      try clear c9
      try clear c9b0
      try clear c11
      try clear hcz10_0
      try clear hcz10_1
      try clear hcz7_0
      try clear hcz7_1
      try clear hfz10_0
      try clear hfz10_1
      try clear hfz7_0
      try clear hfz7_1
      try clear p2
      obtain ⟨x8_2, x9_2, x10_2, rfl, HA, HK2, HO_8, HO_9, BK101, HB⟩ := hrel
      cases gk with
      | zero => exact absurd HA.out (by simp [scarfjointref05_Incident.l0])
      | succ k2 =>
       have H := HA.out
       clear HA
       simp only [scarfjointref05_Incident.l0] at H
       by_cases c12 : x10_2 < (l0_1.length : Int)
       ·rw [if_pos c12] at H
        have c12b0 : decide (x10_2 < (l0_1.length : Int)) = true := decide_eq_true c12
        clear c12
        by_cases c13 : 0 ≤ x10_2
        ·rw [if_pos c13] at H
         have c13b0 : decide (0 ≤ x10_2) = true := decide_eq_true c13
         clear c13
         have HC14 := Aside0.mk H
         clear H
         have hcz15_0 : wr.cell? ⟨gb101, 0, none⟩ = some (.slice A0_0 l0_0.length c0_0) := (blk_cell BK101.out 0).trans rfl
         have hcz15_1 : wr.cell? ⟨gb101, 1, none⟩ = some (.slice A0_1 l0_1.length c0_1) := (blk_cell BK101.out 1).trans rfl
         have hfz15_0 := blk_frozen BK101.out 0
         have hfz15_1 := blk_frozen BK101.out 1
         have p103 : 0 ≤ (x10_2 : Int) := oT
         have q103 : x10_2 < (l0_1.length : Int) := oT
         obtain ⟨ad103, e103, hx103_0, hx103_1, hx103_2⟩ := at_T38 HR0_1.out x10_2 p103 q103
         cases e103
         replace hx103_0 := (HB.out.cell (World.block_lt_of_cell? w _ hx103_0)).trans hx103_0
         replace hx103_1 := (HB.out.cell (World.block_lt_of_cell? w _ hx103_1)).trans hx103_1
         replace hx103_2 := (HB.out.cell (World.block_lt_of_cell? w _ hx103_2)).trans hx103_2
         replace p103 := eq_true p103
         replace q103 := eq_true q103
         go_upto_if 39 with (fail)
         go_cut [8] (fun v8 wc => ∃ (kq : Nat) (x8_13 : List Int), Aside0 (scarfjointref05_Incident.j2 kq a1 x8_13 x9_2 x10_2 l0_0 l0_1 = some (r1, r2, r3)) ∧ Aside0 (kq ≤ k2) ∧ Aside0 (Kd.R (Kd.int .i64) 3 wc w.heap.size (fun k_ => some k_ ≠ (u9 : Value).ownBlock) v8 x8_13) ∧ Aside0 (Kd.R (Kd.int .i64) 3 wc w.heap.size (fun k_ => some k_ ≠ (v8 : Value).ownBlock) u9 x9_2) ∧ Aside0 (wc.heap[gb101]? = some (.cells #[(.slice A0_0 l0_0.length c0_0), (.slice (some ad103) l0_1.length c0_1)] 25 (0, 0))) ∧ Aside0 (Below w.heap.size w wc))
         case first =>
          have H := HC14.out
          clear HC14
          by_cases c16 : ((rd_T38 l0_1 x10_2).f2) = a1
          ·rw [if_pos c16] at H
           have c16b0 : (((rd_T38 l0_1 x10_2).f2) == a1) = true := beq_iff_eq.mpr c16
           have c16b1 : (((rd_T38 l0_1 x10_2).f2) != a1) = false := bne_eq_false_iff_eq.mpr c16
           clear c16
           (first | rw [c16b0] | (simp only [i64_w, i32_w]; rw [c16b0]) | skip)
           by_cases c17 : x8_2.length < 17592186044416
           ·rw [if_pos c17] at H
            have LMc17 := Aside0.mk c17
            clear c17
            obtain ⟨y104, hy104⟩ : ∃ y_ : List Int, y_ = (x8_2 ++ [x10_2]) := ⟨_, rfl⟩
            replace H : (scarfjointref05_Incident.j2 k2 a1 y104 x9_2 x10_2 l0_0 l0_1) = some (r1, r2, r3) := by first | (rw [hy104]; with_reducible exact H) | (have H2_ := (Option.bind_some _ _).symm.trans H; rw [hy104]; with_reducible exact H2_) | (have H2_ := (Option.bind_some _ _).symm.trans H; with_reducible exact H2_) | with_reducible exact H | (rw [hy104]; exact H) | exact H
            have Ny104 := Aside0.mk hy104
            clear hy104
            have H' := Aside0.mk H
            clear H
            go_wp2_with (first | ((with_reducible refine gate_builtin (b := .append) (xs := #[.tmp 40, .tmp 42]) rfl ?_); (try (refine gate_guard (by rfl) ?_; dsimp only)); at_builtin; refine Kd.R_append (Kd.int .i64) (w0 := w) w.heap.size rfl (.tmp 40) (.tmp 42) 22 3 (.int .i64 0) 8 rfl Try.underlying22 info3 rfl (by decide) (by omega) u8 x8_2 x10_2 [.int .i64 x10_2] (fun k_ => some k_ ≠ (u9 : Value).ownBlock) (fun _ => False) rfl rfl ?aP (fun _ hk => hk.elim) ?aF ?aO ?aB ?aS ?aL ?_; (case aP => exact rfl); (case aB => exact (by repeat (first | (with_reducible first | exact HB.out | apply wA | apply wN | apply wD | refine below_set ?_ GE101.out) | exact HB.out))); (case aF => exact (fun k_ hk => Kd.fresh' (Kd.R_lt (by (with_reducible repeat (first | apply rA | apply rN | apply rD)); exact HO_9.out)) k_ hk)); (case aO => exact (by (with_reducible repeat (first | apply rA | apply rN | apply rD)); exact HO_8.out)); (case aS => exact (below_size (by repeat (first | (with_reducible first | exact HB.out | apply wA | apply wN | apply wD | refine below_set ?_ GE101.out) | exact HB.out)))); (case aL => have := LMc17.out; omega); intro v105 w18 ho hb hg hat; rw [← Ny104.out] at ho; have n0_ := Aside0.mk (Kd.R_after (ok := (fun _ => True)) (by (with_reducible repeat (first | apply rA | apply rN | apply rD)); exact Kd.R_mono HO_9.out (fun _ hk => ⟨trivial, hk⟩)) hg hat); have n1_ := Aside0.mk (bG (g := gb101) (o := .cells #[.slice A0_0 l0_0.length c0_0, .slice (some ad103) l0_1.length c0_1] 25 (0, 0)) (by (with_reducible repeat (first | refine bN ?_ _ | refine bD ?_ | refine bA ?_ _)); exact BK101.out) hg (Kd.R_ne HO_8.out BK101.out (by decide))); have n2_ := Aside0.mk (hb); have n3_ := Aside0.mk (ho); clear HO_9; clear BK101; clear HB; clear HO_8; have HO_9 := n0_; have BK101 := n1_; have HB := n2_; have HO106 := n3_; clear n0_ n1_ n2_ n3_; clear ho hb hg hat))
            go_meet
            case rel => exact ⟨_, (y104), H', ⟨by have := HJ4.out; have := HK2.out; first | omega | exact Nat.le_refl _⟩, ⟨by (with_reducible repeat (first | apply rA | apply rN | apply rD)); exact HO106.out⟩, ⟨by (with_reducible repeat (first | apply rA | apply rN | apply rD)); exact Kd.R_mono HO_9.out (fun _ hk => hk.2)⟩, ⟨by (with_reducible repeat (first | refine bN ?_ _ | refine bD ?_ | refine bA ?_ _)); exact BK101.out⟩, ⟨by repeat (first | (with_reducible first | exact HB.out | apply wA | apply wN | apply wD | refine below_set ?_ GE101.out) | exact HB.out)⟩⟩
           ·rw [if_neg c17] at H
            exact absurd H (by simp)
          ·rw [if_neg c16] at H
           have c16b0 : (((rd_T38 l0_1 x10_2).f2) == a1) = false := beq_eq_false_iff_ne.mpr c16
           have c16b1 : (((rd_T38 l0_1 x10_2).f2) != a1) = true := bne_iff_ne.mpr c16
           (first | rw [c16b0] | (simp only [i64_w, i32_w]; rw [c16b0]) | skip)
           have H' := Aside0.mk H
           clear H
           go_wp2
           go_meet
           case rel => exact ⟨_, (x8_2), H', ⟨by have := HJ4.out; have := HK2.out; first | omega | exact Nat.le_refl _⟩, ⟨by (with_reducible repeat (first | apply rA | apply rN | apply rD)); exact HO_8.out⟩, ⟨by (with_reducible repeat (first | apply rA | apply rN | apply rD)); exact HO_9.out⟩, ⟨by (with_reducible repeat (first | refine bN ?_ _ | refine bD ?_ | refine bA ?_ _)); exact BK101.out⟩, ⟨by repeat (first | (with_reducible first | exact HB.out | apply wA | apply wN | apply wD | refine below_set ?_ GE101.out) | exact HB.out)⟩⟩
         case rest =>
          clear HC14
          try clear c1
          try clear p1
          try clear q1
          try clear hx1
          try clear c2
          try clear p2
          try clear c4
          try clear c4b0
          try clear c4b1
          try clear c9
          try clear c9b0
          try clear c11
          try clear c12
          try clear c12b0
          try clear c13
          try clear c13b0
          try clear c16
          try clear c16b0
          try clear c16b1
          try clear c17
          try clear hcz10_0
          try clear hcz10_1
          try clear hcz15_0
          try clear hcz15_1
          try clear hcz7_0
          try clear hcz7_1
          try clear hfz10_0
          try clear hfz10_1
          try clear hfz15_0
          try clear hfz15_1
          try clear hfz7_0
          try clear hfz7_1
          try clear hx103_0
          try clear hx103_1
          try clear hx103_2
          try clear p103
          try clear p2
          try clear q103
          obtain ⟨kq, x8_13, HA, HJ13, HO_8, HO_9, BK101, HB⟩ := hcut
          cases kq with
          | zero => exact absurd HA.out (by simp [scarfjointref05_Incident.j2])
          | succ kj13 =>
           have H := HA.out
           clear HA
           simp only [scarfjointref05_Incident.j2] at H
           by_cases c19 : 0 ≤ x10_2
           ·rw [if_pos c19] at H
            have c19b0 : decide (0 ≤ x10_2) = true := decide_eq_true c19
            clear c19
            by_cases c20 : x10_2 < (l0_1.length : Int)
            ·rw [if_pos c20] at H
             have c20b0 : decide (x10_2 < (l0_1.length : Int)) = true := decide_eq_true c20
             clear c20
             by_cases c21 : ((rd_T38 l0_1 x10_2).f1) = a1
             ·rw [if_pos c21] at H
              have c21b0 : (((rd_T38 l0_1 x10_2).f1) == a1) = true := beq_iff_eq.mpr c21
              have c21b1 : (((rd_T38 l0_1 x10_2).f1) != a1) = false := bne_eq_false_iff_eq.mpr c21
              clear c21
              by_cases c22 : x9_2.length < 17592186044416
              ·rw [if_pos c22] at H
               have LMc22 := Aside0.mk c22
               clear c22
               obtain ⟨y108, hy108⟩ : ∃ y_ : List Int, y_ = (x9_2 ++ [x10_2]) := ⟨_, rfl⟩
               replace H : (scarfjointref05_Incident.l0 kj13 a1 x8_13 y108 (wrap64 (x10_2 + 1)) l0_0 l0_1) = some (r1, r2, r3) := by first | (rw [hy108]; with_reducible exact H) | (have H2_ := (Option.bind_some _ _).symm.trans H; rw [hy108]; with_reducible exact H2_) | (have H2_ := (Option.bind_some _ _).symm.trans H; with_reducible exact H2_) | with_reducible exact H | (rw [hy108]; exact H) | exact H
               have Ny108 := Aside0.mk hy108
               clear hy108
               have H' := Aside0.mk H
               clear H
               have hcz23_0 : wc.cell? ⟨gb101, 0, none⟩ = some (.slice A0_0 l0_0.length c0_0) := (blk_cell BK101.out 0).trans rfl
               have hcz23_1 : wc.cell? ⟨gb101, 1, none⟩ = some (.slice (some ad103) l0_1.length c0_1) := (blk_cell BK101.out 1).trans rfl
               have hfz23_0 := blk_frozen BK101.out 0
               have hfz23_1 := blk_frozen BK101.out 1
               have p107 : 0 ≤ (x10_2 : Int) := oT
               have q107 : x10_2 < (l0_1.length : Int) := oT
               obtain ⟨ad107, e107, hx107_0, hx107_1, hx107_2⟩ := at_T38 HR0_1.out x10_2 p107 q107
               obtain rfl : ad103 = ad107 := (by injection e107)
               replace hx107_0 := (HB.out.cell (World.block_lt_of_cell? w _ hx107_0)).trans hx107_0
               replace hx107_1 := (HB.out.cell (World.block_lt_of_cell? w _ hx107_1)).trans hx107_1
               replace hx107_2 := (HB.out.cell (World.block_lt_of_cell? w _ hx107_2)).trans hx107_2
               replace p107 := eq_true p107
               replace q107 := eq_true q107
               go_wp2_with (first | ((with_reducible refine gate_builtin (b := .append) (xs := #[.tmp 52, .tmp 54]) rfl ?_); (try (refine gate_guard (by rfl) ?_; dsimp only)); at_builtin; refine Kd.R_append (Kd.int .i64) (w0 := w) w.heap.size rfl (.tmp 52) (.tmp 54) 22 3 (.int .i64 0) 8 rfl Try.underlying22 info3 rfl (by decide) (by omega) u9 x9_2 x10_2 [.int .i64 x10_2] (fun k_ => some k_ ≠ (u8 : Value).ownBlock) (fun _ => False) rfl rfl ?aP (fun _ hk => hk.elim) ?aF ?aO ?aB ?aS ?aL ?_; (case aP => exact rfl); (case aB => exact (by repeat (first | (with_reducible first | exact HB.out | apply wA | apply wN | apply wD | refine below_set ?_ GE101.out) | exact HB.out))); (case aF => exact (fun k_ hk => Kd.fresh' (Kd.R_lt (by (with_reducible repeat (first | apply rA | apply rN | apply rD)); exact HO_8.out)) k_ hk)); (case aO => exact (by (with_reducible repeat (first | apply rA | apply rN | apply rD)); exact HO_9.out)); (case aS => exact (below_size (by repeat (first | (with_reducible first | exact HB.out | apply wA | apply wN | apply wD | refine below_set ?_ GE101.out) | exact HB.out)))); (case aL => have := LMc22.out; omega); intro v109 w24 ho hb hg hat; rw [← Ny108.out] at ho; have n0_ := Aside0.mk (Kd.R_after (ok := (fun _ => True)) (by (with_reducible repeat (first | apply rA | apply rN | apply rD)); exact Kd.R_mono HO_8.out (fun _ hk => ⟨trivial, hk⟩)) hg hat); have n1_ := Aside0.mk (bG (g := gb101) (o := .cells #[.slice A0_0 l0_0.length c0_0, .slice (some ad103) l0_1.length c0_1] 25 (0, 0)) (by (with_reducible repeat (first | refine bN ?_ _ | refine bD ?_ | refine bA ?_ _)); exact BK101.out) hg (Kd.R_ne HO_9.out BK101.out (by decide))); have n2_ := Aside0.mk (hb); have n3_ := Aside0.mk (ho); clear HO_8; clear BK101; clear HB; clear HO_9; have HO_8 := n0_; have BK101 := n1_; have HB := n2_; have HO110 := n3_; clear n0_ n1_ n2_ n3_; clear ho hb hg hat))
               go_roundg kj13
               case measure => have := HJ4.out; have := HK2.out; have := HJ13.out; omega
               case rel => exact ⟨(x8_13), (y108), (wrap64 (x10_2 + 1)), rS, H', ⟨by have := HJ4.out; have := HK2.out; have := HJ13.out; omega⟩, ⟨by (with_reducible repeat (first | apply rA | apply rN | apply rD)); exact Kd.R_mono HO_8.out (fun _ hk => hk.2)⟩, ⟨by (with_reducible repeat (first | apply rA | apply rN | apply rD)); exact HO110.out⟩, ⟨by (with_reducible repeat (first | refine bN ?_ _ | refine bD ?_ | refine bA ?_ _)); exact BK101.out⟩, ⟨by repeat (first | (with_reducible first | exact HB.out | apply wA | apply wN | apply wD | refine below_set ?_ GE101.out) | exact HB.out)⟩⟩
              ·rw [if_neg c22] at H
               exact absurd H (by simp)
             ·rw [if_neg c21] at H
              have c21b0 : (((rd_T38 l0_1 x10_2).f1) == a1) = false := beq_eq_false_iff_ne.mpr c21
              have c21b1 : (((rd_T38 l0_1 x10_2).f1) != a1) = true := bne_iff_ne.mpr c21
              have H' := Aside0.mk H
              clear H
              have hcz25_0 : wc.cell? ⟨gb101, 0, none⟩ = some (.slice A0_0 l0_0.length c0_0) := (blk_cell BK101.out 0).trans rfl
              have hcz25_1 : wc.cell? ⟨gb101, 1, none⟩ = some (.slice (some ad103) l0_1.length c0_1) := (blk_cell BK101.out 1).trans rfl
              have hfz25_0 := blk_frozen BK101.out 0
              have hfz25_1 := blk_frozen BK101.out 1
              have p107 : 0 ≤ (x10_2 : Int) := oT
              have q107 : x10_2 < (l0_1.length : Int) := oT
              obtain ⟨ad107, e107, hx107_0, hx107_1, hx107_2⟩ := at_T38 HR0_1.out x10_2 p107 q107
              obtain rfl : ad103 = ad107 := (by injection e107)
              replace hx107_0 := (HB.out.cell (World.block_lt_of_cell? w _ hx107_0)).trans hx107_0
              replace hx107_1 := (HB.out.cell (World.block_lt_of_cell? w _ hx107_1)).trans hx107_1
              replace hx107_2 := (HB.out.cell (World.block_lt_of_cell? w _ hx107_2)).trans hx107_2
              replace p107 := eq_true p107
              replace q107 := eq_true q107
              go_wp2
              go_roundg kj13
              case measure => have := HJ4.out; have := HK2.out; have := HJ13.out; omega
              case rel => exact ⟨(x8_13), (x9_2), (wrap64 (x10_2 + 1)), rS, H', ⟨by have := HJ4.out; have := HK2.out; have := HJ13.out; omega⟩, ⟨by (with_reducible repeat (first | apply rA | apply rN | apply rD)); exact HO_8.out⟩, ⟨by (with_reducible repeat (first | apply rA | apply rN | apply rD)); exact HO_9.out⟩, ⟨by (with_reducible repeat (first | refine bN ?_ _ | refine bD ?_ | refine bA ?_ _)); exact BK101.out⟩, ⟨by repeat (first | (with_reducible first | exact HB.out | apply wA | apply wN | apply wD | refine below_set ?_ GE101.out) | exact HB.out)⟩⟩
            ·rw [if_neg c20] at H
             exact absurd H (by simp)
           ·rw [if_neg c19] at H
            exact absurd H (by simp)
        ·rw [if_neg c13] at H
         exact absurd H (by simp)
       ·rw [if_neg c12] at H
        have c12b0 : decide (x10_2 < (l0_1.length : Int)) = false := decide_eq_false c12
        clear c12
        simp only [Option.some.injEq, Prod.mk.injEq] at H
        obtain ⟨rfl, rfl, rfl⟩ := H
        have hcz26_0 : wr.cell? ⟨gb101, 0, none⟩ = some (.slice A0_0 l0_0.length c0_0) := (blk_cell BK101.out 0).trans rfl
        have hcz26_1 : wr.cell? ⟨gb101, 1, none⟩ = some (.slice A0_1 l0_1.length c0_1) := (blk_cell BK101.out 1).trans rfl
        have hfz26_0 := blk_frozen BK101.out 0
        have hfz26_1 := blk_frozen BK101.out 1
        go_wp2
        go_ret3
        exact ⟨_, _, by first | rfl | (simp [errW_none, errW_some] <;> rfl) | (simp [*, errW_none, errW_some] <;> rfl), by (with_reducible repeat (first | apply rA | apply rN | apply rD)); exact HO_8.out, by (with_reducible repeat (first | apply rA | apply rN | apply rD)); exact HO_9.out, by repeat (first | (with_reducible first | exact HB.out | apply wA | apply wN | apply wD | refine below_set ?_ GE101.out) | exact HB.out)⟩
 ·rw [if_neg c4] at H
  have c4b0 : (t102 == 0) = false := beq_eq_false_iff_ne.mpr c4
  have c4b1 : (t102 != 0) = true := bne_iff_ne.mpr c4
  simp only [Option.some.injEq, Prod.mk.injEq] at H
  obtain ⟨rfl, rfl, rfl⟩ := H
  go_enter Try.func19, Try.ntmps19
  go_wp2_with (first | ((with_reducible refine gate_dst (N := 2) rfl ?_); (try (refine gate_guard (by rfl) ?_; dsimp only)); refine box_event ?hg (N := 2) ?hd (cs := #[.slice A0_0 l0_0.length c0_0, .slice A0_1 l0_1.length c0_1]) (t := 25) ?hr ?_; (case hd => rfl); (case hg => rfl); (case hr => first | (go_simp; done) | (go_simp; rfl)); intro gb101 hg w27 hbox hb; have n0_ := Aside0.mk (wS hB hb); have n1_ := Aside0.mk (hbox); have n2_ := Aside0.mk ((by rw [hg]; exact (below_size hB) : w.heap.size ≤ gb101)); have n3_ := Aside0.mk ((by rw [hg]; exact (below_size hB) : w.heap.size ≤ gb101)); clear HB; have HB := n0_; have BK101 := n1_; have GW101 := n2_; have GE101 := n3_; clear n0_ n1_ n2_ n3_; clear hb hbox hg; have hcz28_0 : w27.cell? ⟨gb101, 0, none⟩ = some (.slice A0_0 l0_0.length c0_0) := (blk_cell BK101.out 0).trans rfl; have hcz28_1 : w27.cell? ⟨gb101, 1, none⟩ = some (.slice A0_1 l0_1.length c0_1) := (blk_cell BK101.out 1).trans rfl; have hfz28_0 := blk_frozen BK101.out 0; have hfz28_1 := blk_frozen BK101.out 1) | ((with_reducible refine gate_callee (f := 27) rfl ?_); refine goesL_ (some 12) rfl rfl Try.func27 (by kernel_rfl) rfl #[.agg #[.slice A0_0 l0_0.length c0_0, .slice A0_1 l0_1.length c0_1]] rfl aM ?_; (with_reducible refine (scarfjointref05_Valid.calls k _ _ l0_0 _ _ l0_1 t102 _ ?side1 ?side2 ?side3 ?side4 A3.out).mono ?_); (case side1 => repeat (first | exact (cB HR0_0.out HB.out) | (with_reducible refine cA ?_ _) | (with_reducible refine cN ?_ _) | (with_reducible refine cD ?_))); (case side2 => exact HC0_0.out); (case side3 => repeat (first | exact (cB HR0_1.out HB.out) | (with_reducible refine cA ?_ _) | (with_reducible refine cN ?_ _) | (with_reducible refine cD ?_))); (case side4 => exact HC0_1.out); rintro e w29 ⟨rfl, hb⟩; refine ⟨_, rfl, ?_⟩; have n0_ := Aside0.mk (bB (g := gb101) (o := .cells #[.slice A0_0 l0_0.length c0_0, .slice A0_1 l0_1.length c0_1] 25 (0, 0)) (by (with_reducible repeat (first | refine bN ?_ _ | refine bD ?_ | refine bA ?_ _)); exact BK101.out) hb); have n1_ := Aside0.mk (wS (by repeat (first | (with_reducible first | exact HB.out | apply wA | apply wN | apply wD | refine below_set ?_ GE101.out) | exact HB.out)) hb); clear BK101; clear HB; have BK101 := n0_; have HB := n1_; clear n0_ n1_; (try clear hb); (try clear hb2); (try clear hk); (try clear hi)))
  go_ret3
  exact ⟨_, _, by first | rfl | (simp [errW_none, errW_some] <;> rfl) | (simp [*, errW_none, errW_some] <;> rfl), by first | exact Kd.R_nil _ _ _ _ _ | exact Kd.N_nil _ _ _ _ _ | exact Kd.V_nil _ _ _ _ _ | exact Kd.Q_nil _ _ _ _ _ | exact Kd.S_nil _ _ _ _ _, by first | exact Kd.R_nil _ _ _ _ _ | exact Kd.N_nil _ _ _ _ _ | exact Kd.V_nil _ _ _ _ _ | exact Kd.Q_nil _ _ _ _ _ | exact Kd.S_nil _ _ _ _ _, by repeat (first | (with_reducible first | exact HB.out | apply wA | apply wN | apply wD | refine below_set ?_ GE101.out) | exact HB.out)⟩
end Go.Proofs.Ytmbnibonggbjgaa.X

namespace Go.Proofs.Ytmbnibonggbjgaa.X
open Go.RowKit Go.Proofs.YtmbnibonggbjgaaW.PrintWords Go.Proofs.YtmbnibonggbjgaaW.PrintLast Go.Proofs.YtmbnibonggbjgaaW.PrintMore
open Go.Proofs.YtmbnibonggbjgaaW.PrintWords renaming blk_drewN → bN, blk_drew → bD, blk_alloc → bA, below_alloc → wA, pw_below_drewN → wN, below_drew1 → wD, blk_below → bB, below_step → wS, blk_at → bT, blk_grown → bG
open Go.Proofs.YtmbnibonggbjgaaW.PrintWords.Kd renaming R_alloc → rA, R_drewN → rN, R_drew → rD, R_below → rB, R_grown → rG, C_below → cB, C_alloc → cA, C_drewN → cN, C_drew → cD
attribute [local go_sem] max2_int min2_int max_two min_two max_three min_three max_four min_four
set_option linter.unusedVariables false
set_option linter.unusedSimpArgs false
/-! ### scarfjointref05_Numbers: function 37 -/
def scarfjointref05_Numbers.l0 : Nat → Int → Int → List Int → Int → Option (List Int)
 | 0, _, _, _, _ => none
 | k + 1, x0, x1, x5, x6 => if x6 < x1 then (if x5.length < 17592186044416 then (scarfjointref05_Numbers.l0 k x0 x1 (x5 ++ [wrap64 (x0 + x6)]) (wrap64 (x6 + 1))) else (none)) else (some x5)
def scarfjointref05_Numbers.f (k : Nat) (a0 : Int) (a1 : Int) : Option (List Int) := scarfjointref05_Numbers.l0 k a0 a1 ([] : List Int) 0
theorem scarfjointref05_Numbers.mono_l : ∀ k, (∀ y0 y1 y2 y3, LeO (scarfjointref05_Numbers.l0 k y0 y1 y2 y3) (scarfjointref05_Numbers.l0 (k + 1) y0 y1 y2 y3))
 | 0 => fun _ _ _ _ r h => by simp [scarfjointref05_Numbers.l0] at h
 | k + 1 => by
  have ih0 := scarfjointref05_Numbers.mono_l k
  ·intro y0 y1 y2 y3
   unfold scarfjointref05_Numbers.l0
   repeat' first
   | (with_reducible exact ih0 _ _ _ _)
   | (with_reducible exact LeO.refl _)
   | (with_reducible exact LeO.none _)
   | (with_reducible refine LeO.ite ?_ ?_)
   | (with_reducible refine LeO.bind ?_ (fun _ => ?_))
   | exact ih0 _ _ _ _
   | exact LeO.none _
   | refine LeO.ite ?_ ?_
   | refine LeO.bind ?_ (fun _ => ?_)
theorem scarfjointref05_Numbers.mono : ∀ a0 a1 k, LeO (scarfjointref05_Numbers.f k a0 a1) (scarfjointref05_Numbers.f (k + 1) a0 a1) := by
 intro a0 a1 k
 have ih0 := scarfjointref05_Numbers.mono_l k
 unfold scarfjointref05_Numbers.f
 repeat' first
   | (with_reducible exact ih0 _ _ _ _)
   | (with_reducible exact LeO.refl _)
   | (with_reducible exact LeO.none _)
   | (with_reducible refine LeO.ite ?_ ?_)
   | (with_reducible refine LeO.bind ?_ (fun _ => ?_))
   | exact ih0 _ _ _ _
   | exact LeO.none _
   | refine LeO.ite ?_ ?_
   | refine LeO.bind ?_ (fun _ => ?_)
set_option maxHeartbeats 8000000 in
set_option maxRecDepth 100000 in
theorem scarfjointref05_Numbers.calls (k : Nat) (a0 : Int) (a1 : Int) (r : List Int) (w : World) (h : scarfjointref05_Numbers.f k a0 a1 = some r) :
  Calls Try.prog 37 #[.int .i64 a0, .int .i64 a1] w fun e w' => ∃ v0_ : Value, e = .returned (v0_) ∧ Kd.R (Kd.int .i64) 3 w' w.heap.size (fun _ => True) v0_ r ∧ Below w.heap.size w w' := by
 have HB := Aside0.mk (Below.refl w.heap.size w)
 have H : (scarfjointref05_Numbers.l0 k a0 a1 ([] : List Int) 0) = some r := h
 clear h
 have H' := Aside0.mk H
 clear H
 go_enter Try.func37, Try.ntmps37
 go_wp2
 go_loopg [5, 6] k (fun kq v5 v6 w' => ∃ (x5_1 : List Int) (x6_1 : Int), v6 = .int .i64 x6_1 ∧ Aside0 (scarfjointref05_Numbers.l0 kq a0 a1 x5_1 x6_1 = some r) ∧ Aside0 (kq ≤ k) ∧ Aside0 (Kd.R (Kd.int .i64) 3 w' w.heap.size (fun _ => True) v5 x5_1) ∧ Aside0 (Below w.heap.size w w'))
 case atStart => exact ⟨(([] : List Int)), (0), rS, H', ⟨Nat.le_refl _⟩, ⟨by first | exact Kd.R_nil _ _ _ _ _ | exact Kd.N_nil _ _ _ _ _ | exact Kd.V_nil _ _ _ _ _ | exact Kd.Q_nil _ _ _ _ _ | exact Kd.S_nil _ _ _ _ _⟩, ⟨by repeat (first | (with_reducible first | exact HB.out | apply wA | apply wN | apply wD) | exact HB.out)⟩⟩
 case round =>
  clear H'
  try clear p2
  obtain ⟨x5_1, x6_1, rfl, HA, HK1, HO_5, HB⟩ := hrel
  cases gk with
  | zero => exact absurd HA.out (by simp [scarfjointref05_Numbers.l0])
  | succ k1 =>
   have H := HA.out
   clear HA
   simp only [scarfjointref05_Numbers.l0] at H
   by_cases c3 : x6_1 < a1
   ·rw [if_pos c3] at H
    have c3b0 : decide (x6_1 < a1) = true := decide_eq_true c3
    clear c3
    by_cases c4 : x5_1.length < 17592186044416
    ·rw [if_pos c4] at H
     have LMc4 := Aside0.mk c4
     clear c4
     obtain ⟨y101, hy101⟩ : ∃ y_ : List Int, y_ = (x5_1 ++ [wrap64 (a0 + x6_1)]) := ⟨_, rfl⟩
     replace H : (scarfjointref05_Numbers.l0 k1 a0 a1 y101 (wrap64 (x6_1 + 1))) = some r := by first | (rw [hy101]; with_reducible exact H) | (have H2_ := (Option.bind_some _ _).symm.trans H; rw [hy101]; with_reducible exact H2_) | (have H2_ := (Option.bind_some _ _).symm.trans H; with_reducible exact H2_) | with_reducible exact H | (rw [hy101]; exact H) | exact H
     have Ny101 := Aside0.mk hy101
     clear hy101
     have H' := Aside0.mk H
     clear H
     go_wp2_with (first | ((with_reducible refine gate_builtin (b := .append) (xs := #[.tmp 12, .tmp 16]) rfl ?_); at_builtin; refine Kd.R_append (Kd.int .i64) (w0 := w) w.heap.size rfl (.tmp 12) (.tmp 16) 22 3 (.int .i64 0) 8 rfl Try.underlying22 info3 rfl (by decide) (by omega) u5 x5_1 (wrap64 (a0 + x6_1)) [.int .i64 (wrap64 (a0 + x6_1))] (fun _ => True) (fun _ => False) rfl rfl ?aP (fun _ hk => hk.elim) ?aF ?aO ?aB ?aS ?aL ?_; (case aP => exact rfl); (case aB => exact hB); (case aF => exact (fun _ _ => trivial)); (case aO => exact (by (with_reducible repeat (first | apply rA | apply rN | apply rD)); exact HO_5.out)); (case aS => exact (below_size hB)); (case aL => have := LMc4.out; omega); intro v102 w5 ho hb hg hat; rw [← Ny101.out] at ho; have n0_ := Aside0.mk (hb); have n1_ := Aside0.mk (ho); clear HB; clear HO_5; have HB := n0_; have HO103 := n1_; clear n0_ n1_; clear ho hb hg hat))
     go_roundg k1
     case measure => have := HK1.out; omega
     case rel => exact ⟨(y101), (wrap64 (x6_1 + 1)), rS, H', ⟨by have := HK1.out; omega⟩, ⟨by (with_reducible repeat (first | apply rA | apply rN | apply rD)); exact HO103.out⟩, ⟨by repeat (first | (with_reducible first | exact HB.out | apply wA | apply wN | apply wD) | exact HB.out)⟩⟩
    ·rw [if_neg c4] at H
     exact absurd H (by simp)
   ·rw [if_neg c3] at H
    have c3b0 : decide (x6_1 < a1) = false := decide_eq_false c3
    clear c3
    obtain rfl := Option.some.inj H
    go_wp2
    go_ret
    exact ⟨_, by first | rfl | (simp [errW_none, errW_some] <;> rfl) | (simp [*, errW_none, errW_some] <;> rfl), by (with_reducible repeat (first | apply rA | apply rN | apply rD)); exact HO_5.out, by repeat (first | (with_reducible first | exact HB.out | apply wA | apply wN | apply wD) | exact HB.out)⟩
end Go.Proofs.Ytmbnibonggbjgaa.X

namespace Go.Proofs.Ytmbnibonggbjgaa.X
open Go.RowKit Go.Proofs.YtmbnibonggbjgaaW.PrintWords Go.Proofs.YtmbnibonggbjgaaW.PrintLast Go.Proofs.YtmbnibonggbjgaaW.PrintMore
open Go.Proofs.YtmbnibonggbjgaaW.PrintWords renaming blk_drewN → bN, blk_drew → bD, blk_alloc → bA, below_alloc → wA, pw_below_drewN → wN, below_drew1 → wD, blk_below → bB, below_step → wS, blk_at → bT, blk_grown → bG
open Go.Proofs.YtmbnibonggbjgaaW.PrintWords.Kd renaming R_alloc → rA, R_drewN → rN, R_drew → rD, R_below → rB, R_grown → rG, C_below → cB, C_alloc → cA, C_drewN → cN, C_drew → cD
attribute [local go_sem] max2_int min2_int max_two min_two max_three min_three max_four min_four
set_option linter.unusedVariables false
set_option linter.unusedSimpArgs false
/-! ### scarfjointref05_Components: function 21 -/
mutual
def scarfjointref05_Components.l0 : Nat → List Int → Int → List Int → List (S38) → Option ((List (S64)) × Int)
 | 0, _, _, _, _ => none
 | k + 1, x5, x6, x102000, x102001 => if x6 < (x102000.length : Int) then (scarfjointref05_Components.l1 k x5 x6 0 x102000 x102001) else (scarfjointref05_Components.l2 k x5 ([] : List (S64)) 0 x102000 x102001)
def scarfjointref05_Components.l1 : Nat → List Int → Int → Int → List Int → List (S38) → Option ((List (S64)) × Int)
 | 0, _, _, _, _, _ => none
 | k + 1, x5, x6, x7, x102000, x102001 => if x7 < (x102001.length : Int) then (if 0 ≤ x7 then (if 0 ≤ ((rd_T38 x102001 x7).f1) then (if ((rd_T38 x102001 x7).f1) < (x5.length : Int) then (if 0 ≤ ((rd_T38 x102001 x7).f2) then (if ((rd_T38 x102001 x7).f2) < (x5.length : Int) then (scarfjointref05_Components.l1 k ((x5.set (((rd_T38 x102001 x7).f1) : Int).toNat (mn (rd x5 ((rd_T38 x102001 x7).f1)) (rd x5 ((rd_T38 x102001 x7).f2)))).set (((rd_T38 x102001 x7).f2) : Int).toNat (mn (rd x5 ((rd_T38 x102001 x7).f1)) (rd x5 ((rd_T38 x102001 x7).f2)))) x6 (wrap64 (x7 + 1)) x102000 x102001) else (none)) else (none)) else (none)) else (none)) else (none)) else (scarfjointref05_Components.l0 k x5 (wrap64 (x6 + 1)) x102000 x102001)
def scarfjointref05_Components.l2 : Nat → List Int → List (S64) → Int → List Int → List (S38) → Option ((List (S64)) × Int)
 | 0, _, _, _, _, _ => none
 | k + 1, x5, x11, x12, x102000, x102001 => if x12 < (x102000.length : Int) then (if 0 ≤ x12 then (if x12 < (x5.length : Int) then (if (rd x5 x12) = x12 then (scarfjointref05_Components.l3 k x5 x11 x12 0 x102000 x102001 ([] : List Int)) else (scarfjointref05_Components.l2 k x5 x11 (wrap64 (x12 + 1)) x102000 x102001)) else (none)) else (none)) else (some (x11, 0))
def scarfjointref05_Components.l3 : Nat → List Int → List (S64) → Int → Int → List Int → List (S38) → List Int → Option ((List (S64)) × Int)
 | 0, _, _, _, _, _, _, _ => none
 | k + 1, x5, x11, x12, x14, x102000, x102001, x114000 => if x14 < (x102000.length : Int) then (if 0 ≤ x14 then (if x14 < (x5.length : Int) then (if (rd x5 x14) = x12 then (if x114000.length < 17592186044416 then (scarfjointref05_Components.l3 k x5 x11 x12 (wrap64 (x14 + 1)) x102000 x102001 (x114000 ++ [x14])) else (none)) else (scarfjointref05_Components.l3 k x5 x11 x12 (wrap64 (x14 + 1)) x102000 x102001 x114000)) else (none)) else (none)) else (scarfjointref05_Components.l4 k x5 x11 x12 0 x102000 x102001 x114000 ([] : List Int))
def scarfjointref05_Components.l4 : Nat → List Int → List (S64) → Int → Int → List Int → List (S38) → List Int → List Int → Option ((List (S64)) × Int)
 | 0, _, _, _, _, _, _, _, _ => none
 | k + 1, x5, x11, x12, x15, x102000, x102001, x114000, x114001 => if x15 < (x102001.length : Int) then (if 0 ≤ x15 then (if 0 ≤ ((rd_T38 x102001 x15).f1) then (if ((rd_T38 x102001 x15).f1) < (x5.length : Int) then (if (rd x5 ((rd_T38 x102001 x15).f1)) = x12 then (if x114001.length < 17592186044416 then (scarfjointref05_Components.l4 k x5 x11 x12 (wrap64 (x15 + 1)) x102000 x102001 x114000 (x114001 ++ [x15])) else (none)) else (scarfjointref05_Components.l4 k x5 x11 x12 (wrap64 (x15 + 1)) x102000 x102001 x114000 x114001)) else (none)) else (none)) else (none)) else (if x11.length < 2932031007402 then (scarfjointref05_Components.l2 k x5 (x11 ++ [(⟨x114000, x114001⟩ : S64)]) (wrap64 (x12 + 1)) x102000 x102001) else (none))
end
def scarfjointref05_Components.f (k : Nat) (l0_0 : List Int) (l0_1 : List (S38)) : Option ((List (S64)) × Int) := (scarfjointref05_Valid.f k l0_0 l0_1).bind fun t102 => (if t102 = 0 then ((scarfjointref05_Numbers.f k 0 (l0_0.length : Int)).bind fun t103 => (scarfjointref05_Components.l0 k t103 0 l0_0 l0_1)) else (some (([] : List (S64)), t102)))
theorem scarfjointref05_Components.mono_l : ∀ k, (∀ y0 y1 y2 y3, LeO (scarfjointref05_Components.l0 k y0 y1 y2 y3) (scarfjointref05_Components.l0 (k + 1) y0 y1 y2 y3)) ∧ (∀ y0 y1 y2 y3 y4, LeO (scarfjointref05_Components.l1 k y0 y1 y2 y3 y4) (scarfjointref05_Components.l1 (k + 1) y0 y1 y2 y3 y4)) ∧ (∀ y0 y1 y2 y3 y4, LeO (scarfjointref05_Components.l2 k y0 y1 y2 y3 y4) (scarfjointref05_Components.l2 (k + 1) y0 y1 y2 y3 y4)) ∧ (∀ y0 y1 y2 y3 y4 y5 y6, LeO (scarfjointref05_Components.l3 k y0 y1 y2 y3 y4 y5 y6) (scarfjointref05_Components.l3 (k + 1) y0 y1 y2 y3 y4 y5 y6)) ∧ (∀ y0 y1 y2 y3 y4 y5 y6 y7, LeO (scarfjointref05_Components.l4 k y0 y1 y2 y3 y4 y5 y6 y7) (scarfjointref05_Components.l4 (k + 1) y0 y1 y2 y3 y4 y5 y6 y7))
 | 0 => ⟨fun _ _ _ _ r h => by simp [scarfjointref05_Components.l0] at h, fun _ _ _ _ _ r h => by simp [scarfjointref05_Components.l1] at h, fun _ _ _ _ _ r h => by simp [scarfjointref05_Components.l2] at h, fun _ _ _ _ _ _ _ r h => by simp [scarfjointref05_Components.l3] at h, fun _ _ _ _ _ _ _ _ r h => by simp [scarfjointref05_Components.l4] at h⟩
 | k + 1 => by
  obtain ⟨ih0, ih1, ih2, ih3, ih4⟩ := scarfjointref05_Components.mono_l k
  refine ⟨?_, ?_, ?_, ?_, ?_⟩
  ·intro y0 y1 y2 y3
   unfold scarfjointref05_Components.l0
   repeat' first
   | (with_reducible exact ih0 _ _ _ _)
   | (with_reducible exact ih1 _ _ _ _ _)
   | (with_reducible exact ih2 _ _ _ _ _)
   | (with_reducible exact ih3 _ _ _ _ _ _ _)
   | (with_reducible exact ih4 _ _ _ _ _ _ _ _)
   | (with_reducible exact scarfjointref05_Numbers.mono _ _ _)
   | (with_reducible exact scarfjointref05_Valid.mono _ _ _)
   | (with_reducible exact LeO.refl _)
   | (with_reducible exact LeO.none _)
   | (with_reducible refine LeO.ite ?_ ?_)
   | (with_reducible refine LeO.bind ?_ (fun _ => ?_))
   | exact ih0 _ _ _ _
   | exact ih1 _ _ _ _ _
   | exact ih2 _ _ _ _ _
   | exact ih3 _ _ _ _ _ _ _
   | exact ih4 _ _ _ _ _ _ _ _
   | exact scarfjointref05_Numbers.mono _ _ _
   | exact scarfjointref05_Valid.mono _ _ _
   | exact LeO.none _
   | refine LeO.ite ?_ ?_
   | refine LeO.bind ?_ (fun _ => ?_)
  ·intro y0 y1 y2 y3 y4
   unfold scarfjointref05_Components.l1
   repeat' first
   | (with_reducible exact ih0 _ _ _ _)
   | (with_reducible exact ih1 _ _ _ _ _)
   | (with_reducible exact ih2 _ _ _ _ _)
   | (with_reducible exact ih3 _ _ _ _ _ _ _)
   | (with_reducible exact ih4 _ _ _ _ _ _ _ _)
   | (with_reducible exact scarfjointref05_Numbers.mono _ _ _)
   | (with_reducible exact scarfjointref05_Valid.mono _ _ _)
   | (with_reducible exact LeO.refl _)
   | (with_reducible exact LeO.none _)
   | (with_reducible refine LeO.ite ?_ ?_)
   | (with_reducible refine LeO.bind ?_ (fun _ => ?_))
   | exact ih0 _ _ _ _
   | exact ih1 _ _ _ _ _
   | exact ih2 _ _ _ _ _
   | exact ih3 _ _ _ _ _ _ _
   | exact ih4 _ _ _ _ _ _ _ _
   | exact scarfjointref05_Numbers.mono _ _ _
   | exact scarfjointref05_Valid.mono _ _ _
   | exact LeO.none _
   | refine LeO.ite ?_ ?_
   | refine LeO.bind ?_ (fun _ => ?_)
  ·intro y0 y1 y2 y3 y4
   unfold scarfjointref05_Components.l2
   repeat' first
   | (with_reducible exact ih0 _ _ _ _)
   | (with_reducible exact ih1 _ _ _ _ _)
   | (with_reducible exact ih2 _ _ _ _ _)
   | (with_reducible exact ih3 _ _ _ _ _ _ _)
   | (with_reducible exact ih4 _ _ _ _ _ _ _ _)
   | (with_reducible exact scarfjointref05_Numbers.mono _ _ _)
   | (with_reducible exact scarfjointref05_Valid.mono _ _ _)
   | (with_reducible exact LeO.refl _)
   | (with_reducible exact LeO.none _)
   | (with_reducible refine LeO.ite ?_ ?_)
   | (with_reducible refine LeO.bind ?_ (fun _ => ?_))
   | exact ih0 _ _ _ _
   | exact ih1 _ _ _ _ _
   | exact ih2 _ _ _ _ _
   | exact ih3 _ _ _ _ _ _ _
   | exact ih4 _ _ _ _ _ _ _ _
   | exact scarfjointref05_Numbers.mono _ _ _
   | exact scarfjointref05_Valid.mono _ _ _
   | exact LeO.none _
   | refine LeO.ite ?_ ?_
   | refine LeO.bind ?_ (fun _ => ?_)
  ·intro y0 y1 y2 y3 y4 y5 y6
   unfold scarfjointref05_Components.l3
   repeat' first
   | (with_reducible exact ih0 _ _ _ _)
   | (with_reducible exact ih1 _ _ _ _ _)
   | (with_reducible exact ih2 _ _ _ _ _)
   | (with_reducible exact ih3 _ _ _ _ _ _ _)
   | (with_reducible exact ih4 _ _ _ _ _ _ _ _)
   | (with_reducible exact scarfjointref05_Numbers.mono _ _ _)
   | (with_reducible exact scarfjointref05_Valid.mono _ _ _)
   | (with_reducible exact LeO.refl _)
   | (with_reducible exact LeO.none _)
   | (with_reducible refine LeO.ite ?_ ?_)
   | (with_reducible refine LeO.bind ?_ (fun _ => ?_))
   | exact ih0 _ _ _ _
   | exact ih1 _ _ _ _ _
   | exact ih2 _ _ _ _ _
   | exact ih3 _ _ _ _ _ _ _
   | exact ih4 _ _ _ _ _ _ _ _
   | exact scarfjointref05_Numbers.mono _ _ _
   | exact scarfjointref05_Valid.mono _ _ _
   | exact LeO.none _
   | refine LeO.ite ?_ ?_
   | refine LeO.bind ?_ (fun _ => ?_)
  ·intro y0 y1 y2 y3 y4 y5 y6 y7
   unfold scarfjointref05_Components.l4
   repeat' first
   | (with_reducible exact ih0 _ _ _ _)
   | (with_reducible exact ih1 _ _ _ _ _)
   | (with_reducible exact ih2 _ _ _ _ _)
   | (with_reducible exact ih3 _ _ _ _ _ _ _)
   | (with_reducible exact ih4 _ _ _ _ _ _ _ _)
   | (with_reducible exact scarfjointref05_Numbers.mono _ _ _)
   | (with_reducible exact scarfjointref05_Valid.mono _ _ _)
   | (with_reducible exact LeO.refl _)
   | (with_reducible exact LeO.none _)
   | (with_reducible refine LeO.ite ?_ ?_)
   | (with_reducible refine LeO.bind ?_ (fun _ => ?_))
   | exact ih0 _ _ _ _
   | exact ih1 _ _ _ _ _
   | exact ih2 _ _ _ _ _
   | exact ih3 _ _ _ _ _ _ _
   | exact ih4 _ _ _ _ _ _ _ _
   | exact scarfjointref05_Numbers.mono _ _ _
   | exact scarfjointref05_Valid.mono _ _ _
   | exact LeO.none _
   | refine LeO.ite ?_ ?_
   | refine LeO.bind ?_ (fun _ => ?_)
theorem scarfjointref05_Components.mono : ∀ a0 a1 k, LeO (scarfjointref05_Components.f k a0 a1) (scarfjointref05_Components.f (k + 1) a0 a1) := by
 intro a0 a1 k
 obtain ⟨ih0, ih1, ih2, ih3, ih4⟩ := scarfjointref05_Components.mono_l k
 unfold scarfjointref05_Components.f
 repeat' first
   | (with_reducible exact ih0 _ _ _ _)
   | (with_reducible exact ih1 _ _ _ _ _)
   | (with_reducible exact ih2 _ _ _ _ _)
   | (with_reducible exact ih3 _ _ _ _ _ _ _)
   | (with_reducible exact ih4 _ _ _ _ _ _ _ _)
   | (with_reducible exact scarfjointref05_Numbers.mono _ _ _)
   | (with_reducible exact scarfjointref05_Valid.mono _ _ _)
   | (with_reducible exact LeO.refl _)
   | (with_reducible exact LeO.none _)
   | (with_reducible refine LeO.ite ?_ ?_)
   | (with_reducible refine LeO.bind ?_ (fun _ => ?_))
   | exact ih0 _ _ _ _
   | exact ih1 _ _ _ _ _
   | exact ih2 _ _ _ _ _
   | exact ih3 _ _ _ _ _ _ _
   | exact ih4 _ _ _ _ _ _ _ _
   | exact scarfjointref05_Numbers.mono _ _ _
   | exact scarfjointref05_Valid.mono _ _ _
   | exact LeO.none _
   | refine LeO.ite ?_ ?_
   | refine LeO.bind ?_ (fun _ => ?_)
set_option maxHeartbeats 8000000 in
set_option maxRecDepth 100000 in
theorem scarfjointref05_Components.calls (k : Nat) (A0_0 : Option Addr) (c0_0 : Nat) (l0_0 : List Int) (A0_1 : Option Addr) (c0_1 : Nat) (l0_1 : List (S38)) (r1 : List (S64)) (r2 : Int) (w : World) (hr0_0 : Kd.C (Kd.int .i64) w A0_0 l0_0.length l0_0) (hc0_0 : l0_0.length ≤ c0_0) (hr0_1 : Kd.C k38 w A0_1 l0_1.length l0_1) (hc0_1 : l0_1.length ≤ c0_1) (h : scarfjointref05_Components.f k l0_0 l0_1 = some (r1, r2)) :
  Calls Try.prog 21 #[.agg #[.slice A0_0 l0_0.length c0_0, .slice A0_1 l0_1.length c0_1]] w fun e w' => ∃ v0_ : Value, e = .returned (.tuple #[v0_, .int .i64 r2]) ∧ Kd.S k64 64 w' w.heap.size (fun _ => True) v0_ r1 ∧ Below w.heap.size w w' := by
 have hu25 := Try.underlying25
 have hu64 := Try.underlying64
 have HR0_0 := Aside0.mk hr0_0
 have HC0_0 := Aside0.mk hc0_0
 clear hr0_0 hc0_0
 have HR0_1 := Aside0.mk hr0_1
 have HC0_1 := Aside0.mk hc0_1
 clear hr0_1 hc0_1
 have HB := Aside0.mk (Below.refl w.heap.size w)
 have H : ((scarfjointref05_Valid.f k l0_0 l0_1).bind fun t102 => (if t102 = 0 then ((scarfjointref05_Numbers.f k 0 (l0_0.length : Int)).bind fun t103 => (scarfjointref05_Components.l0 k t103 0 l0_0 l0_1)) else (some (([] : List (S64)), t102)))) = some (r1, r2) := h
 clear h
 replace H := Option.bind_eq_some_iff.mp H
 obtain ⟨t102, A20, H⟩ := H
 replace H : (if t102 = 0 then ((scarfjointref05_Numbers.f k 0 (l0_0.length : Int)).bind fun t103 => (scarfjointref05_Components.l0 k t103 0 l0_0 l0_1)) else (some (([] : List (S64)), t102))) = some (r1, r2) := H
 have A2 := Aside0.mk A20
 clear A20
 by_cases c3 : t102 = 0
 ·rw [if_pos c3] at H
  have c3b0 : (t102 == 0) = true := beq_iff_eq.mpr c3
  have c3b1 : (t102 != 0) = false := bne_eq_false_iff_eq.mpr c3
  clear c3
  replace H := Option.bind_eq_some_iff.mp H
  obtain ⟨t103, A40, H⟩ := H
  replace H : (scarfjointref05_Components.l0 k t103 0 l0_0 l0_1) = some (r1, r2) := H
  have A4 := Aside0.mk A40
  clear A40
  have H' := Aside0.mk H
  clear H
  go_enter Try.func21, Try.ntmps21
  go_wp2_with (first | ((with_reducible refine gate_dst (N := 1) rfl ?_); refine box_event ?hg (N := 1) ?hd (cs := #[.slice A0_0 l0_0.length c0_0, .slice A0_1 l0_1.length c0_1]) (t := 25) ?hr ?_; (case hd => rfl); (case hg => rfl); (case hr => first | (go_simp; done) | (go_simp; rfl)); intro gb101 hg w5 hbox hb; have n0_ := Aside0.mk (wS hB hb); have n1_ := Aside0.mk (hbox); have n2_ := Aside0.mk ((by rw [hg]; exact (below_size hB) : w.heap.size ≤ gb101)); have n3_ := Aside0.mk ((by rw [hg]; exact (below_size hB) : w.heap.size ≤ gb101)); clear HB; have HB := n0_; have BK101 := n1_; have GW101 := n2_; have GE101 := n3_; clear n0_ n1_ n2_ n3_; clear hb hbox hg; have hcz6_0 : w5.cell? ⟨gb101, 0, none⟩ = some (.slice A0_0 l0_0.length c0_0) := (blk_cell BK101.out 0).trans rfl; have hcz6_1 : w5.cell? ⟨gb101, 1, none⟩ = some (.slice A0_1 l0_1.length c0_1) := (blk_cell BK101.out 1).trans rfl; have hfz6_0 := blk_frozen BK101.out 0; have hfz6_1 := blk_frozen BK101.out 1) | (go_at_call 27; (with_reducible refine (scarfjointref05_Valid.calls k _ _ l0_0 _ _ l0_1 t102 _ ?side1 ?side2 ?side3 ?side4 A2.out).mono ?_); (case side1 => repeat (first | exact (cB HR0_0.out HB.out) | (with_reducible refine cA ?_ _) | (with_reducible refine cN ?_ _) | (with_reducible refine cD ?_))); (case side2 => exact HC0_0.out); (case side3 => repeat (first | exact (cB HR0_1.out HB.out) | (with_reducible refine cA ?_ _) | (with_reducible refine cN ?_ _) | (with_reducible refine cD ?_))); (case side4 => exact HC0_1.out); rintro e w7 ⟨rfl, hb⟩; have n0_ := Aside0.mk (bB (g := gb101) (o := .cells #[.slice A0_0 l0_0.length c0_0, .slice A0_1 l0_1.length c0_1] 25 (0, 0)) (by (with_reducible repeat (first | refine bN ?_ _ | refine bD ?_ | refine bA ?_ _)); exact BK101.out) hb); have n1_ := Aside0.mk (wS (by repeat (first | (with_reducible first | exact HB.out | apply wA | apply wN | apply wD | refine below_set ?_ GE101.out) | exact HB.out)) hb); clear BK101; clear HB; have BK101 := n0_; have HB := n1_; clear n0_ n1_; (try clear hb); (try clear hb2); (try clear hk); (try clear hi); have hcz8_0 : w7.cell? ⟨gb101, 0, none⟩ = some (.slice A0_0 l0_0.length c0_0) := (blk_cell BK101.out 0).trans rfl; have hcz8_1 : w7.cell? ⟨gb101, 1, none⟩ = some (.slice A0_1 l0_1.length c0_1) := (blk_cell BK101.out 1).trans rfl; have hfz8_0 := blk_frozen BK101.out 0; have hfz8_1 := blk_frozen BK101.out 1) | (go_at_call 37; (with_reducible refine (scarfjointref05_Numbers.calls k 0 (l0_0.length : Int) t103 _ A4.out).mono ?_); rintro e w9 ⟨v104, rfl, ho0, hb⟩; have n0_ := Aside0.mk (Kd.R_lower ho0 (below_size (by repeat (first | (with_reducible first | exact HB.out | apply wA | apply wN | apply wD | refine below_set ?_ GE101.out) | exact HB.out)))); have n1_ := Aside0.mk (bB (g := gb101) (o := .cells #[.slice A0_0 l0_0.length c0_0, .slice A0_1 l0_1.length c0_1] 25 (0, 0)) (by (with_reducible repeat (first | refine bN ?_ _ | refine bD ?_ | refine bA ?_ _)); exact BK101.out) hb); have n2_ := Aside0.mk (wS (by repeat (first | (with_reducible first | exact HB.out | apply wA | apply wN | apply wD | refine below_set ?_ GE101.out) | exact HB.out)) hb); clear BK101; clear HB; have HO105 := n0_; have BK101 := n1_; have HB := n2_; clear n0_ n1_ n2_; (try clear hb); (try clear hb2); (try clear hk); (try clear hi); (try clear ho0)))
  repeat (go_quiet (first | ((with_reducible refine gate_dst (N := 1) rfl ?_); refine box_event ?hg (N := 1) ?hd (cs := #[.slice A0_0 l0_0.length c0_0, .slice A0_1 l0_1.length c0_1]) (t := 25) ?hr ?_; (case hd => rfl); (case hg => rfl); (case hr => first | (go_simp; done) | (go_simp; rfl)); intro gb101 hg w5 hbox hb; have n0_ := Aside0.mk (wS hB hb); have n1_ := Aside0.mk (hbox); have n2_ := Aside0.mk ((by rw [hg]; exact (below_size hB) : w.heap.size ≤ gb101)); have n3_ := Aside0.mk ((by rw [hg]; exact (below_size hB) : w.heap.size ≤ gb101)); clear HB; have HB := n0_; have BK101 := n1_; have GW101 := n2_; have GE101 := n3_; clear n0_ n1_ n2_ n3_; clear hb hbox hg; have hcz6_0 : w5.cell? ⟨gb101, 0, none⟩ = some (.slice A0_0 l0_0.length c0_0) := (blk_cell BK101.out 0).trans rfl; have hcz6_1 : w5.cell? ⟨gb101, 1, none⟩ = some (.slice A0_1 l0_1.length c0_1) := (blk_cell BK101.out 1).trans rfl; have hfz6_0 := blk_frozen BK101.out 0; have hfz6_1 := blk_frozen BK101.out 1) | (go_at_call 27; (with_reducible refine (scarfjointref05_Valid.calls k _ _ l0_0 _ _ l0_1 t102 _ ?side1 ?side2 ?side3 ?side4 A2.out).mono ?_); (case side1 => repeat (first | exact (cB HR0_0.out HB.out) | (with_reducible refine cA ?_ _) | (with_reducible refine cN ?_ _) | (with_reducible refine cD ?_))); (case side2 => exact HC0_0.out); (case side3 => repeat (first | exact (cB HR0_1.out HB.out) | (with_reducible refine cA ?_ _) | (with_reducible refine cN ?_ _) | (with_reducible refine cD ?_))); (case side4 => exact HC0_1.out); rintro e w7 ⟨rfl, hb⟩; have n0_ := Aside0.mk (bB (g := gb101) (o := .cells #[.slice A0_0 l0_0.length c0_0, .slice A0_1 l0_1.length c0_1] 25 (0, 0)) (by (with_reducible repeat (first | refine bN ?_ _ | refine bD ?_ | refine bA ?_ _)); exact BK101.out) hb); have n1_ := Aside0.mk (wS (by repeat (first | (with_reducible first | exact HB.out | apply wA | apply wN | apply wD | refine below_set ?_ GE101.out) | exact HB.out)) hb); clear BK101; clear HB; have BK101 := n0_; have HB := n1_; clear n0_ n1_; (try clear hb); (try clear hb2); (try clear hk); (try clear hi); have hcz8_0 : w7.cell? ⟨gb101, 0, none⟩ = some (.slice A0_0 l0_0.length c0_0) := (blk_cell BK101.out 0).trans rfl; have hcz8_1 : w7.cell? ⟨gb101, 1, none⟩ = some (.slice A0_1 l0_1.length c0_1) := (blk_cell BK101.out 1).trans rfl; have hfz8_0 := blk_frozen BK101.out 0; have hfz8_1 := blk_frozen BK101.out 1) | (go_at_call 37; (with_reducible refine (scarfjointref05_Numbers.calls k 0 (l0_0.length : Int) t103 _ A4.out).mono ?_); rintro e w9 ⟨v104, rfl, ho0, hb⟩; have n0_ := Aside0.mk (Kd.R_lower ho0 (below_size (by repeat (first | (with_reducible first | exact HB.out | apply wA | apply wN | apply wD | refine below_set ?_ GE101.out) | exact HB.out)))); have n1_ := Aside0.mk (bB (g := gb101) (o := .cells #[.slice A0_0 l0_0.length c0_0, .slice A0_1 l0_1.length c0_1] 25 (0, 0)) (by (with_reducible repeat (first | refine bN ?_ _ | refine bD ?_ | refine bA ?_ _)); exact BK101.out) hb); have n2_ := Aside0.mk (wS (by repeat (first | (with_reducible first | exact HB.out | apply wA | apply wN | apply wD | refine below_set ?_ GE101.out) | exact HB.out)) hb); clear BK101; clear HB; have HO105 := n0_; have BK101 := n1_; have HB := n2_; clear n0_ n1_ n2_; (try clear hb); (try clear hb2); (try clear hk); (try clear hi); (try clear ho0))); try go_wp2_with (first | ((with_reducible refine gate_dst (N := 1) rfl ?_); refine box_event ?hg (N := 1) ?hd (cs := #[.slice A0_0 l0_0.length c0_0, .slice A0_1 l0_1.length c0_1]) (t := 25) ?hr ?_; (case hd => rfl); (case hg => rfl); (case hr => first | (go_simp; done) | (go_simp; rfl)); intro gb101 hg w5 hbox hb; have n0_ := Aside0.mk (wS hB hb); have n1_ := Aside0.mk (hbox); have n2_ := Aside0.mk ((by rw [hg]; exact (below_size hB) : w.heap.size ≤ gb101)); have n3_ := Aside0.mk ((by rw [hg]; exact (below_size hB) : w.heap.size ≤ gb101)); clear HB; have HB := n0_; have BK101 := n1_; have GW101 := n2_; have GE101 := n3_; clear n0_ n1_ n2_ n3_; clear hb hbox hg; have hcz6_0 : w5.cell? ⟨gb101, 0, none⟩ = some (.slice A0_0 l0_0.length c0_0) := (blk_cell BK101.out 0).trans rfl; have hcz6_1 : w5.cell? ⟨gb101, 1, none⟩ = some (.slice A0_1 l0_1.length c0_1) := (blk_cell BK101.out 1).trans rfl; have hfz6_0 := blk_frozen BK101.out 0; have hfz6_1 := blk_frozen BK101.out 1) | (go_at_call 27; (with_reducible refine (scarfjointref05_Valid.calls k _ _ l0_0 _ _ l0_1 t102 _ ?side1 ?side2 ?side3 ?side4 A2.out).mono ?_); (case side1 => repeat (first | exact (cB HR0_0.out HB.out) | (with_reducible refine cA ?_ _) | (with_reducible refine cN ?_ _) | (with_reducible refine cD ?_))); (case side2 => exact HC0_0.out); (case side3 => repeat (first | exact (cB HR0_1.out HB.out) | (with_reducible refine cA ?_ _) | (with_reducible refine cN ?_ _) | (with_reducible refine cD ?_))); (case side4 => exact HC0_1.out); rintro e w7 ⟨rfl, hb⟩; have n0_ := Aside0.mk (bB (g := gb101) (o := .cells #[.slice A0_0 l0_0.length c0_0, .slice A0_1 l0_1.length c0_1] 25 (0, 0)) (by (with_reducible repeat (first | refine bN ?_ _ | refine bD ?_ | refine bA ?_ _)); exact BK101.out) hb); have n1_ := Aside0.mk (wS (by repeat (first | (with_reducible first | exact HB.out | apply wA | apply wN | apply wD | refine below_set ?_ GE101.out) | exact HB.out)) hb); clear BK101; clear HB; have BK101 := n0_; have HB := n1_; clear n0_ n1_; (try clear hb); (try clear hb2); (try clear hk); (try clear hi); have hcz8_0 : w7.cell? ⟨gb101, 0, none⟩ = some (.slice A0_0 l0_0.length c0_0) := (blk_cell BK101.out 0).trans rfl; have hcz8_1 : w7.cell? ⟨gb101, 1, none⟩ = some (.slice A0_1 l0_1.length c0_1) := (blk_cell BK101.out 1).trans rfl; have hfz8_0 := blk_frozen BK101.out 0; have hfz8_1 := blk_frozen BK101.out 1) | (go_at_call 37; (with_reducible refine (scarfjointref05_Numbers.calls k 0 (l0_0.length : Int) t103 _ A4.out).mono ?_); rintro e w9 ⟨v104, rfl, ho0, hb⟩; have n0_ := Aside0.mk (Kd.R_lower ho0 (below_size (by repeat (first | (with_reducible first | exact HB.out | apply wA | apply wN | apply wD | refine below_set ?_ GE101.out) | exact HB.out)))); have n1_ := Aside0.mk (bB (g := gb101) (o := .cells #[.slice A0_0 l0_0.length c0_0, .slice A0_1 l0_1.length c0_1] 25 (0, 0)) (by (with_reducible repeat (first | refine bN ?_ _ | refine bD ?_ | refine bA ?_ _)); exact BK101.out) hb); have n2_ := Aside0.mk (wS (by repeat (first | (with_reducible first | exact HB.out | apply wA | apply wN | apply wD | refine below_set ?_ GE101.out) | exact HB.out)) hb); clear BK101; clear HB; have HO105 := n0_; have BK101 := n1_; have HB := n2_; clear n0_ n1_ n2_; (try clear hb); (try clear hb2); (try clear hk); (try clear hi); (try clear ho0))))
  go_loopg [6] k (fun kq v6 w' => ∃ (x5_1 : List Int) (x6_1 : Int), v6 = .int .i64 x6_1 ∧ Aside0 (scarfjointref05_Components.l0 kq x5_1 x6_1 l0_0 l0_1 = some (r1, r2)) ∧ Aside0 (kq ≤ k) ∧ Aside0 (Kd.R (Kd.int .i64) 3 w' w.heap.size (fun _ => True) v104 x5_1) ∧ Aside0 (w'.heap[gb101]? = some (.cells #[(.slice A0_0 l0_0.length c0_0), (.slice A0_1 l0_1.length c0_1)] 25 (0, 0))) ∧ Aside0 (Below w.heap.size w w'))
  case atStart => exact ⟨(t103), (0), rS, H', ⟨Nat.le_refl _⟩, ⟨by (with_reducible repeat (first | apply rA | apply rN | apply rD)); exact HO105.out⟩, ⟨by (with_reducible repeat (first | refine bN ?_ _ | refine bD ?_ | refine bA ?_ _)); exact BK101.out⟩, ⟨by repeat (first | (with_reducible first | exact HB.out | apply wA | apply wN | apply wD | refine below_set ?_ GE101.out) | exact HB.out)⟩⟩
  case round =>
   clear H'
   try clear c2
   try clear p2
   try clear c3
   try clear c3b0
   try clear c3b1
   try clear hcz6_0
   try clear hcz6_1
   try clear hcz8_0
   try clear hcz8_1
   try clear hfz6_0
   try clear hfz6_1
   try clear hfz8_0
   try clear hfz8_1
   obtain ⟨x5_1, x6_1, rfl, HA, HK1, HO_5, BK101, HB⟩ := hrel
   cases gk with
   | zero => exact absurd HA.out (by simp [scarfjointref05_Components.l0])
   | succ k1 =>
    have H := HA.out
    clear HA
    simp only [scarfjointref05_Components.l0] at H
    by_cases c10 : x6_1 < (l0_0.length : Int)
    ·rw [if_pos c10] at H
     have c10b0 : decide (x6_1 < (l0_0.length : Int)) = true := decide_eq_true c10
     clear c10
     have H' := Aside0.mk H
     clear H
     have hcz11_0 : wr.cell? ⟨gb101, 0, none⟩ = some (.slice A0_0 l0_0.length c0_0) := (blk_cell BK101.out 0).trans rfl
     have hcz11_1 : wr.cell? ⟨gb101, 1, none⟩ = some (.slice A0_1 l0_1.length c0_1) := (blk_cell BK101.out 1).trans rfl
     have hfz11_0 := blk_frozen BK101.out 0
     have hfz11_1 := blk_frozen BK101.out 1
     go_wp2
     repeat (go_quiet (fail); try go_wp2)
     go_loopg [7] k1 (fun kq v7 w' => ∃ (x5_2 : List Int) (x7_2 : Int), v7 = .int .i64 x7_2 ∧ Aside0 (scarfjointref05_Components.l1 kq x5_2 x6_1 x7_2 l0_0 l0_1 = some (r1, r2)) ∧ Aside0 (kq ≤ k1) ∧ Aside0 (Kd.R (Kd.int .i64) 3 w' w.heap.size (fun _ => True) v104 x5_2) ∧ Aside0 (w'.heap[gb101]? = some (.cells #[(.slice A0_0 l0_0.length c0_0), (.slice A0_1 l0_1.length c0_1)] 25 (0, 0))) ∧ Aside0 (Below w.heap.size w w'))
     case atStart => exact ⟨(x5_1), (0), rS, H', ⟨Nat.le_refl _⟩, ⟨by (with_reducible repeat (first | apply rA | apply rN | apply rD)); exact HO_5.out⟩, ⟨by (with_reducible repeat (first | refine bN ?_ _ | refine bD ?_ | refine bA ?_ _)); exact BK101.out⟩, ⟨by repeat (first | (with_reducible first | exact HB.out | apply wA | apply wN | apply wD | refine below_set ?_ GE101.out) | exact HB.out)⟩⟩
     case round =>
      clear H'
      try clear c1
      try clear c2
      try clear p2
      try clear c3
      try clear c3b0
      try clear c3b1
      try clear c10
      try clear c10b0
      try clear hcz11_0
      try clear hcz11_1
      try clear hcz6_0
      try clear hcz6_1
      try clear hcz8_0
      try clear hcz8_1
      try clear hfz11_0
      try clear hfz11_1
      try clear hfz6_0
      try clear hfz6_1
      try clear hfz8_0
      try clear hfz8_1
      try clear p2
      obtain ⟨x5_2, x7_2, rfl, HA, HK2, HO_5, BK101, HB⟩ := hrel
      cases gk with
      | zero => exact absurd HA.out (by simp [scarfjointref05_Components.l1])
      | succ k2 =>
       have H := HA.out
       clear HA
       simp only [scarfjointref05_Components.l1] at H
       by_cases c12 : x7_2 < (l0_1.length : Int)
       ·rw [if_pos c12] at H
        have c12b0 : decide (x7_2 < (l0_1.length : Int)) = true := decide_eq_true c12
        clear c12
        by_cases c13 : 0 ≤ x7_2
        ·rw [if_pos c13] at H
         have c13b0 : decide (0 ≤ x7_2) = true := decide_eq_true c13
         clear c13
         by_cases c14 : 0 ≤ ((rd_T38 l0_1 x7_2).f1)
         ·rw [if_pos c14] at H
          have c14b0 : decide (0 ≤ ((rd_T38 l0_1 x7_2).f1)) = true := decide_eq_true c14
          clear c14
          by_cases c15 : ((rd_T38 l0_1 x7_2).f1) < (x5_2.length : Int)
          ·rw [if_pos c15] at H
           have c15b0 : decide (((rd_T38 l0_1 x7_2).f1) < (x5_2.length : Int)) = true := decide_eq_true c15
           clear c15
           by_cases c16 : 0 ≤ ((rd_T38 l0_1 x7_2).f2)
           ·rw [if_pos c16] at H
            have c16b0 : decide (0 ≤ ((rd_T38 l0_1 x7_2).f2)) = true := decide_eq_true c16
            clear c16
            by_cases c17 : ((rd_T38 l0_1 x7_2).f2) < (x5_2.length : Int)
            ·rw [if_pos c17] at H
             have c17b0 : decide (((rd_T38 l0_1 x7_2).f2) < (x5_2.length : Int)) = true := decide_eq_true c17
             clear c17
             obtain ⟨ji18, hji18⟩ : ∃ j_ : Int, (mn (rd x5_2 ((rd_T38 l0_1 x7_2).f1)) (rd x5_2 ((rd_T38 l0_1 x7_2).f2))) = j_ := ⟨_, rfl⟩
             replace H : (scarfjointref05_Components.l1 k2 ((x5_2.set (((rd_T38 l0_1 x7_2).f1) : Int).toNat (ji18)).set (((rd_T38 l0_1 x7_2).f2) : Int).toNat (ji18)) x6_1 (wrap64 (x7_2 + 1)) l0_0 l0_1) = some (r1, r2) := by first | (rw [hji18] at H; exact H) | (simp only [hji18] at H ⊢; exact H)
             have hji18_ : (if (rd x5_2 ((rd_T38 l0_1 x7_2).f2)) < (rd x5_2 ((rd_T38 l0_1 x7_2).f1)) then (rd x5_2 ((rd_T38 l0_1 x7_2).f2)) else (rd x5_2 ((rd_T38 l0_1 x7_2).f1))) = ji18 := hji18
             obtain ⟨y110, hy110⟩ : ∃ y_ : List Int, y_ = (x5_2.set (((rd_T38 l0_1 x7_2).f1) : Int).toNat (ji18)) := ⟨_, rfl⟩
             replace H : (scarfjointref05_Components.l1 k2 (y110.set (((rd_T38 l0_1 x7_2).f2) : Int).toNat (ji18)) x6_1 (wrap64 (x7_2 + 1)) l0_0 l0_1) = some (r1, r2) := by first | (rw [hy110]; with_reducible exact H) | (have H2_ := (Option.bind_some _ _).symm.trans H; rw [hy110]; with_reducible exact H2_) | (have H2_ := (Option.bind_some _ _).symm.trans H; with_reducible exact H2_) | with_reducible exact H | (rw [hy110]; exact H) | exact H
             have Ny110 := Aside0.mk hy110
             clear hy110
             obtain ⟨y111, hy111⟩ : ∃ y_ : List Int, y_ = (y110.set (((rd_T38 l0_1 x7_2).f2) : Int).toNat (ji18)) := ⟨_, rfl⟩
             replace H : (scarfjointref05_Components.l1 k2 y111 x6_1 (wrap64 (x7_2 + 1)) l0_0 l0_1) = some (r1, r2) := by first | (rw [hy111]; with_reducible exact H) | (have H2_ := (Option.bind_some _ _).symm.trans H; rw [hy111]; with_reducible exact H2_) | (have H2_ := (Option.bind_some _ _).symm.trans H; with_reducible exact H2_) | with_reducible exact H | (rw [hy111]; exact H) | exact H
             have Ny111 := Aside0.mk hy111
             clear hy111
             have H' := Aside0.mk H
             clear H
             have hcz21_0 : wr.cell? ⟨gb101, 0, none⟩ = some (.slice A0_0 l0_0.length c0_0) := (blk_cell BK101.out 0).trans rfl
             have hcz21_1 : wr.cell? ⟨gb101, 1, none⟩ = some (.slice A0_1 l0_1.length c0_1) := (blk_cell BK101.out 1).trans rfl
             have hfz21_0 := blk_frozen BK101.out 0
             have hfz21_1 := blk_frozen BK101.out 1
             have p106 : 0 ≤ (x7_2 : Int) := oT
             have q106 : x7_2 < (l0_1.length : Int) := oT
             obtain ⟨ad106, e106, hx106_0, hx106_1, hx106_2⟩ := at_T38 HR0_1.out x7_2 p106 q106
             cases e106
             replace hx106_0 := (HB.out.cell (World.block_lt_of_cell? w _ hx106_0)).trans hx106_0
             replace hx106_1 := (HB.out.cell (World.block_lt_of_cell? w _ hx106_1)).trans hx106_1
             replace hx106_2 := (HB.out.cell (World.block_lt_of_cell? w _ hx106_2)).trans hx106_2
             replace p106 := eq_true p106
             replace q106 := eq_true q106
             have p107 : 0 ≤ (x7_2 : Int) := oT
             have q107 : x7_2 < (l0_1.length : Int) := oT
             obtain ⟨ad107, e107, hx107_0, hx107_1, hx107_2⟩ := at_T38 HR0_1.out x7_2 p107 q107
             obtain rfl : ad106 = ad107 := (by injection e107)
             replace hx107_0 := (HB.out.cell (World.block_lt_of_cell? w _ hx107_0)).trans hx107_0
             replace hx107_1 := (HB.out.cell (World.block_lt_of_cell? w _ hx107_1)).trans hx107_1
             replace hx107_2 := (HB.out.cell (World.block_lt_of_cell? w _ hx107_2)).trans hx107_2
             replace p107 := eq_true p107
             replace q107 := eq_true q107
             obtain ⟨Ao22, co22, eo22⟩ := Kd.R_slice HO_5.out
             subst eo22
             have p108 : 0 ≤ (((rd_T38 l0_1 x7_2).f1) : Int) := oT
             have q108 : ((rd_T38 l0_1 x7_2).f1) < (x5_2.length : Int) := oT
             obtain ⟨ad108, e108, hx108_0⟩ := Kd.at_int (Kd.R_reads' HO_5.out).2.2 ((rd_T38 l0_1 x7_2).f1) p108 q108
             cases e108
             replace p108 := eq_true p108
             replace q108 := eq_true q108
             have p109 : 0 ≤ (((rd_T38 l0_1 x7_2).f2) : Int) := oT
             have q109 : ((rd_T38 l0_1 x7_2).f2) < (x5_2.length : Int) := oT
             obtain ⟨ad109, e109, hx109_0⟩ := Kd.at_int (Kd.R_reads' HO_5.out).2.2 ((rd_T38 l0_1 x7_2).f2) p109 q109
             obtain rfl : ad108 = ad109 := (by injection e109)
             replace p109 := eq_true p109
             replace q109 := eq_true q109
             have p19 : 0 ≤ (((rd_T38 l0_1 x7_2).f1) : Int) := oT
             have q19 : (((rd_T38 l0_1 x7_2).f1) : Int) < ((x5_2.length : Int) : Int) := oT
             obtain ⟨go19, co19, eo19, gb19, gl19, cl19, HG19⟩ := Kd.R_form HO_5.out (by omega)
             (first | cases eo19 | (injection eo19 with ea_ en_ ec_; (first | subst ea_ | (injection ea_ with ea_; subst ea_)); subst ec_; clear en_))
             have GB19 := Aside0.mk gb19
             have GG19 := Aside0.mk HG19
             clear gb19 gl19 HG19
             (first | simp only [add_plain] at hx108_0 | skip)
             (first | simp only [add_plain] at hx109_0 | skip)
             replace p19 := eq_true p19
             replace q19 := eq_true q19
             go_wp2_with fail
             go_quiet (fail)
             go_wp2_with fail
             go_quiet (fail)
             simp only [World.drewN_drewN]
             generalize hq_ : World.drewN wr _ = wq
             have n0_ := Aside0.mk (Kd.R_at hq_ HO_5.out)
             have n1_ := Aside0.mk (bT hq_ BK101.out)
             have n2_ := Aside0.mk (below_at hq_ HB.out)
             clear hq_ HO_5 BK101 HB
             have HO_5 := n0_
             have BK101 := n1_
             have HB := n2_
             clear n0_ n1_ n2_
             obtain ⟨hx19_0, hf19_0⟩ := Kd.R_celln 0 HO_5.out (((rd_T38 l0_1 x7_2).f1) : Int) (of_eq_true p19) (of_eq_true q19)
             have HP23 := Kd.R_putg HO_5.out (((rd_T38 l0_1 x7_2).f1) : Int) ji18
             obtain ⟨hx2_, hf2_⟩ := Kd.R_celln 0 HP23.1 (((rd_T38 l0_1 x7_2).f2) : Int) (of_eq_true p109) (of_eq_true q109)
             have HP2_ := Kd.R_putg HP23.1 (((rd_T38 l0_1 x7_2).f2) : Int) ji18
             have n0_ := Aside0.mk HP2_.1
             rw [← Ny110.out, ← Ny111.out] at n0_
             have n1_ := Aside0.mk (bG (bG BK101.out HP23.2 (Kd.R_ne HO_5.out BK101.out (by decide))) HP2_.2 (Kd.R_ne HO_5.out BK101.out (by decide)))
             have n2_ := Aside0.mk (below_set (v := .int .i64 ji18) (j := ((((rd_T38 l0_1 x7_2).f2) : Int)).toNat) (below_set (v := .int .i64 ji18) (j := ((((rd_T38 l0_1 x7_2).f1) : Int)).toNat) HB.out GB19.out) GB19.out)
             clear HP23 HP2_ HO_5 BK101 HB
             have HO_5 := n0_
             have BK101 := n1_
             have HB := n2_
             clear n0_ n1_ n2_
             go_wp2_with fail
             go_roundg k2
             case measure => have := HK1.out; have := HK2.out; omega
             case rel => exact ⟨(y111), (wrap64 (x7_2 + 1)), rS, H', ⟨by have := HK1.out; have := HK2.out; omega⟩, ⟨by (with_reducible repeat (first | apply rA | apply rN | apply rD)); exact HO_5.out⟩, ⟨by (with_reducible repeat (first | refine bN ?_ _ | refine bD ?_ | refine bA ?_ _)); exact BK101.out⟩, ⟨by repeat (first | (with_reducible first | exact HB.out | apply wA | apply wN | apply wD | refine below_set ?_ GE101.out) | exact HB.out)⟩⟩
            ·rw [if_neg c17] at H
             exact absurd H (by simp)
           ·rw [if_neg c16] at H
            exact absurd H (by simp)
          ·rw [if_neg c15] at H
           exact absurd H (by simp)
         ·rw [if_neg c14] at H
          exact absurd H (by simp)
        ·rw [if_neg c13] at H
         exact absurd H (by simp)
       ·rw [if_neg c12] at H
        have c12b0 : decide (x7_2 < (l0_1.length : Int)) = false := decide_eq_false c12
        clear c12
        have H' := Aside0.mk H
        clear H
        have hcz27_0 : wr.cell? ⟨gb101, 0, none⟩ = some (.slice A0_0 l0_0.length c0_0) := (blk_cell BK101.out 0).trans rfl
        have hcz27_1 : wr.cell? ⟨gb101, 1, none⟩ = some (.slice A0_1 l0_1.length c0_1) := (blk_cell BK101.out 1).trans rfl
        have hfz27_0 := blk_frozen BK101.out 0
        have hfz27_1 := blk_frozen BK101.out 1
        go_wp2
        repeat (go_quiet (fail); try go_wp2)
        go_roundg k2
        case measure => have := HK1.out; have := HK2.out; omega
        case rel => exact ⟨(x5_2), (wrap64 (x6_1 + 1)), rS, H', ⟨by have := HK1.out; have := HK2.out; omega⟩, ⟨by (with_reducible repeat (first | apply rA | apply rN | apply rD)); exact HO_5.out⟩, ⟨by (with_reducible repeat (first | refine bN ?_ _ | refine bD ?_ | refine bA ?_ _)); exact BK101.out⟩, ⟨by repeat (first | (with_reducible first | exact HB.out | apply wA | apply wN | apply wD | refine below_set ?_ GE101.out) | exact HB.out)⟩⟩
    ·rw [if_neg c10] at H
     have c10b0 : decide (x6_1 < (l0_0.length : Int)) = false := decide_eq_false c10
     clear c10
     have H' := Aside0.mk H
     clear H
     have hcz28_0 : wr.cell? ⟨gb101, 0, none⟩ = some (.slice A0_0 l0_0.length c0_0) := (blk_cell BK101.out 0).trans rfl
     have hcz28_1 : wr.cell? ⟨gb101, 1, none⟩ = some (.slice A0_1 l0_1.length c0_1) := (blk_cell BK101.out 1).trans rfl
     have hfz28_0 := blk_frozen BK101.out 0
     have hfz28_1 := blk_frozen BK101.out 1
     go_wp2
     repeat (go_quiet (fail); try go_wp2)
     go_loopg [11, 12] k1 (fun kq v11 v12 w' => ∃ (x11_2 : List (S64)) (x12_2 : Int), v12 = .int .i64 x12_2 ∧ Aside0 (scarfjointref05_Components.l2 kq x5_1 x11_2 x12_2 l0_0 l0_1 = some (r1, r2)) ∧ Aside0 (kq ≤ k1) ∧ Aside0 (Kd.R (Kd.int .i64) 3 w' w.heap.size (fun _ => True) v104 x5_1) ∧ Aside0 (Kd.S k64 64 w' w.heap.size (fun k_ => some k_ ≠ (v104 : Value).ownBlock) v11 x11_2) ∧ Aside0 (w'.heap[gb101]? = some (.cells #[(.slice A0_0 l0_0.length c0_0), (.slice A0_1 l0_1.length c0_1)] 25 (0, 0))) ∧ Aside0 (Below w.heap.size w w'))
     case atStart => exact ⟨(([] : List (S64))), (0), rS, H', ⟨Nat.le_refl _⟩, ⟨by (with_reducible repeat (first | apply rA | apply rN | apply rD)); exact HO_5.out⟩, ⟨by first | exact Kd.S_nil _ _ _ _ _ | exact Kd.N_nil _ _ _ _ _ | exact Kd.V_nil _ _ _ _ _ | exact Kd.Q_nil _ _ _ _ _ | exact Kd.R_nil _ _ _ _ _⟩, ⟨by (with_reducible repeat (first | refine bN ?_ _ | refine bD ?_ | refine bA ?_ _)); exact BK101.out⟩, ⟨by repeat (first | (with_reducible first | exact HB.out | apply wA | apply wN | apply wD | refine below_set ?_ GE101.out) | exact HB.out)⟩⟩
     case round =>
      clear H'
      try clear c1
      try clear p1
      try clear q1
      try clear hx1
      try clear hf1
      try clear c2
      try clear p2
      try clear q2
      try clear hx2
      try clear hf2
      try clear c3
      try clear c3b0
      try clear c3b1
      try clear p6
      try clear c10
      try clear c10b0
      try clear c12
      try clear c12b0
      try clear c13
      try clear c13b0
      try clear c14
      try clear c14b0
      try clear c15
      try clear c15b0
      try clear c16
      try clear c16b0
      try clear c17
      try clear c17b0
      try clear p19
      try clear q19
      try clear hx19
      try clear hf19
      try clear p20
      try clear q20
      try clear hx20
      try clear hf20
      try clear c21
      try clear p21
      try clear q21
      try clear hx21
      try clear hcz11_0
      try clear hcz11_1
      try clear hcz21_0
      try clear hcz21_1
      try clear hcz27_0
      try clear hcz27_1
      try clear hcz28_0
      try clear hcz28_1
      try clear hcz6_0
      try clear hcz6_1
      try clear hcz8_0
      try clear hcz8_1
      try clear hfz11_0
      try clear hfz11_1
      try clear hfz21_0
      try clear hfz21_1
      try clear hfz27_0
      try clear hfz27_1
      try clear hfz28_0
      try clear hfz28_1
      try clear hfz6_0
      try clear hfz6_1
      try clear hfz8_0
      try clear hfz8_1
      try clear hx19_0
      try clear hx20_0
      try clear hx106_0
      try clear hx106_1
      try clear hx106_2
      try clear hx107_0
      try clear hx107_1
      try clear hx107_2
      try clear hx108_0
      try clear hx109_0
      try clear p19
      try clear p2
      try clear p20
      try clear p106
      try clear p107
      try clear p108
      try clear p109
      try clear q19
      try clear q20
      try clear q106
      try clear q107
      try clear q108
      try clear q109
      obtain ⟨x11_2, x12_2, rfl, HA, HK2, HO_5, HO_11, BK101, HB⟩ := hrel
      cases gk with
      | zero => exact absurd HA.out (by simp [scarfjointref05_Components.l2])
      | succ k2 =>
       have H := HA.out
       clear HA
       simp only [scarfjointref05_Components.l2] at H
       by_cases c29 : x12_2 < (l0_0.length : Int)
       ·rw [if_pos c29] at H
        have c29b0 : decide (x12_2 < (l0_0.length : Int)) = true := decide_eq_true c29
        clear c29
        by_cases c30 : 0 ≤ x12_2
        ·rw [if_pos c30] at H
         have c30b0 : decide (0 ≤ x12_2) = true := decide_eq_true c30
         clear c30
         by_cases c31 : x12_2 < (x5_1.length : Int)
         ·rw [if_pos c31] at H
          have c31b0 : decide (x12_2 < (x5_1.length : Int)) = true := decide_eq_true c31
          clear c31
          by_cases c32 : (rd x5_1 x12_2) = x12_2
          ·rw [if_pos c32] at H
           have c32b0 : ((rd x5_1 x12_2) == x12_2) = true := beq_iff_eq.mpr c32
           have c32b1 : ((rd x5_1 x12_2) != x12_2) = false := bne_eq_false_iff_eq.mpr c32
           clear c32
           have H' := Aside0.mk H
           clear H
           have hcz33_0 : wr.cell? ⟨gb101, 0, none⟩ = some (.slice A0_0 l0_0.length c0_0) := (blk_cell BK101.out 0).trans rfl
           have hcz33_1 : wr.cell? ⟨gb101, 1, none⟩ = some (.slice A0_1 l0_1.length c0_1) := (blk_cell BK101.out 1).trans rfl
           have hfz33_0 := blk_frozen BK101.out 0
           have hfz33_1 := blk_frozen BK101.out 1
           obtain ⟨Ao34, co34, eo34⟩ := Kd.R_slice HO_5.out
           subst eo34
           have p112 : 0 ≤ (x12_2 : Int) := oT
           have q112 : x12_2 < (x5_1.length : Int) := oT
           obtain ⟨ad112, e112, hx112_0⟩ := Kd.at_int (Kd.R_reads' HO_5.out).2.2 x12_2 p112 q112
           cases e112
           replace p112 := eq_true p112
           replace q112 := eq_true q112
           go_wp2_with (first | ((with_reducible refine gate_dst (N := 13) rfl ?_); refine box_event ?hg (N := 13) ?hd (cs := #[.slice none 0 0, .slice none 0 0]) (t := 64) ?hr ?_; (case hd => rfl); (case hg => rfl); (case hr => first | (go_simp; done) | (go_simp; rfl)); intro gb113 hg w35 hbox hb; have n0_ := Aside0.mk (rB (by (with_reducible repeat (first | apply rA | apply rN | apply rD)); exact HO_5.out) hb); have n1_ := Aside0.mk (Kd.S_below (Kd.S_elderB (by (with_reducible repeat (first | apply Kd.S_alloc | apply Kd.S_drewN | apply Kd.S_drew)); exact HO_11.out) gb113 (Nat.le_of_eq hg.symm)) hb); have n2_ := Aside0.mk (bB (g := gb101) (o := .cells #[.slice A0_0 l0_0.length c0_0, .slice A0_1 l0_1.length c0_1] 25 (0, 0)) (by (with_reducible repeat (first | refine bN ?_ _ | refine bD ?_ | refine bA ?_ _)); exact BK101.out) hb); have n3_ := Aside0.mk (wS (by repeat (first | (with_reducible first | exact HB.out | apply wA | apply wN | apply wD | refine below_set ?_ GE101.out) | exact HB.out)) hb); have n4_ := Aside0.mk (hbox); have n5_ := Aside0.mk ((by rw [hg]; exact (below_size (by repeat (first | (with_reducible first | exact HB.out | apply wA | apply wN | apply wD | refine below_set ?_ GE101.out) | exact HB.out))) : w.heap.size ≤ gb113)); have n6_ := Aside0.mk ((by rw [hg]; exact (below_size (by repeat (first | (with_reducible first | exact HB.out | apply wA | apply wN | apply wD | refine below_set ?_ GE101.out) | exact HB.out))) : w.heap.size ≤ gb113)); have n7_ := Aside0.mk ((by rw [hg]; exact Nat.ne_of_lt (blk_lt (g := gb101) (o := .cells #[.slice A0_0 l0_0.length c0_0, .slice A0_1 l0_1.length c0_1] 25 (0, 0)) (by (with_reducible repeat (first | refine bN ?_ _ | refine bD ?_ | refine bA ?_ _)); exact BK101.out)) : gb101 ≠ gb113)); have n8_ := Aside0.mk ((by rw [hg]; exact Nat.ne_of_gt (blk_lt (g := gb101) (o := .cells #[.slice A0_0 l0_0.length c0_0, .slice A0_1 l0_1.length c0_1] 25 (0, 0)) (by (with_reducible repeat (first | refine bN ?_ _ | refine bD ?_ | refine bA ?_ _)); exact BK101.out)) : gb113 ≠ gb101)); clear HO_5; clear HO_11; clear BK101; clear HB; have HO_5 := n0_; have HO_11 := n1_; have BK101 := n2_; have HB := n3_; have BK113 := n4_; have GW113 := n5_; have GE113 := n6_; have NB101_113 := n7_; have NB113_101 := n8_; clear n0_ n1_ n2_ n3_ n4_ n5_ n6_ n7_ n8_; clear hb hbox hg))
           repeat (go_quiet (first | ((with_reducible refine gate_dst (N := 13) rfl ?_); refine box_event ?hg (N := 13) ?hd (cs := #[.slice none 0 0, .slice none 0 0]) (t := 64) ?hr ?_; (case hd => rfl); (case hg => rfl); (case hr => first | (go_simp; done) | (go_simp; rfl)); intro gb113 hg w35 hbox hb; have n0_ := Aside0.mk (rB (by (with_reducible repeat (first | apply rA | apply rN | apply rD)); exact HO_5.out) hb); have n1_ := Aside0.mk (Kd.S_below (Kd.S_elderB (by (with_reducible repeat (first | apply Kd.S_alloc | apply Kd.S_drewN | apply Kd.S_drew)); exact HO_11.out) gb113 (Nat.le_of_eq hg.symm)) hb); have n2_ := Aside0.mk (bB (g := gb101) (o := .cells #[.slice A0_0 l0_0.length c0_0, .slice A0_1 l0_1.length c0_1] 25 (0, 0)) (by (with_reducible repeat (first | refine bN ?_ _ | refine bD ?_ | refine bA ?_ _)); exact BK101.out) hb); have n3_ := Aside0.mk (wS (by repeat (first | (with_reducible first | exact HB.out | apply wA | apply wN | apply wD | refine below_set ?_ GE101.out) | exact HB.out)) hb); have n4_ := Aside0.mk (hbox); have n5_ := Aside0.mk ((by rw [hg]; exact (below_size (by repeat (first | (with_reducible first | exact HB.out | apply wA | apply wN | apply wD | refine below_set ?_ GE101.out) | exact HB.out))) : w.heap.size ≤ gb113)); have n6_ := Aside0.mk ((by rw [hg]; exact (below_size (by repeat (first | (with_reducible first | exact HB.out | apply wA | apply wN | apply wD | refine below_set ?_ GE101.out) | exact HB.out))) : w.heap.size ≤ gb113)); have n7_ := Aside0.mk ((by rw [hg]; exact Nat.ne_of_lt (blk_lt (g := gb101) (o := .cells #[.slice A0_0 l0_0.length c0_0, .slice A0_1 l0_1.length c0_1] 25 (0, 0)) (by (with_reducible repeat (first | refine bN ?_ _ | refine bD ?_ | refine bA ?_ _)); exact BK101.out)) : gb101 ≠ gb113)); have n8_ := Aside0.mk ((by rw [hg]; exact Nat.ne_of_gt (blk_lt (g := gb101) (o := .cells #[.slice A0_0 l0_0.length c0_0, .slice A0_1 l0_1.length c0_1] 25 (0, 0)) (by (with_reducible repeat (first | refine bN ?_ _ | refine bD ?_ | refine bA ?_ _)); exact BK101.out)) : gb113 ≠ gb101)); clear HO_5; clear HO_11; clear BK101; clear HB; have HO_5 := n0_; have HO_11 := n1_; have BK101 := n2_; have HB := n3_; have BK113 := n4_; have GW113 := n5_; have GE113 := n6_; have NB101_113 := n7_; have NB113_101 := n8_; clear n0_ n1_ n2_ n3_ n4_ n5_ n6_ n7_ n8_; clear hb hbox hg)); try go_wp2_with (first | ((with_reducible refine gate_dst (N := 13) rfl ?_); refine box_event ?hg (N := 13) ?hd (cs := #[.slice none 0 0, .slice none 0 0]) (t := 64) ?hr ?_; (case hd => rfl); (case hg => rfl); (case hr => first | (go_simp; done) | (go_simp; rfl)); intro gb113 hg w35 hbox hb; have n0_ := Aside0.mk (rB (by (with_reducible repeat (first | apply rA | apply rN | apply rD)); exact HO_5.out) hb); have n1_ := Aside0.mk (Kd.S_below (Kd.S_elderB (by (with_reducible repeat (first | apply Kd.S_alloc | apply Kd.S_drewN | apply Kd.S_drew)); exact HO_11.out) gb113 (Nat.le_of_eq hg.symm)) hb); have n2_ := Aside0.mk (bB (g := gb101) (o := .cells #[.slice A0_0 l0_0.length c0_0, .slice A0_1 l0_1.length c0_1] 25 (0, 0)) (by (with_reducible repeat (first | refine bN ?_ _ | refine bD ?_ | refine bA ?_ _)); exact BK101.out) hb); have n3_ := Aside0.mk (wS (by repeat (first | (with_reducible first | exact HB.out | apply wA | apply wN | apply wD | refine below_set ?_ GE101.out) | exact HB.out)) hb); have n4_ := Aside0.mk (hbox); have n5_ := Aside0.mk ((by rw [hg]; exact (below_size (by repeat (first | (with_reducible first | exact HB.out | apply wA | apply wN | apply wD | refine below_set ?_ GE101.out) | exact HB.out))) : w.heap.size ≤ gb113)); have n6_ := Aside0.mk ((by rw [hg]; exact (below_size (by repeat (first | (with_reducible first | exact HB.out | apply wA | apply wN | apply wD | refine below_set ?_ GE101.out) | exact HB.out))) : w.heap.size ≤ gb113)); have n7_ := Aside0.mk ((by rw [hg]; exact Nat.ne_of_lt (blk_lt (g := gb101) (o := .cells #[.slice A0_0 l0_0.length c0_0, .slice A0_1 l0_1.length c0_1] 25 (0, 0)) (by (with_reducible repeat (first | refine bN ?_ _ | refine bD ?_ | refine bA ?_ _)); exact BK101.out)) : gb101 ≠ gb113)); have n8_ := Aside0.mk ((by rw [hg]; exact Nat.ne_of_gt (blk_lt (g := gb101) (o := .cells #[.slice A0_0 l0_0.length c0_0, .slice A0_1 l0_1.length c0_1] 25 (0, 0)) (by (with_reducible repeat (first | refine bN ?_ _ | refine bD ?_ | refine bA ?_ _)); exact BK101.out)) : gb113 ≠ gb101)); clear HO_5; clear HO_11; clear BK101; clear HB; have HO_5 := n0_; have HO_11 := n1_; have BK101 := n2_; have HB := n3_; have BK113 := n4_; have GW113 := n5_; have GE113 := n6_; have NB101_113 := n7_; have NB113_101 := n8_; clear n0_ n1_ n2_ n3_ n4_ n5_ n6_ n7_ n8_; clear hb hbox hg)))
           go_loopg [14] k2 (fun kq v14 w' => ∃ (x14_3 : Int) (x114000_3 : List Int) (u114000 : Value), v14 = .int .i64 x14_3 ∧ Aside0 (scarfjointref05_Components.l3 kq x5_1 x11_2 x12_2 x14_3 l0_0 l0_1 x114000_3 = some (r1, r2)) ∧ Aside0 (kq ≤ k2) ∧ Aside0 (Kd.R (Kd.int .i64) 3 w' w.heap.size (fun k_ => some k_ ≠ (u114000 : Value).ownBlock) (.slice (some ad112) x5_1.length co34) x5_1) ∧ Aside0 (Kd.S k64 64 w' w.heap.size (fun k_ => some k_ ≠ ((.slice (some ad112) x5_1.length co34) : Value).ownBlock ∧ some k_ ≠ (u114000 : Value).ownBlock ∧ k_ ≠ gb113) u11 x11_2) ∧ Aside0 (Kd.R (Kd.int .i64) 3 w' w.heap.size (fun k_ => some k_ ≠ ((.slice (some ad112) x5_1.length co34) : Value).ownBlock) u114000 x114000_3) ∧ Aside0 (w'.heap[gb101]? = some (.cells #[(.slice A0_0 l0_0.length c0_0), (.slice A0_1 l0_1.length c0_1)] 25 (0, 0))) ∧ Aside0 (w'.heap[gb113]? = some (.cells #[u114000, (.slice none 0 0)] 64 (0, 0))) ∧ Aside0 (Below w.heap.size w w'))
           case atStart => exact ⟨(0), (([] : List Int)), (.slice none 0 0), rS, H', ⟨Nat.le_refl _⟩, ⟨by (with_reducible repeat (first | apply rA | apply rN | apply rD)); exact Kd.R_mono HO_5.out (fun _ hk => (by simp [Value.ownBlock]))⟩, ⟨by (with_reducible repeat (first | apply Kd.S_alloc | apply Kd.S_drewN | apply Kd.S_drew)); exact Kd.S_mono HO_11.out (fun _ hk => ⟨hk.1, ⟨(by simp [Value.ownBlock]), hk.2⟩⟩)⟩, ⟨by first | exact Kd.R_nil _ _ _ _ _ | exact Kd.N_nil _ _ _ _ _ | exact Kd.V_nil _ _ _ _ _ | exact Kd.Q_nil _ _ _ _ _ | exact Kd.S_nil _ _ _ _ _⟩, ⟨by (with_reducible repeat (first | refine bN ?_ _ | refine bD ?_ | refine bA ?_ _)); exact BK101.out⟩, ⟨by (with_reducible repeat (first | refine bN ?_ _ | refine bD ?_ | refine bA ?_ _)); exact BK113.out⟩, ⟨by repeat (first | (with_reducible first | exact HB.out | apply wA | apply wN | apply wD | refine below_set ?_ GE101.out | refine below_set ?_ GE113.out) | exact HB.out)⟩⟩
           case round =>
            clear H'
            try clear c1
            try clear p1
            try clear q1
            try clear hx1
            try clear hf1
            try clear c2
            try clear p2
            try clear q2
            try clear hx2
            try clear hf2
            try clear c3
            try clear c3b0
            try clear c3b1
            try clear p6
            try clear c10
            try clear c10b0
            try clear c12
            try clear c12b0
            try clear c13
            try clear c13b0
            try clear c14
            try clear c14b0
            try clear c15
            try clear c15b0
            try clear c16
            try clear c16b0
            try clear c17
            try clear c17b0
            try clear p19
            try clear q19
            try clear hx19
            try clear hf19
            try clear p20
            try clear q20
            try clear hx20
            try clear hf20
            try clear c21
            try clear p21
            try clear q21
            try clear hx21
            try clear c29
            try clear c29b0
            try clear c30
            try clear c30b0
            try clear c31
            try clear c31b0
            try clear c32
            try clear c32b0
            try clear c32b1
            try clear hcz11_0
            try clear hcz11_1
            try clear hcz21_0
            try clear hcz21_1
            try clear hcz27_0
            try clear hcz27_1
            try clear hcz28_0
            try clear hcz28_1
            try clear hcz33_0
            try clear hcz33_1
            try clear hcz6_0
            try clear hcz6_1
            try clear hcz8_0
            try clear hcz8_1
            try clear hfz11_0
            try clear hfz11_1
            try clear hfz21_0
            try clear hfz21_1
            try clear hfz27_0
            try clear hfz27_1
            try clear hfz28_0
            try clear hfz28_1
            try clear hfz33_0
            try clear hfz33_1
            try clear hfz6_0
            try clear hfz6_1
            try clear hfz8_0
            try clear hfz8_1
            try clear hx19_0
            try clear hx20_0
            try clear hx106_0
            try clear hx106_1
            try clear hx106_2
            try clear hx107_0
            try clear hx107_1
            try clear hx107_2
            try clear hx108_0
            try clear hx109_0
            try clear hx112_0
            try clear p1
            try clear p19
            try clear p2
            try clear p20
            try clear p21
            try clear p106
            try clear p107
            try clear p108
            try clear p109
            try clear p112
            try clear p6
            try clear q1
            try clear q19
            try clear q2
            try clear q20
            try clear q21
            try clear q106
            try clear q107
            try clear q108
            try clear q109
            try clear q112
            obtain ⟨x14_3, x114000_3, u114000, rfl, HA, HK3, HO_5, HO_11, HO_114000, BK101, BK113, HB⟩ := hrel
            cases gk with
            | zero => exact absurd HA.out (by simp [scarfjointref05_Components.l3])
            | succ k3 =>
             have H := HA.out
             clear HA
             simp only [scarfjointref05_Components.l3] at H
             by_cases c36 : x14_3 < (l0_0.length : Int)
             ·rw [if_pos c36] at H
              have c36b0 : decide (x14_3 < (l0_0.length : Int)) = true := decide_eq_true c36
              clear c36
              by_cases c37 : 0 ≤ x14_3
              ·rw [if_pos c37] at H
               have c37b0 : decide (0 ≤ x14_3) = true := decide_eq_true c37
               clear c37
               by_cases c38 : x14_3 < (x5_1.length : Int)
               ·rw [if_pos c38] at H
                have c38b0 : decide (x14_3 < (x5_1.length : Int)) = true := decide_eq_true c38
                clear c38
                by_cases c39 : (rd x5_1 x14_3) = x12_2
                ·rw [if_pos c39] at H
                 have c39b0 : ((rd x5_1 x14_3) == x12_2) = true := beq_iff_eq.mpr c39
                 have c39b1 : ((rd x5_1 x14_3) != x12_2) = false := bne_eq_false_iff_eq.mpr c39
                 clear c39
                 by_cases c40 : x114000_3.length < 17592186044416
                 ·rw [if_pos c40] at H
                  have LMc40 := Aside0.mk c40
                  clear c40
                  obtain ⟨y115, hy115⟩ : ∃ y_ : List Int, y_ = (x114000_3 ++ [x14_3]) := ⟨_, rfl⟩
                  replace H : (scarfjointref05_Components.l3 k3 x5_1 x11_2 x12_2 (wrap64 (x14_3 + 1)) l0_0 l0_1 y115) = some (r1, r2) := by first | (rw [hy115]; with_reducible exact H) | (have H2_ := (Option.bind_some _ _).symm.trans H; rw [hy115]; with_reducible exact H2_) | (have H2_ := (Option.bind_some _ _).symm.trans H; with_reducible exact H2_) | with_reducible exact H | (rw [hy115]; exact H) | exact H
                  have Ny115 := Aside0.mk hy115
                  clear hy115
                  have H' := Aside0.mk H
                  clear H
                  have hnb41 := NB101_113.out
                  have hnc41 := NB113_101.out
                  have hcz42_0 : wr.cell? ⟨gb101, 0, none⟩ = some (.slice A0_0 l0_0.length c0_0) := (blk_cell BK101.out 0).trans rfl
                  have hcz42_1 : wr.cell? ⟨gb101, 1, none⟩ = some (.slice A0_1 l0_1.length c0_1) := (blk_cell BK101.out 1).trans rfl
                  have hfz42_0 := blk_frozen BK101.out 0
                  have hfz42_1 := blk_frozen BK101.out 1
                  have p114 : 0 ≤ (x14_3 : Int) := oT
                  have q114 : x14_3 < (x5_1.length : Int) := oT
                  obtain ⟨ad114, e114, hx114_0⟩ := Kd.at_int (Kd.R_reads' HO_5.out).2.2 x14_3 p114 q114
                  obtain rfl : ad112 = ad114 := (by injection e114)
                  replace p114 := eq_true p114
                  replace q114 := eq_true q114
                  have hcz43_0 : wr.cell? ⟨gb113, 0, none⟩ = some (u114000) := (blk_cell BK113.out 0).trans rfl
                  have hcz43_1 : wr.cell? ⟨gb113, 1, none⟩ = some (.slice none 0 0) := (blk_cell BK113.out 1).trans rfl
                  have hfz43_0 := blk_frozen BK113.out 0
                  have hfz43_1 := blk_frozen BK113.out 1
                  go_wp2_with (first | ((with_reducible refine gate_builtin (b := .append) (xs := #[.tmp 95, .tmp 97]) rfl ?_); at_builtin; refine Kd.R_append (Kd.int .i64) (w0 := w) w.heap.size rfl (.tmp 95) (.tmp 97) 22 3 (.int .i64 0) 8 rfl Try.underlying22 info3 rfl (by decide) (by omega) u114000 x114000_3 x14_3 [.int .i64 x14_3] (fun k_ => some k_ ≠ (.slice (some ad112) x5_1.length co34 : Value).ownBlock) (fun _ => False) rfl rfl ?aP (fun _ hk => hk.elim) ?aF ?aO ?aB ?aS ?aL ?_; (case aP => exact rfl); (case aB => exact (by repeat (first | (with_reducible first | exact HB.out | apply wA | apply wN | apply wD | refine below_set ?_ GE101.out | refine below_set ?_ GE113.out) | exact HB.out))); (case aF => exact (fun k_ hk => Kd.fresh' (Kd.R_lt (by (with_reducible repeat (first | apply rA | apply rN | apply rD)); exact HO_5.out)) k_ hk)); (case aO => exact (by (with_reducible repeat (first | apply rA | apply rN | apply rD)); exact HO_114000.out)); (case aS => exact (below_size (by repeat (first | (with_reducible first | exact HB.out | apply wA | apply wN | apply wD | refine below_set ?_ GE101.out | refine below_set ?_ GE113.out) | exact HB.out)))); (case aL => have := LMc40.out; omega); intro v116 w44 ho hb hg hat; rw [← Ny115.out] at ho; have n0_ := Aside0.mk (Kd.R_after (ok := (fun _ => True)) (by (with_reducible repeat (first | apply rA | apply rN | apply rD)); exact Kd.R_mono HO_5.out (fun _ hk => ⟨trivial, hk⟩)) hg hat); have n1_ := Aside0.mk (Kd.S_after (ok := (fun k_ => some k_ ≠ (.slice (some ad112) x5_1.length co34 : Value).ownBlock ∧ k_ ≠ gb113)) (by (with_reducible repeat (first | apply Kd.S_alloc | apply Kd.S_drewN | apply Kd.S_drew)); exact Kd.S_mono HO_11.out (fun _ hk => ⟨⟨hk.1, hk.2.2⟩, hk.2.1⟩)) hg hat); have n2_ := Aside0.mk (bG (g := gb101) (o := .cells #[.slice A0_0 l0_0.length c0_0, .slice A0_1 l0_1.length c0_1] 25 (0, 0)) (by (with_reducible repeat (first | refine bN ?_ _ | refine bD ?_ | refine bA ?_ _)); exact BK101.out) hg (Kd.R_ne HO_114000.out BK101.out (by decide))); have n3_ := Aside0.mk (bG (g := gb113) (o := .cells #[u114000, .slice none 0 0] 64 (0, 0)) (by (with_reducible repeat (first | refine bN ?_ _ | refine bD ?_ | refine bA ?_ _)); exact BK113.out) hg (Kd.R_ne HO_114000.out BK113.out (by decide))); have n4_ := Aside0.mk (hb); have n5_ := Aside0.mk (ho); clear HO_5; clear HO_11; clear BK101; clear BK113; clear HB; clear HO_114000; have HO_5 := n0_; have HO_11 := n1_; have BK101 := n2_; have BK113 := n3_; have HB := n4_; have HO117 := n5_; clear n0_ n1_ n2_ n3_ n4_ n5_; clear ho hb hg hat; obtain ⟨Ao45, co45, eo45⟩ := Kd.R_slice HO117.out; subst eo45; have hcz46_0 : w44.cell? ⟨gb113, 0, none⟩ = some (u114000) := (blk_cell BK113.out 0).trans rfl; have hcz46_1 : w44.cell? ⟨gb113, 1, none⟩ = some (.slice none 0 0) := (blk_cell BK113.out 1).trans rfl; have hfz46_0 := blk_frozen BK113.out 0; have hfz46_1 := blk_frozen BK113.out 1))
                  repeat (go_quiet (first | ((with_reducible refine gate_builtin (b := .append) (xs := #[.tmp 95, .tmp 97]) rfl ?_); at_builtin; refine Kd.R_append (Kd.int .i64) (w0 := w) w.heap.size rfl (.tmp 95) (.tmp 97) 22 3 (.int .i64 0) 8 rfl Try.underlying22 info3 rfl (by decide) (by omega) u114000 x114000_3 x14_3 [.int .i64 x14_3] (fun k_ => some k_ ≠ (.slice (some ad112) x5_1.length co34 : Value).ownBlock) (fun _ => False) rfl rfl ?aP (fun _ hk => hk.elim) ?aF ?aO ?aB ?aS ?aL ?_; (case aP => exact rfl); (case aB => exact (by repeat (first | (with_reducible first | exact HB.out | apply wA | apply wN | apply wD | refine below_set ?_ GE101.out | refine below_set ?_ GE113.out) | exact HB.out))); (case aF => exact (fun k_ hk => Kd.fresh' (Kd.R_lt (by (with_reducible repeat (first | apply rA | apply rN | apply rD)); exact HO_5.out)) k_ hk)); (case aO => exact (by (with_reducible repeat (first | apply rA | apply rN | apply rD)); exact HO_114000.out)); (case aS => exact (below_size (by repeat (first | (with_reducible first | exact HB.out | apply wA | apply wN | apply wD | refine below_set ?_ GE101.out | refine below_set ?_ GE113.out) | exact HB.out)))); (case aL => have := LMc40.out; omega); intro v116 w44 ho hb hg hat; rw [← Ny115.out] at ho; have n0_ := Aside0.mk (Kd.R_after (ok := (fun _ => True)) (by (with_reducible repeat (first | apply rA | apply rN | apply rD)); exact Kd.R_mono HO_5.out (fun _ hk => ⟨trivial, hk⟩)) hg hat); have n1_ := Aside0.mk (Kd.S_after (ok := (fun k_ => some k_ ≠ (.slice (some ad112) x5_1.length co34 : Value).ownBlock ∧ k_ ≠ gb113)) (by (with_reducible repeat (first | apply Kd.S_alloc | apply Kd.S_drewN | apply Kd.S_drew)); exact Kd.S_mono HO_11.out (fun _ hk => ⟨⟨hk.1, hk.2.2⟩, hk.2.1⟩)) hg hat); have n2_ := Aside0.mk (bG (g := gb101) (o := .cells #[.slice A0_0 l0_0.length c0_0, .slice A0_1 l0_1.length c0_1] 25 (0, 0)) (by (with_reducible repeat (first | refine bN ?_ _ | refine bD ?_ | refine bA ?_ _)); exact BK101.out) hg (Kd.R_ne HO_114000.out BK101.out (by decide))); have n3_ := Aside0.mk (bG (g := gb113) (o := .cells #[u114000, .slice none 0 0] 64 (0, 0)) (by (with_reducible repeat (first | refine bN ?_ _ | refine bD ?_ | refine bA ?_ _)); exact BK113.out) hg (Kd.R_ne HO_114000.out BK113.out (by decide))); have n4_ := Aside0.mk (hb); have n5_ := Aside0.mk (ho); clear HO_5; clear HO_11; clear BK101; clear BK113; clear HB; clear HO_114000; have HO_5 := n0_; have HO_11 := n1_; have BK101 := n2_; have BK113 := n3_; have HB := n4_; have HO117 := n5_; clear n0_ n1_ n2_ n3_ n4_ n5_; clear ho hb hg hat; obtain ⟨Ao45, co45, eo45⟩ := Kd.R_slice HO117.out; subst eo45; have hcz46_0 : w44.cell? ⟨gb113, 0, none⟩ = some (u114000) := (blk_cell BK113.out 0).trans rfl; have hcz46_1 : w44.cell? ⟨gb113, 1, none⟩ = some (.slice none 0 0) := (blk_cell BK113.out 1).trans rfl; have hfz46_0 := blk_frozen BK113.out 0; have hfz46_1 := blk_frozen BK113.out 1)); try go_wp2_with (first | ((with_reducible refine gate_builtin (b := .append) (xs := #[.tmp 95, .tmp 97]) rfl ?_); at_builtin; refine Kd.R_append (Kd.int .i64) (w0 := w) w.heap.size rfl (.tmp 95) (.tmp 97) 22 3 (.int .i64 0) 8 rfl Try.underlying22 info3 rfl (by decide) (by omega) u114000 x114000_3 x14_3 [.int .i64 x14_3] (fun k_ => some k_ ≠ (.slice (some ad112) x5_1.length co34 : Value).ownBlock) (fun _ => False) rfl rfl ?aP (fun _ hk => hk.elim) ?aF ?aO ?aB ?aS ?aL ?_; (case aP => exact rfl); (case aB => exact (by repeat (first | (with_reducible first | exact HB.out | apply wA | apply wN | apply wD | refine below_set ?_ GE101.out | refine below_set ?_ GE113.out) | exact HB.out))); (case aF => exact (fun k_ hk => Kd.fresh' (Kd.R_lt (by (with_reducible repeat (first | apply rA | apply rN | apply rD)); exact HO_5.out)) k_ hk)); (case aO => exact (by (with_reducible repeat (first | apply rA | apply rN | apply rD)); exact HO_114000.out)); (case aS => exact (below_size (by repeat (first | (with_reducible first | exact HB.out | apply wA | apply wN | apply wD | refine below_set ?_ GE101.out | refine below_set ?_ GE113.out) | exact HB.out)))); (case aL => have := LMc40.out; omega); intro v116 w44 ho hb hg hat; rw [← Ny115.out] at ho; have n0_ := Aside0.mk (Kd.R_after (ok := (fun _ => True)) (by (with_reducible repeat (first | apply rA | apply rN | apply rD)); exact Kd.R_mono HO_5.out (fun _ hk => ⟨trivial, hk⟩)) hg hat); have n1_ := Aside0.mk (Kd.S_after (ok := (fun k_ => some k_ ≠ (.slice (some ad112) x5_1.length co34 : Value).ownBlock ∧ k_ ≠ gb113)) (by (with_reducible repeat (first | apply Kd.S_alloc | apply Kd.S_drewN | apply Kd.S_drew)); exact Kd.S_mono HO_11.out (fun _ hk => ⟨⟨hk.1, hk.2.2⟩, hk.2.1⟩)) hg hat); have n2_ := Aside0.mk (bG (g := gb101) (o := .cells #[.slice A0_0 l0_0.length c0_0, .slice A0_1 l0_1.length c0_1] 25 (0, 0)) (by (with_reducible repeat (first | refine bN ?_ _ | refine bD ?_ | refine bA ?_ _)); exact BK101.out) hg (Kd.R_ne HO_114000.out BK101.out (by decide))); have n3_ := Aside0.mk (bG (g := gb113) (o := .cells #[u114000, .slice none 0 0] 64 (0, 0)) (by (with_reducible repeat (first | refine bN ?_ _ | refine bD ?_ | refine bA ?_ _)); exact BK113.out) hg (Kd.R_ne HO_114000.out BK113.out (by decide))); have n4_ := Aside0.mk (hb); have n5_ := Aside0.mk (ho); clear HO_5; clear HO_11; clear BK101; clear BK113; clear HB; clear HO_114000; have HO_5 := n0_; have HO_11 := n1_; have BK101 := n2_; have BK113 := n3_; have HB := n4_; have HO117 := n5_; clear n0_ n1_ n2_ n3_ n4_ n5_; clear ho hb hg hat; obtain ⟨Ao45, co45, eo45⟩ := Kd.R_slice HO117.out; subst eo45; have hcz46_0 : w44.cell? ⟨gb113, 0, none⟩ = some (u114000) := (blk_cell BK113.out 0).trans rfl; have hcz46_1 : w44.cell? ⟨gb113, 1, none⟩ = some (.slice none 0 0) := (blk_cell BK113.out 1).trans rfl; have hfz46_0 := blk_frozen BK113.out 0; have hfz46_1 := blk_frozen BK113.out 1)))
                  go_roundg k3
                  case measure => have := HK1.out; have := HK2.out; have := HK3.out; omega
                  case rel => exact ⟨(wrap64 (x14_3 + 1)), (y115), (.slice Ao45 y115.length co45), rS, H', ⟨by have := HK1.out; have := HK2.out; have := HK3.out; omega⟩, ⟨by (with_reducible repeat (first | apply rA | apply rN | apply rD)); exact Kd.R_mono (Kd.R_far (p := ⟨gb113, 0, none⟩) (Kd.R_types HO_5.out BK113.out (by decide)) (fun _ hk => hk.2) (.slice Ao45 y115.length co45)) (fun _ hk => hk.1.2)⟩, ⟨by (with_reducible repeat (first | apply Kd.S_alloc | apply Kd.S_drewN | apply Kd.S_drew)); exact Kd.S_mono (Kd.S_far (p := ⟨gb113, 0, none⟩) (Kd.S_mono HO_11.out (fun k_ hk => (⟨hk, hk.1.2⟩ : _ ∧ k_ ≠ gb113))) (fun _ hk => hk.2) (.slice Ao45 y115.length co45)) (fun _ hk => ⟨hk.1.1.1, ⟨hk.1.2, hk.1.1.2⟩⟩)⟩, ⟨by (with_reducible repeat (first | apply rA | apply rN | apply rD)); exact Kd.R_mono (Kd.R_far (p := ⟨gb113, 0, none⟩) (Kd.R_types HO117.out BK113.out (by decide)) (fun _ hk => hk.2) (.slice Ao45 y115.length co45)) (fun _ hk => hk.1)⟩, ⟨by (with_reducible repeat (first | refine bN ?_ _ | refine bD ?_ | refine bA ?_ _)); refine blk_far ?_ NB101_113.out _; (with_reducible repeat (first | refine bN ?_ _ | refine bD ?_ | refine bA ?_ _)); exact BK101.out⟩, ⟨by (with_reducible repeat (first | refine bN ?_ _ | refine bD ?_ | refine bA ?_ _)); refine blk_put (cs := #[u114000, .slice none 0 0]) ?_ 0 _ rfl; (with_reducible repeat (first | refine bN ?_ _ | refine bD ?_ | refine bA ?_ _)); exact BK113.out⟩, ⟨by repeat (first | (with_reducible first | exact HB.out | apply wA | apply wN | apply wD | refine below_set ?_ GE101.out | refine below_set ?_ GE113.out) | exact HB.out)⟩⟩
                 ·rw [if_neg c40] at H
                  exact absurd H (by simp)
                ·rw [if_neg c39] at H
                 have c39b0 : ((rd x5_1 x14_3) == x12_2) = false := beq_eq_false_iff_ne.mpr c39
                 have c39b1 : ((rd x5_1 x14_3) != x12_2) = true := bne_iff_ne.mpr c39
                 have H' := Aside0.mk H
                 clear H
                 have hnb47 := NB101_113.out
                 have hnc47 := NB113_101.out
                 have hcz48_0 : wr.cell? ⟨gb101, 0, none⟩ = some (.slice A0_0 l0_0.length c0_0) := (blk_cell BK101.out 0).trans rfl
                 have hcz48_1 : wr.cell? ⟨gb101, 1, none⟩ = some (.slice A0_1 l0_1.length c0_1) := (blk_cell BK101.out 1).trans rfl
                 have hfz48_0 := blk_frozen BK101.out 0
                 have hfz48_1 := blk_frozen BK101.out 1
                 have p114 : 0 ≤ (x14_3 : Int) := oT
                 have q114 : x14_3 < (x5_1.length : Int) := oT
                 obtain ⟨ad114, e114, hx114_0⟩ := Kd.at_int (Kd.R_reads' HO_5.out).2.2 x14_3 p114 q114
                 obtain rfl : ad112 = ad114 := (by injection e114)
                 replace p114 := eq_true p114
                 replace q114 := eq_true q114
                 go_wp2
                 repeat (go_quiet (fail); try go_wp2)
                 go_roundg k3
                 case measure => have := HK1.out; have := HK2.out; have := HK3.out; omega
                 case rel => exact ⟨(wrap64 (x14_3 + 1)), (x114000_3), (u114000), rS, H', ⟨by have := HK1.out; have := HK2.out; have := HK3.out; omega⟩, ⟨by (with_reducible repeat (first | apply rA | apply rN | apply rD)); exact HO_5.out⟩, ⟨by (with_reducible repeat (first | apply Kd.S_alloc | apply Kd.S_drewN | apply Kd.S_drew)); exact HO_11.out⟩, ⟨by (with_reducible repeat (first | apply rA | apply rN | apply rD)); exact HO_114000.out⟩, ⟨by (with_reducible repeat (first | refine bN ?_ _ | refine bD ?_ | refine bA ?_ _)); exact BK101.out⟩, ⟨by (with_reducible repeat (first | refine bN ?_ _ | refine bD ?_ | refine bA ?_ _)); exact BK113.out⟩, ⟨by repeat (first | (with_reducible first | exact HB.out | apply wA | apply wN | apply wD | refine below_set ?_ GE101.out | refine below_set ?_ GE113.out) | exact HB.out)⟩⟩
               ·rw [if_neg c38] at H
                exact absurd H (by simp)
              ·rw [if_neg c37] at H
               exact absurd H (by simp)
             ·rw [if_neg c36] at H
              have c36b0 : decide (x14_3 < (l0_0.length : Int)) = false := decide_eq_false c36
              clear c36
              have H' := Aside0.mk H
              clear H
              have hnb49 := NB101_113.out
              have hnc49 := NB113_101.out
              have hcz50_0 : wr.cell? ⟨gb101, 0, none⟩ = some (.slice A0_0 l0_0.length c0_0) := (blk_cell BK101.out 0).trans rfl
              have hcz50_1 : wr.cell? ⟨gb101, 1, none⟩ = some (.slice A0_1 l0_1.length c0_1) := (blk_cell BK101.out 1).trans rfl
              have hfz50_0 := blk_frozen BK101.out 0
              have hfz50_1 := blk_frozen BK101.out 1
              go_wp2
              repeat (go_quiet (fail); try go_wp2)
              go_loopg [15] k3 (fun kq v15 w' => ∃ (x15_4 : Int) (x114001_4 : List Int) (u114001 : Value), v15 = .int .i64 x15_4 ∧ Aside0 (scarfjointref05_Components.l4 kq x5_1 x11_2 x12_2 x15_4 l0_0 l0_1 x114000_3 x114001_4 = some (r1, r2)) ∧ Aside0 (kq ≤ k3) ∧ Aside0 (Kd.R (Kd.int .i64) 3 w' w.heap.size (fun k_ => some k_ ≠ (u114000 : Value).ownBlock ∧ some k_ ≠ (u114001 : Value).ownBlock) (.slice (some ad112) x5_1.length co34) x5_1) ∧ Aside0 (Kd.S k64 64 w' w.heap.size (fun k_ => some k_ ≠ ((.slice (some ad112) x5_1.length co34) : Value).ownBlock ∧ some k_ ≠ (u114000 : Value).ownBlock ∧ some k_ ≠ (u114001 : Value).ownBlock ∧ k_ ≠ gb113) u11 x11_2) ∧ Aside0 (Kd.R (Kd.int .i64) 3 w' w.heap.size (fun k_ => some k_ ≠ ((.slice (some ad112) x5_1.length co34) : Value).ownBlock ∧ some k_ ≠ (u114001 : Value).ownBlock) u114000 x114000_3) ∧ Aside0 (Kd.R (Kd.int .i64) 3 w' w.heap.size (fun k_ => some k_ ≠ ((.slice (some ad112) x5_1.length co34) : Value).ownBlock ∧ some k_ ≠ (u114000 : Value).ownBlock) u114001 x114001_4) ∧ Aside0 (w'.heap[gb101]? = some (.cells #[(.slice A0_0 l0_0.length c0_0), (.slice A0_1 l0_1.length c0_1)] 25 (0, 0))) ∧ Aside0 (w'.heap[gb113]? = some (.cells #[u114000, u114001] 64 (0, 0))) ∧ Aside0 (Below w.heap.size w w'))
              case atStart => exact ⟨(0), (([] : List Int)), (.slice none 0 0), rS, H', ⟨Nat.le_refl _⟩, ⟨by (with_reducible repeat (first | apply rA | apply rN | apply rD)); exact Kd.R_mono HO_5.out (fun _ hk => ⟨hk, (by simp [Value.ownBlock])⟩)⟩, ⟨by (with_reducible repeat (first | apply Kd.S_alloc | apply Kd.S_drewN | apply Kd.S_drew)); exact Kd.S_mono HO_11.out (fun _ hk => ⟨hk.1, ⟨hk.2.1, ⟨(by simp [Value.ownBlock]), hk.2.2⟩⟩⟩)⟩, ⟨by (with_reducible repeat (first | apply rA | apply rN | apply rD)); exact Kd.R_mono HO_114000.out (fun _ hk => ⟨hk, (by simp [Value.ownBlock])⟩)⟩, ⟨by first | exact Kd.R_nil _ _ _ _ _ | exact Kd.N_nil _ _ _ _ _ | exact Kd.V_nil _ _ _ _ _ | exact Kd.Q_nil _ _ _ _ _ | exact Kd.S_nil _ _ _ _ _⟩, ⟨by (with_reducible repeat (first | refine bN ?_ _ | refine bD ?_ | refine bA ?_ _)); exact BK101.out⟩, ⟨by (with_reducible repeat (first | refine bN ?_ _ | refine bD ?_ | refine bA ?_ _)); exact BK113.out⟩, ⟨by repeat (first | (with_reducible first | exact HB.out | apply wA | apply wN | apply wD | refine below_set ?_ GE101.out | refine below_set ?_ GE113.out) | exact HB.out)⟩⟩
              case round =>
               clear H'
               try clear c1
               try clear p1
               try clear q1
               try clear hx1
               try clear hf1
               try clear c2
               try clear p2
               try clear q2
               try clear hx2
               try clear hf2
               try clear c3
               try clear c3b0
               try clear c3b1
               try clear c4
               try clear p6
               try clear c10
               try clear c10b0
               try clear c12
               try clear c12b0
               try clear c13
               try clear c13b0
               try clear c14
               try clear c14b0
               try clear c15
               try clear c15b0
               try clear c16
               try clear c16b0
               try clear c17
               try clear c17b0
               try clear p19
               try clear q19
               try clear hx19
               try clear hf19
               try clear p20
               try clear q20
               try clear hx20
               try clear hf20
               try clear c21
               try clear p21
               try clear q21
               try clear hx21
               try clear c29
               try clear c29b0
               try clear c30
               try clear c30b0
               try clear c31
               try clear c31b0
               try clear c32
               try clear c32b0
               try clear c32b1
               try clear c36
               try clear c36b0
               try clear c37
               try clear c37b0
               try clear c38
               try clear c38b0
               try clear c39
               try clear c39b0
               try clear c39b1
               try clear c40
               try clear c41
               try clear c47
               try clear c49
               try clear hcz11_0
               try clear hcz11_1
               try clear hcz21_0
               try clear hcz21_1
               try clear hcz27_0
               try clear hcz27_1
               try clear hcz28_0
               try clear hcz28_1
               try clear hcz33_0
               try clear hcz33_1
               try clear hcz42_0
               try clear hcz42_1
               try clear hcz43_0
               try clear hcz43_1
               try clear hcz46_0
               try clear hcz46_1
               try clear hcz48_0
               try clear hcz48_1
               try clear hcz50_0
               try clear hcz50_1
               try clear hcz6_0
               try clear hcz6_1
               try clear hcz8_0
               try clear hcz8_1
               try clear hfz11_0
               try clear hfz11_1
               try clear hfz21_0
               try clear hfz21_1
               try clear hfz27_0
               try clear hfz27_1
               try clear hfz28_0
               try clear hfz28_1
               try clear hfz33_0
               try clear hfz33_1
               try clear hfz42_0
               try clear hfz42_1
               try clear hfz43_0
               try clear hfz43_1
               try clear hfz46_0
               try clear hfz46_1
               try clear hfz48_0
               try clear hfz48_1
               try clear hfz50_0
               try clear hfz50_1
               try clear hfz6_0
               try clear hfz6_1
               try clear hfz8_0
               try clear hfz8_1
               try clear hx19_0
               try clear hx20_0
               try clear hx106_0
               try clear hx106_1
               try clear hx106_2
               try clear hx107_0
               try clear hx107_1
               try clear hx107_2
               try clear hx108_0
               try clear hx109_0
               try clear hx112_0
               try clear hx114_0
               try clear p1
               try clear p19
               try clear p2
               try clear p20
               try clear p21
               try clear p106
               try clear p107
               try clear p108
               try clear p109
               try clear p112
               try clear p114
               try clear p6
               try clear q1
               try clear q19
               try clear q2
               try clear q20
               try clear q21
               try clear q106
               try clear q107
               try clear q108
               try clear q109
               try clear q112
               try clear q114
               obtain ⟨x15_4, x114001_4, u114001, rfl, HA, HK4, HO_5, HO_11, HO_114000, HO_114001, BK101, BK113, HB⟩ := hrel
               cases gk with
               | zero => exact absurd HA.out (by simp [scarfjointref05_Components.l4])
               | succ k4 =>
                have H := HA.out
                clear HA
                simp only [scarfjointref05_Components.l4] at H
                by_cases c51 : x15_4 < (l0_1.length : Int)
                ·rw [if_pos c51] at H
                 have c51b0 : decide (x15_4 < (l0_1.length : Int)) = true := decide_eq_true c51
                 clear c51
                 by_cases c52 : 0 ≤ x15_4
                 ·rw [if_pos c52] at H
                  have c52b0 : decide (0 ≤ x15_4) = true := decide_eq_true c52
                  clear c52
                  by_cases c53 : 0 ≤ ((rd_T38 l0_1 x15_4).f1)
                  ·rw [if_pos c53] at H
                   have c53b0 : decide (0 ≤ ((rd_T38 l0_1 x15_4).f1)) = true := decide_eq_true c53
                   clear c53
                   by_cases c54 : ((rd_T38 l0_1 x15_4).f1) < (x5_1.length : Int)
                   ·rw [if_pos c54] at H
                    have c54b0 : decide (((rd_T38 l0_1 x15_4).f1) < (x5_1.length : Int)) = true := decide_eq_true c54
                    clear c54
                    by_cases c55 : (rd x5_1 ((rd_T38 l0_1 x15_4).f1)) = x12_2
                    ·rw [if_pos c55] at H
                     have c55b0 : ((rd x5_1 ((rd_T38 l0_1 x15_4).f1)) == x12_2) = true := beq_iff_eq.mpr c55
                     have c55b1 : ((rd x5_1 ((rd_T38 l0_1 x15_4).f1)) != x12_2) = false := bne_eq_false_iff_eq.mpr c55
                     clear c55
                     by_cases c56 : x114001_4.length < 17592186044416
                     ·rw [if_pos c56] at H
                      have LMc56 := Aside0.mk c56
                      clear c56
                      obtain ⟨y123, hy123⟩ : ∃ y_ : List Int, y_ = (x114001_4 ++ [x15_4]) := ⟨_, rfl⟩
                      replace H : (scarfjointref05_Components.l4 k4 x5_1 x11_2 x12_2 (wrap64 (x15_4 + 1)) l0_0 l0_1 x114000_3 y123) = some (r1, r2) := by first | (rw [hy123]; with_reducible exact H) | (have H2_ := (Option.bind_some _ _).symm.trans H; rw [hy123]; with_reducible exact H2_) | (have H2_ := (Option.bind_some _ _).symm.trans H; with_reducible exact H2_) | with_reducible exact H | (rw [hy123]; exact H) | exact H
                      have Ny123 := Aside0.mk hy123
                      clear hy123
                      have H' := Aside0.mk H
                      clear H
                      have hnb57 := NB101_113.out
                      have hnc57 := NB113_101.out
                      have hcz58_0 : wr.cell? ⟨gb101, 0, none⟩ = some (.slice A0_0 l0_0.length c0_0) := (blk_cell BK101.out 0).trans rfl
                      have hcz58_1 : wr.cell? ⟨gb101, 1, none⟩ = some (.slice A0_1 l0_1.length c0_1) := (blk_cell BK101.out 1).trans rfl
                      have hfz58_0 := blk_frozen BK101.out 0
                      have hfz58_1 := blk_frozen BK101.out 1
                      have p121 : 0 ≤ (x15_4 : Int) := oT
                      have q121 : x15_4 < (l0_1.length : Int) := oT
                      obtain ⟨ad121, e121, hx121_0, hx121_1, hx121_2⟩ := at_T38 HR0_1.out x15_4 p121 q121
                      cases e121
                      replace hx121_0 := (HB.out.cell (World.block_lt_of_cell? w _ hx121_0)).trans hx121_0
                      replace hx121_1 := (HB.out.cell (World.block_lt_of_cell? w _ hx121_1)).trans hx121_1
                      replace hx121_2 := (HB.out.cell (World.block_lt_of_cell? w _ hx121_2)).trans hx121_2
                      replace p121 := eq_true p121
                      replace q121 := eq_true q121
                      have p122 : 0 ≤ (((rd_T38 l0_1 x15_4).f1) : Int) := oT
                      have q122 : ((rd_T38 l0_1 x15_4).f1) < (x5_1.length : Int) := oT
                      obtain ⟨ad122, e122, hx122_0⟩ := Kd.at_int (Kd.R_reads' HO_5.out).2.2 ((rd_T38 l0_1 x15_4).f1) p122 q122
                      obtain rfl : ad112 = ad122 := (by injection e122)
                      replace p122 := eq_true p122
                      replace q122 := eq_true q122
                      have hcz59_0 : wr.cell? ⟨gb113, 0, none⟩ = some (u114000) := (blk_cell BK113.out 0).trans rfl
                      have hcz59_1 : wr.cell? ⟨gb113, 1, none⟩ = some (u114001) := (blk_cell BK113.out 1).trans rfl
                      have hfz59_0 := blk_frozen BK113.out 0
                      have hfz59_1 := blk_frozen BK113.out 1
                      go_wp2_with (first | ((with_reducible refine gate_builtin (b := .append) (xs := #[.tmp 119, .tmp 121]) rfl ?_); at_builtin; refine Kd.R_append (Kd.int .i64) (w0 := w) w.heap.size rfl (.tmp 119) (.tmp 121) 22 3 (.int .i64 0) 8 rfl Try.underlying22 info3 rfl (by decide) (by omega) u114001 x114001_4 x15_4 [.int .i64 x15_4] (fun k_ => some k_ ≠ (.slice (some ad112) x5_1.length co34 : Value).ownBlock ∧ some k_ ≠ (u114000 : Value).ownBlock) (fun _ => False) rfl rfl ?aP (fun _ hk => hk.elim) ?aF ?aO ?aB ?aS ?aL ?_; (case aP => exact rfl); (case aB => exact (by repeat (first | (with_reducible first | exact HB.out | apply wA | apply wN | apply wD | refine below_set ?_ GE101.out | refine below_set ?_ GE113.out) | exact HB.out))); (case aF => exact (fun k_ hk => ⟨Kd.fresh' (Kd.R_lt (by (with_reducible repeat (first | apply rA | apply rN | apply rD)); exact HO_5.out)) k_ hk, Kd.fresh' (Kd.R_lt (by (with_reducible repeat (first | apply rA | apply rN | apply rD)); exact HO_114000.out)) k_ hk⟩)); (case aO => exact (by (with_reducible repeat (first | apply rA | apply rN | apply rD)); exact HO_114001.out)); (case aS => exact (below_size (by repeat (first | (with_reducible first | exact HB.out | apply wA | apply wN | apply wD | refine below_set ?_ GE101.out | refine below_set ?_ GE113.out) | exact HB.out)))); (case aL => have := LMc56.out; omega); intro v124 w60 ho hb hg hat; rw [← Ny123.out] at ho; have n0_ := Aside0.mk (Kd.R_after (ok := (fun k_ => some k_ ≠ (u114000 : Value).ownBlock)) (by (with_reducible repeat (first | apply rA | apply rN | apply rD)); exact HO_5.out) hg hat); have n1_ := Aside0.mk (Kd.S_after (ok := (fun k_ => some k_ ≠ (.slice (some ad112) x5_1.length co34 : Value).ownBlock ∧ some k_ ≠ (u114000 : Value).ownBlock ∧ k_ ≠ gb113)) (by (with_reducible repeat (first | apply Kd.S_alloc | apply Kd.S_drewN | apply Kd.S_drew)); exact Kd.S_mono HO_11.out (fun _ hk => ⟨⟨hk.1, ⟨hk.2.1, hk.2.2.2⟩⟩, hk.2.2.1⟩)) hg hat); have n2_ := Aside0.mk (Kd.R_after (ok := (fun k_ => some k_ ≠ (.slice (some ad112) x5_1.length co34 : Value).ownBlock)) (by (with_reducible repeat (first | apply rA | apply rN | apply rD)); exact HO_114000.out) hg hat); have n3_ := Aside0.mk (bG (g := gb101) (o := .cells #[.slice A0_0 l0_0.length c0_0, .slice (some ad121) l0_1.length c0_1] 25 (0, 0)) (by (with_reducible repeat (first | refine bN ?_ _ | refine bD ?_ | refine bA ?_ _)); exact BK101.out) hg (Kd.R_ne HO_114001.out BK101.out (by decide))); have n4_ := Aside0.mk (bG (g := gb113) (o := .cells #[u114000, u114001] 64 (0, 0)) (by (with_reducible repeat (first | refine bN ?_ _ | refine bD ?_ | refine bA ?_ _)); exact BK113.out) hg (Kd.R_ne HO_114001.out BK113.out (by decide))); have n5_ := Aside0.mk (hb); have n6_ := Aside0.mk (ho); clear HO_5; clear HO_11; clear HO_114000; clear BK101; clear BK113; clear HB; clear HO_114001; have HO_5 := n0_; have HO_11 := n1_; have HO_114000 := n2_; have BK101 := n3_; have BK113 := n4_; have HB := n5_; have HO125 := n6_; clear n0_ n1_ n2_ n3_ n4_ n5_ n6_; clear ho hb hg hat; obtain ⟨Ao61, co61, eo61⟩ := Kd.R_slice HO125.out; subst eo61; have hcz62_0 : w60.cell? ⟨gb113, 0, none⟩ = some (u114000) := (blk_cell BK113.out 0).trans rfl; have hcz62_1 : w60.cell? ⟨gb113, 1, none⟩ = some (u114001) := (blk_cell BK113.out 1).trans rfl; have hfz62_0 := blk_frozen BK113.out 0; have hfz62_1 := blk_frozen BK113.out 1))
                      repeat (go_quiet (first | ((with_reducible refine gate_builtin (b := .append) (xs := #[.tmp 119, .tmp 121]) rfl ?_); at_builtin; refine Kd.R_append (Kd.int .i64) (w0 := w) w.heap.size rfl (.tmp 119) (.tmp 121) 22 3 (.int .i64 0) 8 rfl Try.underlying22 info3 rfl (by decide) (by omega) u114001 x114001_4 x15_4 [.int .i64 x15_4] (fun k_ => some k_ ≠ (.slice (some ad112) x5_1.length co34 : Value).ownBlock ∧ some k_ ≠ (u114000 : Value).ownBlock) (fun _ => False) rfl rfl ?aP (fun _ hk => hk.elim) ?aF ?aO ?aB ?aS ?aL ?_; (case aP => exact rfl); (case aB => exact (by repeat (first | (with_reducible first | exact HB.out | apply wA | apply wN | apply wD | refine below_set ?_ GE101.out | refine below_set ?_ GE113.out) | exact HB.out))); (case aF => exact (fun k_ hk => ⟨Kd.fresh' (Kd.R_lt (by (with_reducible repeat (first | apply rA | apply rN | apply rD)); exact HO_5.out)) k_ hk, Kd.fresh' (Kd.R_lt (by (with_reducible repeat (first | apply rA | apply rN | apply rD)); exact HO_114000.out)) k_ hk⟩)); (case aO => exact (by (with_reducible repeat (first | apply rA | apply rN | apply rD)); exact HO_114001.out)); (case aS => exact (below_size (by repeat (first | (with_reducible first | exact HB.out | apply wA | apply wN | apply wD | refine below_set ?_ GE101.out | refine below_set ?_ GE113.out) | exact HB.out)))); (case aL => have := LMc56.out; omega); intro v124 w60 ho hb hg hat; rw [← Ny123.out] at ho; have n0_ := Aside0.mk (Kd.R_after (ok := (fun k_ => some k_ ≠ (u114000 : Value).ownBlock)) (by (with_reducible repeat (first | apply rA | apply rN | apply rD)); exact HO_5.out) hg hat); have n1_ := Aside0.mk (Kd.S_after (ok := (fun k_ => some k_ ≠ (.slice (some ad112) x5_1.length co34 : Value).ownBlock ∧ some k_ ≠ (u114000 : Value).ownBlock ∧ k_ ≠ gb113)) (by (with_reducible repeat (first | apply Kd.S_alloc | apply Kd.S_drewN | apply Kd.S_drew)); exact Kd.S_mono HO_11.out (fun _ hk => ⟨⟨hk.1, ⟨hk.2.1, hk.2.2.2⟩⟩, hk.2.2.1⟩)) hg hat); have n2_ := Aside0.mk (Kd.R_after (ok := (fun k_ => some k_ ≠ (.slice (some ad112) x5_1.length co34 : Value).ownBlock)) (by (with_reducible repeat (first | apply rA | apply rN | apply rD)); exact HO_114000.out) hg hat); have n3_ := Aside0.mk (bG (g := gb101) (o := .cells #[.slice A0_0 l0_0.length c0_0, .slice (some ad121) l0_1.length c0_1] 25 (0, 0)) (by (with_reducible repeat (first | refine bN ?_ _ | refine bD ?_ | refine bA ?_ _)); exact BK101.out) hg (Kd.R_ne HO_114001.out BK101.out (by decide))); have n4_ := Aside0.mk (bG (g := gb113) (o := .cells #[u114000, u114001] 64 (0, 0)) (by (with_reducible repeat (first | refine bN ?_ _ | refine bD ?_ | refine bA ?_ _)); exact BK113.out) hg (Kd.R_ne HO_114001.out BK113.out (by decide))); have n5_ := Aside0.mk (hb); have n6_ := Aside0.mk (ho); clear HO_5; clear HO_11; clear HO_114000; clear BK101; clear BK113; clear HB; clear HO_114001; have HO_5 := n0_; have HO_11 := n1_; have HO_114000 := n2_; have BK101 := n3_; have BK113 := n4_; have HB := n5_; have HO125 := n6_; clear n0_ n1_ n2_ n3_ n4_ n5_ n6_; clear ho hb hg hat; obtain ⟨Ao61, co61, eo61⟩ := Kd.R_slice HO125.out; subst eo61; have hcz62_0 : w60.cell? ⟨gb113, 0, none⟩ = some (u114000) := (blk_cell BK113.out 0).trans rfl; have hcz62_1 : w60.cell? ⟨gb113, 1, none⟩ = some (u114001) := (blk_cell BK113.out 1).trans rfl; have hfz62_0 := blk_frozen BK113.out 0; have hfz62_1 := blk_frozen BK113.out 1)); try go_wp2_with (first | ((with_reducible refine gate_builtin (b := .append) (xs := #[.tmp 119, .tmp 121]) rfl ?_); at_builtin; refine Kd.R_append (Kd.int .i64) (w0 := w) w.heap.size rfl (.tmp 119) (.tmp 121) 22 3 (.int .i64 0) 8 rfl Try.underlying22 info3 rfl (by decide) (by omega) u114001 x114001_4 x15_4 [.int .i64 x15_4] (fun k_ => some k_ ≠ (.slice (some ad112) x5_1.length co34 : Value).ownBlock ∧ some k_ ≠ (u114000 : Value).ownBlock) (fun _ => False) rfl rfl ?aP (fun _ hk => hk.elim) ?aF ?aO ?aB ?aS ?aL ?_; (case aP => exact rfl); (case aB => exact (by repeat (first | (with_reducible first | exact HB.out | apply wA | apply wN | apply wD | refine below_set ?_ GE101.out | refine below_set ?_ GE113.out) | exact HB.out))); (case aF => exact (fun k_ hk => ⟨Kd.fresh' (Kd.R_lt (by (with_reducible repeat (first | apply rA | apply rN | apply rD)); exact HO_5.out)) k_ hk, Kd.fresh' (Kd.R_lt (by (with_reducible repeat (first | apply rA | apply rN | apply rD)); exact HO_114000.out)) k_ hk⟩)); (case aO => exact (by (with_reducible repeat (first | apply rA | apply rN | apply rD)); exact HO_114001.out)); (case aS => exact (below_size (by repeat (first | (with_reducible first | exact HB.out | apply wA | apply wN | apply wD | refine below_set ?_ GE101.out | refine below_set ?_ GE113.out) | exact HB.out)))); (case aL => have := LMc56.out; omega); intro v124 w60 ho hb hg hat; rw [← Ny123.out] at ho; have n0_ := Aside0.mk (Kd.R_after (ok := (fun k_ => some k_ ≠ (u114000 : Value).ownBlock)) (by (with_reducible repeat (first | apply rA | apply rN | apply rD)); exact HO_5.out) hg hat); have n1_ := Aside0.mk (Kd.S_after (ok := (fun k_ => some k_ ≠ (.slice (some ad112) x5_1.length co34 : Value).ownBlock ∧ some k_ ≠ (u114000 : Value).ownBlock ∧ k_ ≠ gb113)) (by (with_reducible repeat (first | apply Kd.S_alloc | apply Kd.S_drewN | apply Kd.S_drew)); exact Kd.S_mono HO_11.out (fun _ hk => ⟨⟨hk.1, ⟨hk.2.1, hk.2.2.2⟩⟩, hk.2.2.1⟩)) hg hat); have n2_ := Aside0.mk (Kd.R_after (ok := (fun k_ => some k_ ≠ (.slice (some ad112) x5_1.length co34 : Value).ownBlock)) (by (with_reducible repeat (first | apply rA | apply rN | apply rD)); exact HO_114000.out) hg hat); have n3_ := Aside0.mk (bG (g := gb101) (o := .cells #[.slice A0_0 l0_0.length c0_0, .slice (some ad121) l0_1.length c0_1] 25 (0, 0)) (by (with_reducible repeat (first | refine bN ?_ _ | refine bD ?_ | refine bA ?_ _)); exact BK101.out) hg (Kd.R_ne HO_114001.out BK101.out (by decide))); have n4_ := Aside0.mk (bG (g := gb113) (o := .cells #[u114000, u114001] 64 (0, 0)) (by (with_reducible repeat (first | refine bN ?_ _ | refine bD ?_ | refine bA ?_ _)); exact BK113.out) hg (Kd.R_ne HO_114001.out BK113.out (by decide))); have n5_ := Aside0.mk (hb); have n6_ := Aside0.mk (ho); clear HO_5; clear HO_11; clear HO_114000; clear BK101; clear BK113; clear HB; clear HO_114001; have HO_5 := n0_; have HO_11 := n1_; have HO_114000 := n2_; have BK101 := n3_; have BK113 := n4_; have HB := n5_; have HO125 := n6_; clear n0_ n1_ n2_ n3_ n4_ n5_ n6_; clear ho hb hg hat; obtain ⟨Ao61, co61, eo61⟩ := Kd.R_slice HO125.out; subst eo61; have hcz62_0 : w60.cell? ⟨gb113, 0, none⟩ = some (u114000) := (blk_cell BK113.out 0).trans rfl; have hcz62_1 : w60.cell? ⟨gb113, 1, none⟩ = some (u114001) := (blk_cell BK113.out 1).trans rfl; have hfz62_0 := blk_frozen BK113.out 0; have hfz62_1 := blk_frozen BK113.out 1)))
                      go_roundg k4
                      case measure => have := HK1.out; have := HK2.out; have := HK3.out; have := HK4.out; omega
                      case rel => exact ⟨(wrap64 (x15_4 + 1)), (y123), (.slice Ao61 y123.length co61), rS, H', ⟨by have := HK1.out; have := HK2.out; have := HK3.out; have := HK4.out; omega⟩, ⟨by (with_reducible repeat (first | apply rA | apply rN | apply rD)); exact Kd.R_mono (Kd.R_far (p := ⟨gb113, 1, none⟩) (Kd.R_types HO_5.out BK113.out (by decide)) (fun _ hk => hk.2) (.slice Ao61 y123.length co61)) (fun _ hk => ⟨hk.1.1, hk.1.2⟩)⟩, ⟨by (with_reducible repeat (first | apply Kd.S_alloc | apply Kd.S_drewN | apply Kd.S_drew)); exact Kd.S_mono (Kd.S_far (p := ⟨gb113, 1, none⟩) (Kd.S_mono HO_11.out (fun k_ hk => (⟨hk, hk.1.2.2⟩ : _ ∧ k_ ≠ gb113))) (fun _ hk => hk.2) (.slice Ao61 y123.length co61)) (fun _ hk => ⟨hk.1.1.1, ⟨hk.1.1.2.1, ⟨hk.1.2, hk.1.1.2.2⟩⟩⟩)⟩, ⟨by (with_reducible repeat (first | apply rA | apply rN | apply rD)); exact Kd.R_mono (Kd.R_far (p := ⟨gb113, 1, none⟩) (Kd.R_types HO_114000.out BK113.out (by decide)) (fun _ hk => hk.2) (.slice Ao61 y123.length co61)) (fun _ hk => ⟨hk.1.1, hk.1.2⟩)⟩, ⟨by (with_reducible repeat (first | apply rA | apply rN | apply rD)); exact Kd.R_mono (Kd.R_far (p := ⟨gb113, 1, none⟩) (Kd.R_types HO125.out BK113.out (by decide)) (fun _ hk => hk.2) (.slice Ao61 y123.length co61)) (fun _ hk => ⟨hk.1.1, hk.1.2⟩)⟩, ⟨by (with_reducible repeat (first | refine bN ?_ _ | refine bD ?_ | refine bA ?_ _)); refine blk_far ?_ NB101_113.out _; (with_reducible repeat (first | refine bN ?_ _ | refine bD ?_ | refine bA ?_ _)); exact BK101.out⟩, ⟨by (with_reducible repeat (first | refine bN ?_ _ | refine bD ?_ | refine bA ?_ _)); refine blk_put (cs := #[u114000, u114001]) ?_ 1 _ rfl; (with_reducible repeat (first | refine bN ?_ _ | refine bD ?_ | refine bA ?_ _)); exact BK113.out⟩, ⟨by repeat (first | (with_reducible first | exact HB.out | apply wA | apply wN | apply wD | refine below_set ?_ GE101.out | refine below_set ?_ GE113.out) | exact HB.out)⟩⟩
                     ·rw [if_neg c56] at H
                      exact absurd H (by simp)
                    ·rw [if_neg c55] at H
                     have c55b0 : ((rd x5_1 ((rd_T38 l0_1 x15_4).f1)) == x12_2) = false := beq_eq_false_iff_ne.mpr c55
                     have c55b1 : ((rd x5_1 ((rd_T38 l0_1 x15_4).f1)) != x12_2) = true := bne_iff_ne.mpr c55
                     have H' := Aside0.mk H
                     clear H
                     have hnb63 := NB101_113.out
                     have hnc63 := NB113_101.out
                     have hcz64_0 : wr.cell? ⟨gb101, 0, none⟩ = some (.slice A0_0 l0_0.length c0_0) := (blk_cell BK101.out 0).trans rfl
                     have hcz64_1 : wr.cell? ⟨gb101, 1, none⟩ = some (.slice A0_1 l0_1.length c0_1) := (blk_cell BK101.out 1).trans rfl
                     have hfz64_0 := blk_frozen BK101.out 0
                     have hfz64_1 := blk_frozen BK101.out 1
                     have p121 : 0 ≤ (x15_4 : Int) := oT
                     have q121 : x15_4 < (l0_1.length : Int) := oT
                     obtain ⟨ad121, e121, hx121_0, hx121_1, hx121_2⟩ := at_T38 HR0_1.out x15_4 p121 q121
                     cases e121
                     replace hx121_0 := (HB.out.cell (World.block_lt_of_cell? w _ hx121_0)).trans hx121_0
                     replace hx121_1 := (HB.out.cell (World.block_lt_of_cell? w _ hx121_1)).trans hx121_1
                     replace hx121_2 := (HB.out.cell (World.block_lt_of_cell? w _ hx121_2)).trans hx121_2
                     replace p121 := eq_true p121
                     replace q121 := eq_true q121
                     have p122 : 0 ≤ (((rd_T38 l0_1 x15_4).f1) : Int) := oT
                     have q122 : ((rd_T38 l0_1 x15_4).f1) < (x5_1.length : Int) := oT
                     obtain ⟨ad122, e122, hx122_0⟩ := Kd.at_int (Kd.R_reads' HO_5.out).2.2 ((rd_T38 l0_1 x15_4).f1) p122 q122
                     obtain rfl : ad112 = ad122 := (by injection e122)
                     replace p122 := eq_true p122
                     replace q122 := eq_true q122
                     go_wp2
                     repeat (go_quiet (fail); try go_wp2)
                     go_roundg k4
                     case measure => have := HK1.out; have := HK2.out; have := HK3.out; have := HK4.out; omega
                     case rel => exact ⟨(wrap64 (x15_4 + 1)), (x114001_4), (u114001), rS, H', ⟨by have := HK1.out; have := HK2.out; have := HK3.out; have := HK4.out; omega⟩, ⟨by (with_reducible repeat (first | apply rA | apply rN | apply rD)); exact HO_5.out⟩, ⟨by (with_reducible repeat (first | apply Kd.S_alloc | apply Kd.S_drewN | apply Kd.S_drew)); exact HO_11.out⟩, ⟨by (with_reducible repeat (first | apply rA | apply rN | apply rD)); exact HO_114000.out⟩, ⟨by (with_reducible repeat (first | apply rA | apply rN | apply rD)); exact HO_114001.out⟩, ⟨by (with_reducible repeat (first | refine bN ?_ _ | refine bD ?_ | refine bA ?_ _)); exact BK101.out⟩, ⟨by (with_reducible repeat (first | refine bN ?_ _ | refine bD ?_ | refine bA ?_ _)); exact BK113.out⟩, ⟨by repeat (first | (with_reducible first | exact HB.out | apply wA | apply wN | apply wD | refine below_set ?_ GE101.out | refine below_set ?_ GE113.out) | exact HB.out)⟩⟩
                   ·rw [if_neg c54] at H
                    exact absurd H (by simp)
                  ·rw [if_neg c53] at H
                   exact absurd H (by simp)
                 ·rw [if_neg c52] at H
                  exact absurd H (by simp)
                ·rw [if_neg c51] at H
                 have c51b0 : decide (x15_4 < (l0_1.length : Int)) = false := decide_eq_false c51
                 clear c51
                 by_cases c65 : x11_2.length < 2932031007402
                 ·rw [if_pos c65] at H
                  have LMc65 := Aside0.mk c65
                  clear c65
                  obtain ⟨y118, hy118⟩ : ∃ y_ : List (S64), y_ = (x11_2 ++ [(⟨x114000_3, x114001_4⟩ : S64)]) := ⟨_, rfl⟩
                  replace H : (scarfjointref05_Components.l2 k4 x5_1 y118 (wrap64 (x12_2 + 1)) l0_0 l0_1) = some (r1, r2) := by first | (rw [hy118]; with_reducible exact H) | (have H2_ := (Option.bind_some _ _).symm.trans H; rw [hy118]; with_reducible exact H2_) | (have H2_ := (Option.bind_some _ _).symm.trans H; with_reducible exact H2_) | with_reducible exact H | (rw [hy118]; exact H) | exact H
                  have Ny118 := Aside0.mk hy118
                  clear hy118
                  have H' := Aside0.mk H
                  clear H
                  have hnb66 := NB101_113.out
                  have hnc66 := NB113_101.out
                  have hcz67_0 : wr.cell? ⟨gb101, 0, none⟩ = some (.slice A0_0 l0_0.length c0_0) := (blk_cell BK101.out 0).trans rfl
                  have hcz67_1 : wr.cell? ⟨gb101, 1, none⟩ = some (.slice A0_1 l0_1.length c0_1) := (blk_cell BK101.out 1).trans rfl
                  have hfz67_0 := blk_frozen BK101.out 0
                  have hfz67_1 := blk_frozen BK101.out 1
                  have hcz68_0 : wr.cell? ⟨gb113, 0, none⟩ = some (u114000) := (blk_cell BK113.out 0).trans rfl
                  have hcz68_1 : wr.cell? ⟨gb113, 1, none⟩ = some (u114001) := (blk_cell BK113.out 1).trans rfl
                  have hfz68_0 := blk_frozen BK113.out 0
                  have hfz68_1 := blk_frozen BK113.out 1
                  obtain ⟨Ao70, co70, eo70⟩ := Kd.R_slice HO_114000.out
                  subst eo70
                  obtain ⟨Ao71, co71, eo71⟩ := Kd.R_slice HO_114001.out
                  subst eo71
                  go_wp2_with (first | ((with_reducible refine gate_builtin (b := .append) (xs := #[.tmp 124, .tmp 126]) rfl ?_); at_builtin; refine Kd.S_append k64 (w0 := w) w.heap.size rfl (.tmp 124) (.tmp 126) 42 64 (.agg #[(.slice none 0 0), (.slice none 0 0)]) 48 rfl Try.underlying42 info64 rfl (by decide) (by omega) u11 x11_2 (⟨x114000_3, x114001_4⟩ : S64) [.slice Ao70 x114000_3.length co70, .slice Ao71 x114001_4.length co71] (fun k_ => some k_ ≠ (.slice (some ad112) x5_1.length co34 : Value).ownBlock ∧ k_ ≠ gb113) (fun k_ => some k_ = (.slice Ao70 x114000_3.length co70 : Value).ownBlock ∨ some k_ = (.slice Ao71 x114001_4.length co71 : Value).ownBlock) rfl rfl ?aP (fun k_ hk_ => hk_.elim (fun h_ => ((Kd.R_mono (ok' := fun k_ => ((fun k_ => some k_ ≠ (.slice (some ad112) x5_1.length co34 : Value).ownBlock ∧ k_ ≠ gb113)) k_ ∧ some k_ ≠ (u11 : Value).ownBlock) (Kd.R_types (Kd.R_apart' (HO_114000.out) (Kd.S_typed HO_11.out) (by decide)) BK113.out (by decide)) (fun k_ hk => ⟨⟨hk.1.1.1, hk.2⟩, hk.1.2⟩))).1 k_ h_.symm) (fun h_ => ((Kd.R_mono (ok' := fun k_ => ((fun k_ => some k_ ≠ (.slice (some ad112) x5_1.length co34 : Value).ownBlock ∧ k_ ≠ gb113)) k_ ∧ some k_ ≠ (u11 : Value).ownBlock) (Kd.R_types (Kd.R_apart' (HO_114001.out) (Kd.S_typed HO_11.out) (by decide)) BK113.out (by decide)) (fun k_ hk => ⟨⟨hk.1.1.1, hk.2⟩, hk.1.2⟩))).1 k_ h_.symm)) ?aF ?aO ?aB ?aS ?aL ?_; (case aP => exact k64_mkM _ _ _ (⟨x114000_3, x114001_4⟩ : S64) (Kd.R_mono (Kd.R_tight rfl (Kd.R_mono (ok' := fun k_ => ((fun k_ => some k_ ≠ (.slice (some ad112) x5_1.length co34 : Value).ownBlock ∧ k_ ≠ gb113)) k_ ∧ some k_ ≠ (u11 : Value).ownBlock) (Kd.R_types (Kd.R_apart' (HO_114000.out) (Kd.S_typed HO_11.out) (by decide)) BK113.out (by decide)) (fun k_ hk => ⟨⟨hk.1.1.1, hk.2⟩, hk.1.2⟩))) (fun _ h_ => Or.inl h_)) (Kd.R_mono (Kd.R_tight rfl (Kd.R_mono (ok' := fun k_ => ((fun k_ => some k_ ≠ (.slice (some ad112) x5_1.length co34 : Value).ownBlock ∧ k_ ≠ gb113)) k_ ∧ some k_ ≠ (u11 : Value).ownBlock) (Kd.R_types (Kd.R_apart' (HO_114001.out) (Kd.S_typed HO_11.out) (by decide)) BK113.out (by decide)) (fun k_ hk => ⟨⟨hk.1.1.1, hk.2⟩, hk.1.2⟩))) (fun _ h_ => Or.inr (h_)))); (case aB => exact (by repeat (first | (with_reducible first | exact HB.out | apply wA | apply wN | apply wD | refine below_set ?_ GE101.out | refine below_set ?_ GE113.out) | exact HB.out))); (case aF => exact (fun k_ hk => ⟨Kd.fresh' (Kd.R_lt (by (with_reducible repeat (first | apply rA | apply rN | apply rD)); exact HO_5.out)) k_ hk, Kd.freshB (g := gb113) (o := .cells #[.slice Ao70 x114000_3.length co70, .slice Ao71 x114001_4.length co71] 64 (0, 0)) (by (with_reducible repeat (first | refine bN ?_ _ | refine bD ?_ | refine bA ?_ _)); exact BK113.out) k_ hk⟩)); (case aO => exact (by (with_reducible repeat (first | apply Kd.S_alloc | apply Kd.S_drewN | apply Kd.S_drew)); exact Kd.S_mono HO_11.out (fun k_ hk => ⟨⟨hk.1, hk.2.2.2⟩, fun e_ => e_.elim (fun h_ => hk.2.1 h_) (fun h_ => hk.2.2.1 h_)⟩))); (case aS => exact (below_size (by repeat (first | (with_reducible first | exact HB.out | apply wA | apply wN | apply wD | refine below_set ?_ GE101.out | refine below_set ?_ GE113.out) | exact HB.out)))); (case aL => have := LMc65.out; omega); intro v119 w69 ho hb hg hat; rw [← Ny118.out] at ho; have n0_ := Aside0.mk (Kd.R_over' (by (with_reducible repeat (first | apply rA | apply rN | apply rD)); exact HO_5.out) (Kd.S_typed (by (with_reducible repeat (first | apply Kd.S_alloc | apply Kd.S_drewN | apply Kd.S_drew)); exact HO_11.out)) (by decide) hg); have n1_ := Aside0.mk (bG (g := gb101) (o := .cells #[.slice A0_0 l0_0.length c0_0, .slice A0_1 l0_1.length c0_1] 25 (0, 0)) (by (with_reducible repeat (first | refine bN ?_ _ | refine bD ?_ | refine bA ?_ _)); exact BK101.out) hg (Kd.S_ne HO_11.out BK101.out (by decide))); have n2_ := Aside0.mk (bG (g := gb113) (o := .cells #[.slice Ao70 x114000_3.length co70, .slice Ao71 x114001_4.length co71] 64 (0, 0)) (by (with_reducible repeat (first | refine bN ?_ _ | refine bD ?_ | refine bA ?_ _)); exact BK113.out) hg (Kd.S_away HO_11.out (fun _ hk => hk.2.2.2))); have n3_ := Aside0.mk (hb); have n4_ := Aside0.mk (ho); clear HO_5; clear BK101; clear BK113; clear HB; clear HO_11; clear HO_114000; clear HO_114001; have HO_5 := n0_; have BK101 := n1_; have BK113 := n2_; have HB := n3_; have HO120 := n4_; clear n0_ n1_ n2_ n3_ n4_; clear ho hb hg hat))
                  repeat (go_quiet (first | ((with_reducible refine gate_builtin (b := .append) (xs := #[.tmp 124, .tmp 126]) rfl ?_); at_builtin; refine Kd.S_append k64 (w0 := w) w.heap.size rfl (.tmp 124) (.tmp 126) 42 64 (.agg #[(.slice none 0 0), (.slice none 0 0)]) 48 rfl Try.underlying42 info64 rfl (by decide) (by omega) u11 x11_2 (⟨x114000_3, x114001_4⟩ : S64) [.slice Ao70 x114000_3.length co70, .slice Ao71 x114001_4.length co71] (fun k_ => some k_ ≠ (.slice (some ad112) x5_1.length co34 : Value).ownBlock ∧ k_ ≠ gb113) (fun k_ => some k_ = (.slice Ao70 x114000_3.length co70 : Value).ownBlock ∨ some k_ = (.slice Ao71 x114001_4.length co71 : Value).ownBlock) rfl rfl ?aP (fun k_ hk_ => hk_.elim (fun h_ => ((Kd.R_mono (ok' := fun k_ => ((fun k_ => some k_ ≠ (.slice (some ad112) x5_1.length co34 : Value).ownBlock ∧ k_ ≠ gb113)) k_ ∧ some k_ ≠ (u11 : Value).ownBlock) (Kd.R_types (Kd.R_apart' (HO_114000.out) (Kd.S_typed HO_11.out) (by decide)) BK113.out (by decide)) (fun k_ hk => ⟨⟨hk.1.1.1, hk.2⟩, hk.1.2⟩))).1 k_ h_.symm) (fun h_ => ((Kd.R_mono (ok' := fun k_ => ((fun k_ => some k_ ≠ (.slice (some ad112) x5_1.length co34 : Value).ownBlock ∧ k_ ≠ gb113)) k_ ∧ some k_ ≠ (u11 : Value).ownBlock) (Kd.R_types (Kd.R_apart' (HO_114001.out) (Kd.S_typed HO_11.out) (by decide)) BK113.out (by decide)) (fun k_ hk => ⟨⟨hk.1.1.1, hk.2⟩, hk.1.2⟩))).1 k_ h_.symm)) ?aF ?aO ?aB ?aS ?aL ?_; (case aP => exact k64_mkM _ _ _ (⟨x114000_3, x114001_4⟩ : S64) (Kd.R_mono (Kd.R_tight rfl (Kd.R_mono (ok' := fun k_ => ((fun k_ => some k_ ≠ (.slice (some ad112) x5_1.length co34 : Value).ownBlock ∧ k_ ≠ gb113)) k_ ∧ some k_ ≠ (u11 : Value).ownBlock) (Kd.R_types (Kd.R_apart' (HO_114000.out) (Kd.S_typed HO_11.out) (by decide)) BK113.out (by decide)) (fun k_ hk => ⟨⟨hk.1.1.1, hk.2⟩, hk.1.2⟩))) (fun _ h_ => Or.inl h_)) (Kd.R_mono (Kd.R_tight rfl (Kd.R_mono (ok' := fun k_ => ((fun k_ => some k_ ≠ (.slice (some ad112) x5_1.length co34 : Value).ownBlock ∧ k_ ≠ gb113)) k_ ∧ some k_ ≠ (u11 : Value).ownBlock) (Kd.R_types (Kd.R_apart' (HO_114001.out) (Kd.S_typed HO_11.out) (by decide)) BK113.out (by decide)) (fun k_ hk => ⟨⟨hk.1.1.1, hk.2⟩, hk.1.2⟩))) (fun _ h_ => Or.inr (h_)))); (case aB => exact (by repeat (first | (with_reducible first | exact HB.out | apply wA | apply wN | apply wD | refine below_set ?_ GE101.out | refine below_set ?_ GE113.out) | exact HB.out))); (case aF => exact (fun k_ hk => ⟨Kd.fresh' (Kd.R_lt (by (with_reducible repeat (first | apply rA | apply rN | apply rD)); exact HO_5.out)) k_ hk, Kd.freshB (g := gb113) (o := .cells #[.slice Ao70 x114000_3.length co70, .slice Ao71 x114001_4.length co71] 64 (0, 0)) (by (with_reducible repeat (first | refine bN ?_ _ | refine bD ?_ | refine bA ?_ _)); exact BK113.out) k_ hk⟩)); (case aO => exact (by (with_reducible repeat (first | apply Kd.S_alloc | apply Kd.S_drewN | apply Kd.S_drew)); exact Kd.S_mono HO_11.out (fun k_ hk => ⟨⟨hk.1, hk.2.2.2⟩, fun e_ => e_.elim (fun h_ => hk.2.1 h_) (fun h_ => hk.2.2.1 h_)⟩))); (case aS => exact (below_size (by repeat (first | (with_reducible first | exact HB.out | apply wA | apply wN | apply wD | refine below_set ?_ GE101.out | refine below_set ?_ GE113.out) | exact HB.out)))); (case aL => have := LMc65.out; omega); intro v119 w69 ho hb hg hat; rw [← Ny118.out] at ho; have n0_ := Aside0.mk (Kd.R_over' (by (with_reducible repeat (first | apply rA | apply rN | apply rD)); exact HO_5.out) (Kd.S_typed (by (with_reducible repeat (first | apply Kd.S_alloc | apply Kd.S_drewN | apply Kd.S_drew)); exact HO_11.out)) (by decide) hg); have n1_ := Aside0.mk (bG (g := gb101) (o := .cells #[.slice A0_0 l0_0.length c0_0, .slice A0_1 l0_1.length c0_1] 25 (0, 0)) (by (with_reducible repeat (first | refine bN ?_ _ | refine bD ?_ | refine bA ?_ _)); exact BK101.out) hg (Kd.S_ne HO_11.out BK101.out (by decide))); have n2_ := Aside0.mk (bG (g := gb113) (o := .cells #[.slice Ao70 x114000_3.length co70, .slice Ao71 x114001_4.length co71] 64 (0, 0)) (by (with_reducible repeat (first | refine bN ?_ _ | refine bD ?_ | refine bA ?_ _)); exact BK113.out) hg (Kd.S_away HO_11.out (fun _ hk => hk.2.2.2))); have n3_ := Aside0.mk (hb); have n4_ := Aside0.mk (ho); clear HO_5; clear BK101; clear BK113; clear HB; clear HO_11; clear HO_114000; clear HO_114001; have HO_5 := n0_; have BK101 := n1_; have BK113 := n2_; have HB := n3_; have HO120 := n4_; clear n0_ n1_ n2_ n3_ n4_; clear ho hb hg hat)); try go_wp2_with (first | ((with_reducible refine gate_builtin (b := .append) (xs := #[.tmp 124, .tmp 126]) rfl ?_); at_builtin; refine Kd.S_append k64 (w0 := w) w.heap.size rfl (.tmp 124) (.tmp 126) 42 64 (.agg #[(.slice none 0 0), (.slice none 0 0)]) 48 rfl Try.underlying42 info64 rfl (by decide) (by omega) u11 x11_2 (⟨x114000_3, x114001_4⟩ : S64) [.slice Ao70 x114000_3.length co70, .slice Ao71 x114001_4.length co71] (fun k_ => some k_ ≠ (.slice (some ad112) x5_1.length co34 : Value).ownBlock ∧ k_ ≠ gb113) (fun k_ => some k_ = (.slice Ao70 x114000_3.length co70 : Value).ownBlock ∨ some k_ = (.slice Ao71 x114001_4.length co71 : Value).ownBlock) rfl rfl ?aP (fun k_ hk_ => hk_.elim (fun h_ => ((Kd.R_mono (ok' := fun k_ => ((fun k_ => some k_ ≠ (.slice (some ad112) x5_1.length co34 : Value).ownBlock ∧ k_ ≠ gb113)) k_ ∧ some k_ ≠ (u11 : Value).ownBlock) (Kd.R_types (Kd.R_apart' (HO_114000.out) (Kd.S_typed HO_11.out) (by decide)) BK113.out (by decide)) (fun k_ hk => ⟨⟨hk.1.1.1, hk.2⟩, hk.1.2⟩))).1 k_ h_.symm) (fun h_ => ((Kd.R_mono (ok' := fun k_ => ((fun k_ => some k_ ≠ (.slice (some ad112) x5_1.length co34 : Value).ownBlock ∧ k_ ≠ gb113)) k_ ∧ some k_ ≠ (u11 : Value).ownBlock) (Kd.R_types (Kd.R_apart' (HO_114001.out) (Kd.S_typed HO_11.out) (by decide)) BK113.out (by decide)) (fun k_ hk => ⟨⟨hk.1.1.1, hk.2⟩, hk.1.2⟩))).1 k_ h_.symm)) ?aF ?aO ?aB ?aS ?aL ?_; (case aP => exact k64_mkM _ _ _ (⟨x114000_3, x114001_4⟩ : S64) (Kd.R_mono (Kd.R_tight rfl (Kd.R_mono (ok' := fun k_ => ((fun k_ => some k_ ≠ (.slice (some ad112) x5_1.length co34 : Value).ownBlock ∧ k_ ≠ gb113)) k_ ∧ some k_ ≠ (u11 : Value).ownBlock) (Kd.R_types (Kd.R_apart' (HO_114000.out) (Kd.S_typed HO_11.out) (by decide)) BK113.out (by decide)) (fun k_ hk => ⟨⟨hk.1.1.1, hk.2⟩, hk.1.2⟩))) (fun _ h_ => Or.inl h_)) (Kd.R_mono (Kd.R_tight rfl (Kd.R_mono (ok' := fun k_ => ((fun k_ => some k_ ≠ (.slice (some ad112) x5_1.length co34 : Value).ownBlock ∧ k_ ≠ gb113)) k_ ∧ some k_ ≠ (u11 : Value).ownBlock) (Kd.R_types (Kd.R_apart' (HO_114001.out) (Kd.S_typed HO_11.out) (by decide)) BK113.out (by decide)) (fun k_ hk => ⟨⟨hk.1.1.1, hk.2⟩, hk.1.2⟩))) (fun _ h_ => Or.inr (h_)))); (case aB => exact (by repeat (first | (with_reducible first | exact HB.out | apply wA | apply wN | apply wD | refine below_set ?_ GE101.out | refine below_set ?_ GE113.out) | exact HB.out))); (case aF => exact (fun k_ hk => ⟨Kd.fresh' (Kd.R_lt (by (with_reducible repeat (first | apply rA | apply rN | apply rD)); exact HO_5.out)) k_ hk, Kd.freshB (g := gb113) (o := .cells #[.slice Ao70 x114000_3.length co70, .slice Ao71 x114001_4.length co71] 64 (0, 0)) (by (with_reducible repeat (first | refine bN ?_ _ | refine bD ?_ | refine bA ?_ _)); exact BK113.out) k_ hk⟩)); (case aO => exact (by (with_reducible repeat (first | apply Kd.S_alloc | apply Kd.S_drewN | apply Kd.S_drew)); exact Kd.S_mono HO_11.out (fun k_ hk => ⟨⟨hk.1, hk.2.2.2⟩, fun e_ => e_.elim (fun h_ => hk.2.1 h_) (fun h_ => hk.2.2.1 h_)⟩))); (case aS => exact (below_size (by repeat (first | (with_reducible first | exact HB.out | apply wA | apply wN | apply wD | refine below_set ?_ GE101.out | refine below_set ?_ GE113.out) | exact HB.out)))); (case aL => have := LMc65.out; omega); intro v119 w69 ho hb hg hat; rw [← Ny118.out] at ho; have n0_ := Aside0.mk (Kd.R_over' (by (with_reducible repeat (first | apply rA | apply rN | apply rD)); exact HO_5.out) (Kd.S_typed (by (with_reducible repeat (first | apply Kd.S_alloc | apply Kd.S_drewN | apply Kd.S_drew)); exact HO_11.out)) (by decide) hg); have n1_ := Aside0.mk (bG (g := gb101) (o := .cells #[.slice A0_0 l0_0.length c0_0, .slice A0_1 l0_1.length c0_1] 25 (0, 0)) (by (with_reducible repeat (first | refine bN ?_ _ | refine bD ?_ | refine bA ?_ _)); exact BK101.out) hg (Kd.S_ne HO_11.out BK101.out (by decide))); have n2_ := Aside0.mk (bG (g := gb113) (o := .cells #[.slice Ao70 x114000_3.length co70, .slice Ao71 x114001_4.length co71] 64 (0, 0)) (by (with_reducible repeat (first | refine bN ?_ _ | refine bD ?_ | refine bA ?_ _)); exact BK113.out) hg (Kd.S_away HO_11.out (fun _ hk => hk.2.2.2))); have n3_ := Aside0.mk (hb); have n4_ := Aside0.mk (ho); clear HO_5; clear BK101; clear BK113; clear HB; clear HO_11; clear HO_114000; clear HO_114001; have HO_5 := n0_; have BK101 := n1_; have BK113 := n2_; have HB := n3_; have HO120 := n4_; clear n0_ n1_ n2_ n3_ n4_; clear ho hb hg hat)))
                  go_roundg k4
                  case measure => have := HK1.out; have := HK2.out; have := HK3.out; have := HK4.out; omega
                  case rel => exact ⟨(y118), (wrap64 (x12_2 + 1)), rS, H', ⟨by have := HK1.out; have := HK2.out; have := HK3.out; have := HK4.out; omega⟩, ⟨by (with_reducible repeat (first | apply rA | apply rN | apply rD)); exact Kd.R_mono HO_5.out (fun _ hk => trivial)⟩, ⟨by (with_reducible repeat (first | apply Kd.S_alloc | apply Kd.S_drewN | apply Kd.S_drew)); exact Kd.S_mono HO120.out (fun _ hk => hk.1)⟩, ⟨by (with_reducible repeat (first | refine bN ?_ _ | refine bD ?_ | refine bA ?_ _)); exact BK101.out⟩, ⟨by repeat (first | (with_reducible first | exact HB.out | apply wA | apply wN | apply wD | refine below_set ?_ GE101.out | refine below_set ?_ GE113.out) | exact HB.out)⟩⟩
                 ·rw [if_neg c65] at H
                  exact absurd H (by simp)
          ·rw [if_neg c32] at H
           have c32b0 : ((rd x5_1 x12_2) == x12_2) = false := beq_eq_false_iff_ne.mpr c32
           have c32b1 : ((rd x5_1 x12_2) != x12_2) = true := bne_iff_ne.mpr c32
           have H' := Aside0.mk H
           clear H
           have hcz72_0 : wr.cell? ⟨gb101, 0, none⟩ = some (.slice A0_0 l0_0.length c0_0) := (blk_cell BK101.out 0).trans rfl
           have hcz72_1 : wr.cell? ⟨gb101, 1, none⟩ = some (.slice A0_1 l0_1.length c0_1) := (blk_cell BK101.out 1).trans rfl
           have hfz72_0 := blk_frozen BK101.out 0
           have hfz72_1 := blk_frozen BK101.out 1
           obtain ⟨Ao73, co73, eo73⟩ := Kd.R_slice HO_5.out
           subst eo73
           have p112 : 0 ≤ (x12_2 : Int) := oT
           have q112 : x12_2 < (x5_1.length : Int) := oT
           obtain ⟨ad112, e112, hx112_0⟩ := Kd.at_int (Kd.R_reads' HO_5.out).2.2 x12_2 p112 q112
           cases e112
           replace p112 := eq_true p112
           replace q112 := eq_true q112
           go_wp2
           repeat (go_quiet (fail); try go_wp2)
           go_roundg k2
           case measure => have := HK1.out; have := HK2.out; omega
           case rel => exact ⟨(x11_2), (wrap64 (x12_2 + 1)), rS, H', ⟨by have := HK1.out; have := HK2.out; omega⟩, ⟨by (with_reducible repeat (first | apply rA | apply rN | apply rD)); exact HO_5.out⟩, ⟨by (with_reducible repeat (first | apply Kd.S_alloc | apply Kd.S_drewN | apply Kd.S_drew)); exact HO_11.out⟩, ⟨by (with_reducible repeat (first | refine bN ?_ _ | refine bD ?_ | refine bA ?_ _)); exact BK101.out⟩, ⟨by repeat (first | (with_reducible first | exact HB.out | apply wA | apply wN | apply wD | refine below_set ?_ GE101.out) | exact HB.out)⟩⟩
         ·rw [if_neg c31] at H
          exact absurd H (by simp)
        ·rw [if_neg c30] at H
         exact absurd H (by simp)
       ·rw [if_neg c29] at H
        have c29b0 : decide (x12_2 < (l0_0.length : Int)) = false := decide_eq_false c29
        clear c29
        simp only [Option.some.injEq, Prod.mk.injEq] at H
        obtain ⟨rfl, rfl⟩ := H
        have hcz74_0 : wr.cell? ⟨gb101, 0, none⟩ = some (.slice A0_0 l0_0.length c0_0) := (blk_cell BK101.out 0).trans rfl
        have hcz74_1 : wr.cell? ⟨gb101, 1, none⟩ = some (.slice A0_1 l0_1.length c0_1) := (blk_cell BK101.out 1).trans rfl
        have hfz74_0 := blk_frozen BK101.out 0
        have hfz74_1 := blk_frozen BK101.out 1
        go_wp2
        repeat (go_quiet (fail); try go_wp2)
        go_ret2
        exact ⟨_, by first | rfl | (simp [errW_none, errW_some] <;> rfl) | (simp [*, errW_none, errW_some] <;> rfl), by (with_reducible repeat (first | apply Kd.S_alloc | apply Kd.S_drewN | apply Kd.S_drew)); exact Kd.S_mono HO_11.out (fun _ hk => trivial), by repeat (first | (with_reducible first | exact HB.out | apply wA | apply wN | apply wD | refine below_set ?_ GE101.out) | exact HB.out)⟩
 ·rw [if_neg c3] at H
  have c3b0 : (t102 == 0) = false := beq_eq_false_iff_ne.mpr c3
  have c3b1 : (t102 != 0) = true := bne_iff_ne.mpr c3
  simp only [Option.some.injEq, Prod.mk.injEq] at H
  obtain ⟨rfl, rfl⟩ := H
  go_enter Try.func21, Try.ntmps21
  go_wp2_with (first | ((with_reducible refine gate_dst (N := 1) rfl ?_); refine box_event ?hg (N := 1) ?hd (cs := #[.slice A0_0 l0_0.length c0_0, .slice A0_1 l0_1.length c0_1]) (t := 25) ?hr ?_; (case hd => rfl); (case hg => rfl); (case hr => first | (go_simp; done) | (go_simp; rfl)); intro gb101 hg w75 hbox hb; have n0_ := Aside0.mk (wS hB hb); have n1_ := Aside0.mk (hbox); have n2_ := Aside0.mk ((by rw [hg]; exact (below_size hB) : w.heap.size ≤ gb101)); have n3_ := Aside0.mk ((by rw [hg]; exact (below_size hB) : w.heap.size ≤ gb101)); clear HB; have HB := n0_; have BK101 := n1_; have GW101 := n2_; have GE101 := n3_; clear n0_ n1_ n2_ n3_; clear hb hbox hg; have hcz76_0 : w75.cell? ⟨gb101, 0, none⟩ = some (.slice A0_0 l0_0.length c0_0) := (blk_cell BK101.out 0).trans rfl; have hcz76_1 : w75.cell? ⟨gb101, 1, none⟩ = some (.slice A0_1 l0_1.length c0_1) := (blk_cell BK101.out 1).trans rfl; have hfz76_0 := blk_frozen BK101.out 0; have hfz76_1 := blk_frozen BK101.out 1) | (go_at_call 27; (with_reducible refine (scarfjointref05_Valid.calls k _ _ l0_0 _ _ l0_1 t102 _ ?side1 ?side2 ?side3 ?side4 A2.out).mono ?_); (case side1 => repeat (first | exact (cB HR0_0.out HB.out) | (with_reducible refine cA ?_ _) | (with_reducible refine cN ?_ _) | (with_reducible refine cD ?_))); (case side2 => exact HC0_0.out); (case side3 => repeat (first | exact (cB HR0_1.out HB.out) | (with_reducible refine cA ?_ _) | (with_reducible refine cN ?_ _) | (with_reducible refine cD ?_))); (case side4 => exact HC0_1.out); rintro e w77 ⟨rfl, hb⟩; have n0_ := Aside0.mk (bB (g := gb101) (o := .cells #[.slice A0_0 l0_0.length c0_0, .slice A0_1 l0_1.length c0_1] 25 (0, 0)) (by (with_reducible repeat (first | refine bN ?_ _ | refine bD ?_ | refine bA ?_ _)); exact BK101.out) hb); have n1_ := Aside0.mk (wS (by repeat (first | (with_reducible first | exact HB.out | apply wA | apply wN | apply wD | refine below_set ?_ GE101.out) | exact HB.out)) hb); clear BK101; clear HB; have BK101 := n0_; have HB := n1_; clear n0_ n1_; (try clear hb); (try clear hb2); (try clear hk); (try clear hi)))
  repeat (go_quiet (first | ((with_reducible refine gate_dst (N := 1) rfl ?_); refine box_event ?hg (N := 1) ?hd (cs := #[.slice A0_0 l0_0.length c0_0, .slice A0_1 l0_1.length c0_1]) (t := 25) ?hr ?_; (case hd => rfl); (case hg => rfl); (case hr => first | (go_simp; done) | (go_simp; rfl)); intro gb101 hg w75 hbox hb; have n0_ := Aside0.mk (wS hB hb); have n1_ := Aside0.mk (hbox); have n2_ := Aside0.mk ((by rw [hg]; exact (below_size hB) : w.heap.size ≤ gb101)); have n3_ := Aside0.mk ((by rw [hg]; exact (below_size hB) : w.heap.size ≤ gb101)); clear HB; have HB := n0_; have BK101 := n1_; have GW101 := n2_; have GE101 := n3_; clear n0_ n1_ n2_ n3_; clear hb hbox hg; have hcz76_0 : w75.cell? ⟨gb101, 0, none⟩ = some (.slice A0_0 l0_0.length c0_0) := (blk_cell BK101.out 0).trans rfl; have hcz76_1 : w75.cell? ⟨gb101, 1, none⟩ = some (.slice A0_1 l0_1.length c0_1) := (blk_cell BK101.out 1).trans rfl; have hfz76_0 := blk_frozen BK101.out 0; have hfz76_1 := blk_frozen BK101.out 1) | (go_at_call 27; (with_reducible refine (scarfjointref05_Valid.calls k _ _ l0_0 _ _ l0_1 t102 _ ?side1 ?side2 ?side3 ?side4 A2.out).mono ?_); (case side1 => repeat (first | exact (cB HR0_0.out HB.out) | (with_reducible refine cA ?_ _) | (with_reducible refine cN ?_ _) | (with_reducible refine cD ?_))); (case side2 => exact HC0_0.out); (case side3 => repeat (first | exact (cB HR0_1.out HB.out) | (with_reducible refine cA ?_ _) | (with_reducible refine cN ?_ _) | (with_reducible refine cD ?_))); (case side4 => exact HC0_1.out); rintro e w77 ⟨rfl, hb⟩; have n0_ := Aside0.mk (bB (g := gb101) (o := .cells #[.slice A0_0 l0_0.length c0_0, .slice A0_1 l0_1.length c0_1] 25 (0, 0)) (by (with_reducible repeat (first | refine bN ?_ _ | refine bD ?_ | refine bA ?_ _)); exact BK101.out) hb); have n1_ := Aside0.mk (wS (by repeat (first | (with_reducible first | exact HB.out | apply wA | apply wN | apply wD | refine below_set ?_ GE101.out) | exact HB.out)) hb); clear BK101; clear HB; have BK101 := n0_; have HB := n1_; clear n0_ n1_; (try clear hb); (try clear hb2); (try clear hk); (try clear hi))); try go_wp2_with (first | ((with_reducible refine gate_dst (N := 1) rfl ?_); refine box_event ?hg (N := 1) ?hd (cs := #[.slice A0_0 l0_0.length c0_0, .slice A0_1 l0_1.length c0_1]) (t := 25) ?hr ?_; (case hd => rfl); (case hg => rfl); (case hr => first | (go_simp; done) | (go_simp; rfl)); intro gb101 hg w75 hbox hb; have n0_ := Aside0.mk (wS hB hb); have n1_ := Aside0.mk (hbox); have n2_ := Aside0.mk ((by rw [hg]; exact (below_size hB) : w.heap.size ≤ gb101)); have n3_ := Aside0.mk ((by rw [hg]; exact (below_size hB) : w.heap.size ≤ gb101)); clear HB; have HB := n0_; have BK101 := n1_; have GW101 := n2_; have GE101 := n3_; clear n0_ n1_ n2_ n3_; clear hb hbox hg; have hcz76_0 : w75.cell? ⟨gb101, 0, none⟩ = some (.slice A0_0 l0_0.length c0_0) := (blk_cell BK101.out 0).trans rfl; have hcz76_1 : w75.cell? ⟨gb101, 1, none⟩ = some (.slice A0_1 l0_1.length c0_1) := (blk_cell BK101.out 1).trans rfl; have hfz76_0 := blk_frozen BK101.out 0; have hfz76_1 := blk_frozen BK101.out 1) | (go_at_call 27; (with_reducible refine (scarfjointref05_Valid.calls k _ _ l0_0 _ _ l0_1 t102 _ ?side1 ?side2 ?side3 ?side4 A2.out).mono ?_); (case side1 => repeat (first | exact (cB HR0_0.out HB.out) | (with_reducible refine cA ?_ _) | (with_reducible refine cN ?_ _) | (with_reducible refine cD ?_))); (case side2 => exact HC0_0.out); (case side3 => repeat (first | exact (cB HR0_1.out HB.out) | (with_reducible refine cA ?_ _) | (with_reducible refine cN ?_ _) | (with_reducible refine cD ?_))); (case side4 => exact HC0_1.out); rintro e w77 ⟨rfl, hb⟩; have n0_ := Aside0.mk (bB (g := gb101) (o := .cells #[.slice A0_0 l0_0.length c0_0, .slice A0_1 l0_1.length c0_1] 25 (0, 0)) (by (with_reducible repeat (first | refine bN ?_ _ | refine bD ?_ | refine bA ?_ _)); exact BK101.out) hb); have n1_ := Aside0.mk (wS (by repeat (first | (with_reducible first | exact HB.out | apply wA | apply wN | apply wD | refine below_set ?_ GE101.out) | exact HB.out)) hb); clear BK101; clear HB; have BK101 := n0_; have HB := n1_; clear n0_ n1_; (try clear hb); (try clear hb2); (try clear hk); (try clear hi))))
  go_ret2
  exact ⟨_, by first | rfl | (simp [errW_none, errW_some] <;> rfl) | (simp [*, errW_none, errW_some] <;> rfl), by first | exact Kd.S_nil _ _ _ _ _ | exact Kd.N_nil _ _ _ _ _ | exact Kd.V_nil _ _ _ _ _ | exact Kd.Q_nil _ _ _ _ _ | exact Kd.R_nil _ _ _ _ _, by repeat (first | (with_reducible first | exact HB.out | apply wA | apply wN | apply wD | refine below_set ?_ GE101.out) | exact HB.out)⟩
end Go.Proofs.Ytmbnibonggbjgaa.X

namespace Go.Proofs.Ytmbnibonggbjgaa.X
open Go.RowKit Go.Proofs.YtmbnibonggbjgaaW.PrintWords Go.Proofs.YtmbnibonggbjgaaW.PrintLast Go.Proofs.YtmbnibonggbjgaaW.PrintMore
open Go.Proofs.YtmbnibonggbjgaaW.PrintWords renaming blk_drewN → bN, blk_drew → bD, blk_alloc → bA, below_alloc → wA, pw_below_drewN → wN, below_drew1 → wD, blk_below → bB, below_step → wS, blk_at → bT, blk_grown → bG
open Go.Proofs.YtmbnibonggbjgaaW.PrintWords.Kd renaming R_alloc → rA, R_drewN → rN, R_drew → rD, R_below → rB, R_grown → rG, C_below → cB, C_alloc → cA, C_drewN → cN, C_drew → cD
attribute [local go_sem] max2_int min2_int max_two min_two max_three min_three max_four min_four
set_option linter.unusedVariables false
set_option linter.unusedSimpArgs false
/-! ### scarfjointref05_SameParts: function 23 -/
mutual
def scarfjointref05_SameParts.l0 : Nat → List (S64) → List (S64) → Int → Option (Bool)
 | 0, _, _, _ => none
 | k + 1, x0, x1, x5 => if x5 < (x0.length : Int) then (if 0 ≤ x5 then (if x5 < (x1.length : Int) then ((scarfjointref05_SameInts.f k ((rd_T64 x0 x5).f0) ((rd_T64 x1 x5).f0)).bind fun t103 => (if t103 = true then ((scarfjointref05_SameInts.f k ((rd_T64 x0 x5).f1) ((rd_T64 x1 x5).f1)).bind fun t106 => (scarfjointref05_SameParts.j1 k x0 x1 x5 (!t106))) else (scarfjointref05_SameParts.j1 k x0 x1 x5 true))) else (none)) else (none)) else (some true)
def scarfjointref05_SameParts.j1 : Nat → List (S64) → List (S64) → Int → Bool → Option (Bool)
 | 0, _, _, _, _ => none
 | k + 1, x0, x1, x5, x42 => if x42 = true then (some false) else (scarfjointref05_SameParts.l0 k x0 x1 (wrap64 (x5 + 1)))
end
def scarfjointref05_SameParts.f (k : Nat) (l0 : List (S64)) (l1 : List (S64)) : Option (Bool) := if (l0.length : Int) = (l1.length : Int) then (scarfjointref05_SameParts.l0 k l0 l1 0) else (some false)
theorem scarfjointref05_SameParts.mono_l : ∀ k, (∀ y0 y1 y2, LeO (scarfjointref05_SameParts.l0 k y0 y1 y2) (scarfjointref05_SameParts.l0 (k + 1) y0 y1 y2)) ∧ (∀ y0 y1 y2 y3, LeO (scarfjointref05_SameParts.j1 k y0 y1 y2 y3) (scarfjointref05_SameParts.j1 (k + 1) y0 y1 y2 y3))
 | 0 => ⟨fun _ _ _ r h => by simp [scarfjointref05_SameParts.l0] at h, fun _ _ _ _ r h => by simp [scarfjointref05_SameParts.j1] at h⟩
 | k + 1 => by
  obtain ⟨ih0, ih1⟩ := scarfjointref05_SameParts.mono_l k
  refine ⟨?_, ?_⟩
  ·intro y0 y1 y2
   unfold scarfjointref05_SameParts.l0
   repeat' first
   | (with_reducible exact ih0 _ _ _)
   | (with_reducible exact ih1 _ _ _ _)
   | (with_reducible exact scarfjointref05_SameInts.mono _ _ _)
   | (with_reducible exact LeO.refl _)
   | (with_reducible exact LeO.none _)
   | (with_reducible refine LeO.ite ?_ ?_)
   | (with_reducible refine LeO.bind ?_ (fun _ => ?_))
   | exact ih0 _ _ _
   | exact ih1 _ _ _ _
   | exact scarfjointref05_SameInts.mono _ _ _
   | exact LeO.none _
   | refine LeO.ite ?_ ?_
   | refine LeO.bind ?_ (fun _ => ?_)
  ·intro y0 y1 y2 y3
   unfold scarfjointref05_SameParts.j1
   repeat' first
   | (with_reducible exact ih0 _ _ _)
   | (with_reducible exact ih1 _ _ _ _)
   | (with_reducible exact scarfjointref05_SameInts.mono _ _ _)
   | (with_reducible exact LeO.refl _)
   | (with_reducible exact LeO.none _)
   | (with_reducible refine LeO.ite ?_ ?_)
   | (with_reducible refine LeO.bind ?_ (fun _ => ?_))
   | exact ih0 _ _ _
   | exact ih1 _ _ _ _
   | exact scarfjointref05_SameInts.mono _ _ _
   | exact LeO.none _
   | refine LeO.ite ?_ ?_
   | refine LeO.bind ?_ (fun _ => ?_)
theorem scarfjointref05_SameParts.mono : ∀ a0 a1 k, LeO (scarfjointref05_SameParts.f k a0 a1) (scarfjointref05_SameParts.f (k + 1) a0 a1) := by
 intro a0 a1 k
 obtain ⟨ih0, ih1⟩ := scarfjointref05_SameParts.mono_l k
 unfold scarfjointref05_SameParts.f
 repeat' first
   | (with_reducible exact ih0 _ _ _)
   | (with_reducible exact ih1 _ _ _ _)
   | (with_reducible exact scarfjointref05_SameInts.mono _ _ _)
   | (with_reducible exact LeO.refl _)
   | (with_reducible exact LeO.none _)
   | (with_reducible refine LeO.ite ?_ ?_)
   | (with_reducible refine LeO.bind ?_ (fun _ => ?_))
   | exact ih0 _ _ _
   | exact ih1 _ _ _ _
   | exact scarfjointref05_SameInts.mono _ _ _
   | exact LeO.none _
   | refine LeO.ite ?_ ?_
   | refine LeO.bind ?_ (fun _ => ?_)
set_option maxHeartbeats 8000000 in
set_option maxRecDepth 100000 in
theorem scarfjointref05_SameParts.calls (k : Nat) (A0 : Option Addr) (c0 : Nat) (l0 : List (S64)) (A1 : Option Addr) (c1 : Nat) (l1 : List (S64)) (r : Bool) (w : World) (hr0 : Kd.C k64 w A0 l0.length l0) (hc0 : l0.length ≤ c0) (hr1 : Kd.C k64 w A1 l1.length l1) (hc1 : l1.length ≤ c1) (h : scarfjointref05_SameParts.f k l0 l1 = some r) :
  Calls Try.prog 23 #[.slice A0 l0.length c0, .slice A1 l1.length c1] w fun e w' => e = .returned (.bool r) ∧ Drawn0 w w' := by
 have HR0 := Aside0.mk hr0
 have HC0 := Aside0.mk hc0
 clear hr0 hc0
 have HR1 := Aside0.mk hr1
 have HC1 := Aside0.mk hc1
 clear hr1 hc1
 have H : (if (l0.length : Int) = (l1.length : Int) then (scarfjointref05_SameParts.l0 k l0 l1 0) else (some false)) = some r := h
 clear h
 by_cases c3 : (l0.length : Int) = (l1.length : Int)
 ·rw [if_pos c3] at H
  have c3b0 : ((l0.length : Int) == (l1.length : Int)) = true := beq_iff_eq.mpr c3
  have c3b1 : ((l0.length : Int) != (l1.length : Int)) = false := bne_eq_false_iff_eq.mpr c3
  have c3b2 : (l0.length == l1.length) = true := by first | simpa using c3 | (simp at c3 ⊢; omega)
  clear c3
  have H' := Aside0.mk H
  clear H
  go_enter Try.func23, Try.ntmps23
  go_wp2
  repeat (go_quiet (fail); try go_wp2)
  go_loopg [5] k (fun kq v5 w' => ∃ (x5_1 : Int), v5 = .int .i64 x5_1 ∧ Aside0 (scarfjointref05_SameParts.l0 kq l0 l1 x5_1 = some r) ∧ Aside0 (kq ≤ k) ∧ Drawn0 w w')
  case atStart => exact ⟨(0), rS, H', ⟨Nat.le_refl _⟩, by repeat (first | exact Drawn0.refl _ | apply Drawn0.step)⟩
  case round =>
   clear H'
   try clear c1
   try clear c2
   try clear p2
   try clear c3
   try clear c3b0
   try clear c3b1
   try clear c3b2
   obtain ⟨x5_1, rfl, HA, HK1, ⟨m1, rfl⟩⟩ := hrel
   cases gk with
   | zero => exact absurd HA.out (by simp [scarfjointref05_SameParts.l0])
   | succ k1 =>
    have H := HA.out
    clear HA
    simp only [scarfjointref05_SameParts.l0] at H
    by_cases c4 : x5_1 < (l0.length : Int)
    ·rw [if_pos c4] at H
     have c4b0 : decide (x5_1 < (l0.length : Int)) = true := decide_eq_true c4
     clear c4
     have HC5 := Aside0.mk H
     clear H
     go_upto_region 6 with (fail)
     repeat (go_quiet (fail); go_upto_region 6 with (fail))
     go_cut [42] (fun v42 wc => ∃ (kq : Nat) (x42_4 : Bool), v42 = .bool x42_4 ∧ Aside0 (scarfjointref05_SameParts.j1 kq l0 l1 x5_1 x42_4 = some r) ∧ Aside0 (kq ≤ k1) ∧ Drawn0 w wc)
     case first =>
      have H := HC5.out
      clear HC5
      by_cases c6 : 0 ≤ x5_1
      ·rw [if_pos c6] at H
       have c6b0 : decide (0 ≤ x5_1) = true := decide_eq_true c6
       clear c6
       (first | rw [c6b0] | (simp only [i64_w, i32_w]; rw [c6b0]) | skip)
       by_cases c7 : x5_1 < (l1.length : Int)
       ·rw [if_pos c7] at H
        have c7b0 : decide (x5_1 < (l1.length : Int)) = true := decide_eq_true c7
        clear c7
        replace H := Option.bind_eq_some_iff.mp H
        obtain ⟨t103, A80, H⟩ := H
        replace H : (if t103 = true then ((scarfjointref05_SameInts.f k1 ((rd_T64 l0 x5_1).f1) ((rd_T64 l1 x5_1).f1)).bind fun t106 => (scarfjointref05_SameParts.j1 k1 l0 l1 x5_1 (!t106))) else (scarfjointref05_SameParts.j1 k1 l0 l1 x5_1 true)) = some r := H
        have A8 := Aside0.mk A80
        clear A80
        by_cases c9 : t103 = true
        ·subst c9
         have H1 : ((scarfjointref05_SameInts.f k1 ((rd_T64 l0 x5_1).f1) ((rd_T64 l1 x5_1).f1)).bind fun t106 => (scarfjointref05_SameParts.j1 k1 l0 l1 x5_1 (!t106))) = some r := by rw [if_pos rfl] at H; exact H
         clear H
         have H := H1
         clear H1
         replace H := Option.bind_eq_some_iff.mp H
         obtain ⟨t106, A100, H⟩ := H
         replace H : (scarfjointref05_SameParts.j1 k1 l0 l1 x5_1 (!t106)) = some r := H
         have A10 := Aside0.mk A100
         clear A100
         have H' := Aside0.mk H
         clear H
         have p101 : 0 ≤ (x5_1 : Int) := oT
         have q101 : x5_1 < (l0.length : Int) := oT
         obtain ⟨ad101, A101_0, c101_0, A101_1, c101_1, e101, hx101_0, hx101_1, hl101_0, hi101_0, hl101_1, hi101_1⟩ := at_T64 HR0.out x5_1 p101 q101
         cases e101
         have HR101_0 := Aside0.mk hi101_0
         have HC101_0 := Aside0.mk hl101_0
         clear hi101_0 hl101_0
         have HR101_1 := Aside0.mk hi101_1
         have HC101_1 := Aside0.mk hl101_1
         clear hi101_1 hl101_1
         replace p101 := eq_true p101
         replace q101 := eq_true q101
         have p102 : 0 ≤ (x5_1 : Int) := oT
         have q102 : x5_1 < (l1.length : Int) := oT
         obtain ⟨ad102, A102_0, c102_0, A102_1, c102_1, e102, hx102_0, hx102_1, hl102_0, hi102_0, hl102_1, hi102_1⟩ := at_T64 HR1.out x5_1 p102 q102
         cases e102
         have HR102_0 := Aside0.mk hi102_0
         have HC102_0 := Aside0.mk hl102_0
         clear hi102_0 hl102_0
         have HR102_1 := Aside0.mk hi102_1
         have HC102_1 := Aside0.mk hl102_1
         clear hi102_1 hl102_1
         replace p102 := eq_true p102
         replace q102 := eq_true q102
         go_wp2_with (first | (go_at_call 43; (with_reducible refine (scarfjointref05_SameInts.calls k1 _ _ ((rd_T64 l0 x5_1).f0) _ _ ((rd_T64 l1 x5_1).f0) true _ ?side1 ?side2 ?side3 ?side4 A8.out).mono ?_); (case side1 => repeat (first | exact HR101_0.out | (with_reducible refine cA ?_ _) | (with_reducible refine cN ?_ _) | (with_reducible refine cD ?_))); (case side2 => exact HC101_0.out); (case side3 => repeat (first | exact HR102_0.out | (with_reducible refine cA ?_ _) | (with_reducible refine cN ?_ _) | (with_reducible refine cD ?_))); (case side4 => exact HC102_0.out); rintro e w' ⟨rfl, ⟨nd, rfl⟩⟩; (try first | exact ⟨rfl, _, World.drewN_drewN _ _ _⟩ | exact ⟨rfl, _, Eq.trans (World.drewN_drewN _ _ _) (congrArg (World.drewN _) (Nat.add_assoc _ _ _))⟩); have p104 : 0 ≤ (x5_1 : Int) := oT; have q104 : x5_1 < (l0.length : Int) := oT; obtain ⟨ad104, A104_0, c104_0, A104_1, c104_1, e104, hx104_0, hx104_1, hl104_0, hi104_0, hl104_1, hi104_1⟩ := at_T64 HR0.out x5_1 p104 q104; obtain rfl : ad101 = ad104 := (by injection e104); have HR104_0 := Aside0.mk hi104_0; have HC104_0 := Aside0.mk hl104_0; clear hi104_0 hl104_0; have HR104_1 := Aside0.mk hi104_1; have HC104_1 := Aside0.mk hl104_1; clear hi104_1 hl104_1; replace p104 := eq_true p104; replace q104 := eq_true q104; have ea_ := Option.some.inj (hx101_0.symm.trans hx104_0); injection ea_ with ea_ en_ ec_; subst ea_; subst ec_; clear en_; have ea_ := Option.some.inj (hx101_1.symm.trans hx104_1); injection ea_ with ea_ en_ ec_; subst ea_; subst ec_; clear en_; have p105 : 0 ≤ (x5_1 : Int) := oT; have q105 : x5_1 < (l1.length : Int) := oT; obtain ⟨ad105, A105_0, c105_0, A105_1, c105_1, e105, hx105_0, hx105_1, hl105_0, hi105_0, hl105_1, hi105_1⟩ := at_T64 HR1.out x5_1 p105 q105; obtain rfl : ad102 = ad105 := (by injection e105); have HR105_0 := Aside0.mk hi105_0; have HC105_0 := Aside0.mk hl105_0; clear hi105_0 hl105_0; have HR105_1 := Aside0.mk hi105_1; have HC105_1 := Aside0.mk hl105_1; clear hi105_1 hl105_1; replace p105 := eq_true p105; replace q105 := eq_true q105; have ea_ := Option.some.inj (hx102_0.symm.trans hx105_0); injection ea_ with ea_ en_ ec_; subst ea_; subst ec_; clear en_; have ea_ := Option.some.inj (hx102_1.symm.trans hx105_1); injection ea_ with ea_ en_ ec_; subst ea_; subst ec_; clear en_) | (go_at_call 43; (with_reducible refine (scarfjointref05_SameInts.calls k1 _ _ ((rd_T64 l0 x5_1).f1) _ _ ((rd_T64 l1 x5_1).f1) t106 _ ?side1 ?side2 ?side3 ?side4 A10.out).mono ?_); (case side1 => repeat (first | exact HR104_1.out | (with_reducible refine cA ?_ _) | (with_reducible refine cN ?_ _) | (with_reducible refine cD ?_))); (case side2 => exact HC104_1.out); (case side3 => repeat (first | exact HR105_1.out | (with_reducible refine cA ?_ _) | (with_reducible refine cN ?_ _) | (with_reducible refine cD ?_))); (case side4 => exact HC105_1.out); rintro e w' ⟨rfl, ⟨nd, rfl⟩⟩; (try first | exact ⟨rfl, _, World.drewN_drewN _ _ _⟩ | exact ⟨rfl, _, Eq.trans (World.drewN_drewN _ _ _) (congrArg (World.drewN _) (Nat.add_assoc _ _ _))⟩)))
         repeat (go_quiet (first | (go_at_call 43; (with_reducible refine (scarfjointref05_SameInts.calls k1 _ _ ((rd_T64 l0 x5_1).f0) _ _ ((rd_T64 l1 x5_1).f0) true _ ?side1 ?side2 ?side3 ?side4 A8.out).mono ?_); (case side1 => repeat (first | exact HR101_0.out | (with_reducible refine cA ?_ _) | (with_reducible refine cN ?_ _) | (with_reducible refine cD ?_))); (case side2 => exact HC101_0.out); (case side3 => repeat (first | exact HR102_0.out | (with_reducible refine cA ?_ _) | (with_reducible refine cN ?_ _) | (with_reducible refine cD ?_))); (case side4 => exact HC102_0.out); rintro e w' ⟨rfl, ⟨nd, rfl⟩⟩; (try first | exact ⟨rfl, _, World.drewN_drewN _ _ _⟩ | exact ⟨rfl, _, Eq.trans (World.drewN_drewN _ _ _) (congrArg (World.drewN _) (Nat.add_assoc _ _ _))⟩); have p104 : 0 ≤ (x5_1 : Int) := oT; have q104 : x5_1 < (l0.length : Int) := oT; obtain ⟨ad104, A104_0, c104_0, A104_1, c104_1, e104, hx104_0, hx104_1, hl104_0, hi104_0, hl104_1, hi104_1⟩ := at_T64 HR0.out x5_1 p104 q104; obtain rfl : ad101 = ad104 := (by injection e104); have HR104_0 := Aside0.mk hi104_0; have HC104_0 := Aside0.mk hl104_0; clear hi104_0 hl104_0; have HR104_1 := Aside0.mk hi104_1; have HC104_1 := Aside0.mk hl104_1; clear hi104_1 hl104_1; replace p104 := eq_true p104; replace q104 := eq_true q104; have ea_ := Option.some.inj (hx101_0.symm.trans hx104_0); injection ea_ with ea_ en_ ec_; subst ea_; subst ec_; clear en_; have ea_ := Option.some.inj (hx101_1.symm.trans hx104_1); injection ea_ with ea_ en_ ec_; subst ea_; subst ec_; clear en_; have p105 : 0 ≤ (x5_1 : Int) := oT; have q105 : x5_1 < (l1.length : Int) := oT; obtain ⟨ad105, A105_0, c105_0, A105_1, c105_1, e105, hx105_0, hx105_1, hl105_0, hi105_0, hl105_1, hi105_1⟩ := at_T64 HR1.out x5_1 p105 q105; obtain rfl : ad102 = ad105 := (by injection e105); have HR105_0 := Aside0.mk hi105_0; have HC105_0 := Aside0.mk hl105_0; clear hi105_0 hl105_0; have HR105_1 := Aside0.mk hi105_1; have HC105_1 := Aside0.mk hl105_1; clear hi105_1 hl105_1; replace p105 := eq_true p105; replace q105 := eq_true q105; have ea_ := Option.some.inj (hx102_0.symm.trans hx105_0); injection ea_ with ea_ en_ ec_; subst ea_; subst ec_; clear en_; have ea_ := Option.some.inj (hx102_1.symm.trans hx105_1); injection ea_ with ea_ en_ ec_; subst ea_; subst ec_; clear en_) | (go_at_call 43; (with_reducible refine (scarfjointref05_SameInts.calls k1 _ _ ((rd_T64 l0 x5_1).f1) _ _ ((rd_T64 l1 x5_1).f1) t106 _ ?side1 ?side2 ?side3 ?side4 A10.out).mono ?_); (case side1 => repeat (first | exact HR104_1.out | (with_reducible refine cA ?_ _) | (with_reducible refine cN ?_ _) | (with_reducible refine cD ?_))); (case side2 => exact HC104_1.out); (case side3 => repeat (first | exact HR105_1.out | (with_reducible refine cA ?_ _) | (with_reducible refine cN ?_ _) | (with_reducible refine cD ?_))); (case side4 => exact HC105_1.out); rintro e w' ⟨rfl, ⟨nd, rfl⟩⟩; (try first | exact ⟨rfl, _, World.drewN_drewN _ _ _⟩ | exact ⟨rfl, _, Eq.trans (World.drewN_drewN _ _ _) (congrArg (World.drewN _) (Nat.add_assoc _ _ _))⟩))); try go_wp2_with (first | (go_at_call 43; (with_reducible refine (scarfjointref05_SameInts.calls k1 _ _ ((rd_T64 l0 x5_1).f0) _ _ ((rd_T64 l1 x5_1).f0) true _ ?side1 ?side2 ?side3 ?side4 A8.out).mono ?_); (case side1 => repeat (first | exact HR101_0.out | (with_reducible refine cA ?_ _) | (with_reducible refine cN ?_ _) | (with_reducible refine cD ?_))); (case side2 => exact HC101_0.out); (case side3 => repeat (first | exact HR102_0.out | (with_reducible refine cA ?_ _) | (with_reducible refine cN ?_ _) | (with_reducible refine cD ?_))); (case side4 => exact HC102_0.out); rintro e w' ⟨rfl, ⟨nd, rfl⟩⟩; (try first | exact ⟨rfl, _, World.drewN_drewN _ _ _⟩ | exact ⟨rfl, _, Eq.trans (World.drewN_drewN _ _ _) (congrArg (World.drewN _) (Nat.add_assoc _ _ _))⟩); have p104 : 0 ≤ (x5_1 : Int) := oT; have q104 : x5_1 < (l0.length : Int) := oT; obtain ⟨ad104, A104_0, c104_0, A104_1, c104_1, e104, hx104_0, hx104_1, hl104_0, hi104_0, hl104_1, hi104_1⟩ := at_T64 HR0.out x5_1 p104 q104; obtain rfl : ad101 = ad104 := (by injection e104); have HR104_0 := Aside0.mk hi104_0; have HC104_0 := Aside0.mk hl104_0; clear hi104_0 hl104_0; have HR104_1 := Aside0.mk hi104_1; have HC104_1 := Aside0.mk hl104_1; clear hi104_1 hl104_1; replace p104 := eq_true p104; replace q104 := eq_true q104; have ea_ := Option.some.inj (hx101_0.symm.trans hx104_0); injection ea_ with ea_ en_ ec_; subst ea_; subst ec_; clear en_; have ea_ := Option.some.inj (hx101_1.symm.trans hx104_1); injection ea_ with ea_ en_ ec_; subst ea_; subst ec_; clear en_; have p105 : 0 ≤ (x5_1 : Int) := oT; have q105 : x5_1 < (l1.length : Int) := oT; obtain ⟨ad105, A105_0, c105_0, A105_1, c105_1, e105, hx105_0, hx105_1, hl105_0, hi105_0, hl105_1, hi105_1⟩ := at_T64 HR1.out x5_1 p105 q105; obtain rfl : ad102 = ad105 := (by injection e105); have HR105_0 := Aside0.mk hi105_0; have HC105_0 := Aside0.mk hl105_0; clear hi105_0 hl105_0; have HR105_1 := Aside0.mk hi105_1; have HC105_1 := Aside0.mk hl105_1; clear hi105_1 hl105_1; replace p105 := eq_true p105; replace q105 := eq_true q105; have ea_ := Option.some.inj (hx102_0.symm.trans hx105_0); injection ea_ with ea_ en_ ec_; subst ea_; subst ec_; clear en_; have ea_ := Option.some.inj (hx102_1.symm.trans hx105_1); injection ea_ with ea_ en_ ec_; subst ea_; subst ec_; clear en_) | (go_at_call 43; (with_reducible refine (scarfjointref05_SameInts.calls k1 _ _ ((rd_T64 l0 x5_1).f1) _ _ ((rd_T64 l1 x5_1).f1) t106 _ ?side1 ?side2 ?side3 ?side4 A10.out).mono ?_); (case side1 => repeat (first | exact HR104_1.out | (with_reducible refine cA ?_ _) | (with_reducible refine cN ?_ _) | (with_reducible refine cD ?_))); (case side2 => exact HC104_1.out); (case side3 => repeat (first | exact HR105_1.out | (with_reducible refine cA ?_ _) | (with_reducible refine cN ?_ _) | (with_reducible refine cD ?_))); (case side4 => exact HC105_1.out); rintro e w' ⟨rfl, ⟨nd, rfl⟩⟩; (try first | exact ⟨rfl, _, World.drewN_drewN _ _ _⟩ | exact ⟨rfl, _, Eq.trans (World.drewN_drewN _ _ _) (congrArg (World.drewN _) (Nat.add_assoc _ _ _))⟩))))
         go_meet
         case rel => exact ⟨_, (!t106), rS, H', ⟨by have := HK1.out; first | omega | exact Nat.le_refl _⟩, by repeat (first | exact Drawn0.refl _ | apply Drawn0.step)⟩
        ·replace c9 := Bool.eq_false_iff.mpr c9
         subst c9
         have H1 : (scarfjointref05_SameParts.j1 k1 l0 l1 x5_1 true) = some r := by rw [if_neg (show ¬ (false = true) by decide)] at H; exact H
         clear H
         have H := H1
         clear H1
         have H' := Aside0.mk H
         clear H
         have p101 : 0 ≤ (x5_1 : Int) := oT
         have q101 : x5_1 < (l0.length : Int) := oT
         obtain ⟨ad101, A101_0, c101_0, A101_1, c101_1, e101, hx101_0, hx101_1, hl101_0, hi101_0, hl101_1, hi101_1⟩ := at_T64 HR0.out x5_1 p101 q101
         cases e101
         have HR101_0 := Aside0.mk hi101_0
         have HC101_0 := Aside0.mk hl101_0
         clear hi101_0 hl101_0
         have HR101_1 := Aside0.mk hi101_1
         have HC101_1 := Aside0.mk hl101_1
         clear hi101_1 hl101_1
         replace p101 := eq_true p101
         replace q101 := eq_true q101
         have p102 : 0 ≤ (x5_1 : Int) := oT
         have q102 : x5_1 < (l1.length : Int) := oT
         obtain ⟨ad102, A102_0, c102_0, A102_1, c102_1, e102, hx102_0, hx102_1, hl102_0, hi102_0, hl102_1, hi102_1⟩ := at_T64 HR1.out x5_1 p102 q102
         cases e102
         have HR102_0 := Aside0.mk hi102_0
         have HC102_0 := Aside0.mk hl102_0
         clear hi102_0 hl102_0
         have HR102_1 := Aside0.mk hi102_1
         have HC102_1 := Aside0.mk hl102_1
         clear hi102_1 hl102_1
         replace p102 := eq_true p102
         replace q102 := eq_true q102
         go_wp2_with (first | (go_at_call 43; (with_reducible refine (scarfjointref05_SameInts.calls k1 _ _ ((rd_T64 l0 x5_1).f0) _ _ ((rd_T64 l1 x5_1).f0) false _ ?side1 ?side2 ?side3 ?side4 A8.out).mono ?_); (case side1 => repeat (first | exact HR101_0.out | (with_reducible refine cA ?_ _) | (with_reducible refine cN ?_ _) | (with_reducible refine cD ?_))); (case side2 => exact HC101_0.out); (case side3 => repeat (first | exact HR102_0.out | (with_reducible refine cA ?_ _) | (with_reducible refine cN ?_ _) | (with_reducible refine cD ?_))); (case side4 => exact HC102_0.out); rintro e w' ⟨rfl, ⟨nd, rfl⟩⟩; (try first | exact ⟨rfl, _, World.drewN_drewN _ _ _⟩ | exact ⟨rfl, _, Eq.trans (World.drewN_drewN _ _ _) (congrArg (World.drewN _) (Nat.add_assoc _ _ _))⟩)))
         repeat (go_quiet (first | (go_at_call 43; (with_reducible refine (scarfjointref05_SameInts.calls k1 _ _ ((rd_T64 l0 x5_1).f0) _ _ ((rd_T64 l1 x5_1).f0) false _ ?side1 ?side2 ?side3 ?side4 A8.out).mono ?_); (case side1 => repeat (first | exact HR101_0.out | (with_reducible refine cA ?_ _) | (with_reducible refine cN ?_ _) | (with_reducible refine cD ?_))); (case side2 => exact HC101_0.out); (case side3 => repeat (first | exact HR102_0.out | (with_reducible refine cA ?_ _) | (with_reducible refine cN ?_ _) | (with_reducible refine cD ?_))); (case side4 => exact HC102_0.out); rintro e w' ⟨rfl, ⟨nd, rfl⟩⟩; (try first | exact ⟨rfl, _, World.drewN_drewN _ _ _⟩ | exact ⟨rfl, _, Eq.trans (World.drewN_drewN _ _ _) (congrArg (World.drewN _) (Nat.add_assoc _ _ _))⟩))); try go_wp2_with (first | (go_at_call 43; (with_reducible refine (scarfjointref05_SameInts.calls k1 _ _ ((rd_T64 l0 x5_1).f0) _ _ ((rd_T64 l1 x5_1).f0) false _ ?side1 ?side2 ?side3 ?side4 A8.out).mono ?_); (case side1 => repeat (first | exact HR101_0.out | (with_reducible refine cA ?_ _) | (with_reducible refine cN ?_ _) | (with_reducible refine cD ?_))); (case side2 => exact HC101_0.out); (case side3 => repeat (first | exact HR102_0.out | (with_reducible refine cA ?_ _) | (with_reducible refine cN ?_ _) | (with_reducible refine cD ?_))); (case side4 => exact HC102_0.out); rintro e w' ⟨rfl, ⟨nd, rfl⟩⟩; (try first | exact ⟨rfl, _, World.drewN_drewN _ _ _⟩ | exact ⟨rfl, _, Eq.trans (World.drewN_drewN _ _ _) (congrArg (World.drewN _) (Nat.add_assoc _ _ _))⟩))))
         go_meet
         case rel => exact ⟨_, (true), rS, H', ⟨by have := HK1.out; first | omega | exact Nat.le_refl _⟩, by repeat (first | exact Drawn0.refl _ | apply Drawn0.step)⟩
       ·rw [if_neg c7] at H
        exact absurd H (by simp)
      ·rw [if_neg c6] at H
       exact absurd H (by simp)
     case rest =>
      clear HC5
      try clear c1
      try clear c2
      try clear p2
      try clear q2
      try clear hx2
      try clear c3
      try clear c3b0
      try clear c3b1
      try clear c3b2
      try clear c4
      try clear c4b0
      try clear c6
      try clear c6b0
      try clear c7
      try clear c7b0
      try clear c9
      try clear hx101_0
      try clear hx101_1
      try clear hx102_0
      try clear hx102_1
      try clear hx104_0
      try clear hx104_1
      try clear hx105_0
      try clear hx105_1
      try clear p2
      try clear p101
      try clear p102
      try clear p104
      try clear p105
      try clear q101
      try clear q102
      try clear q104
      try clear q105
      obtain ⟨kq, x42_4, rfl, HA, HJ4, ⟨mc4, rfl⟩⟩ := hcut
      cases kq with
      | zero => exact absurd HA.out (by simp [scarfjointref05_SameParts.j1])
      | succ kj4 =>
       have H := HA.out
       clear HA
       simp only [scarfjointref05_SameParts.j1] at H
       by_cases c11 : x42_4 = true
       ·subst c11
        have H1 : (some false) = some r := by rw [if_pos rfl] at H; exact H
        clear H
        have H := H1
        clear H1
        obtain rfl := Option.some.inj H
        go_wp2
        repeat (go_quiet (fail); try go_wp2)
        go_ret
        exact ⟨by first | rfl | (simp; done) | (simp [*]; done), by repeat (first | exact Drawn0.refl _ | apply Drawn0.step)⟩
       ·replace c11 := Bool.eq_false_iff.mpr c11
        subst c11
        have H1 : (scarfjointref05_SameParts.l0 kj4 l0 l1 (wrap64 (x5_1 + 1))) = some r := by rw [if_neg (show ¬ (false = true) by decide)] at H; exact H
        clear H
        have H := H1
        clear H1
        have H' := Aside0.mk H
        clear H
        go_wp2
        repeat (go_quiet (fail); try go_wp2)
        go_roundg kj4
        case measure => have := HK1.out; have := HJ4.out; omega
        case rel => exact ⟨(wrap64 (x5_1 + 1)), rS, H', ⟨by have := HK1.out; have := HJ4.out; omega⟩, by repeat (first | exact Drawn0.refl _ | apply Drawn0.step)⟩
    ·rw [if_neg c4] at H
     have c4b0 : decide (x5_1 < (l0.length : Int)) = false := decide_eq_false c4
     clear c4
     obtain rfl := Option.some.inj H
     go_wp2
     repeat (go_quiet (fail); try go_wp2)
     go_ret
     exact ⟨by first | rfl | (simp; done) | (simp [*]; done), by repeat (first | exact Drawn0.refl _ | apply Drawn0.step)⟩
 ·rw [if_neg c3] at H
  have c3b0 : ((l0.length : Int) == (l1.length : Int)) = false := beq_eq_false_iff_ne.mpr c3
  have c3b1 : ((l0.length : Int) != (l1.length : Int)) = true := bne_iff_ne.mpr c3
  have c3b2 : (l0.length == l1.length) = false := by first | simpa using c3 | (simp at c3 ⊢; omega)
  obtain rfl := Option.some.inj H
  go_enter Try.func23, Try.ntmps23
  go_wp2
  repeat (go_quiet (fail); try go_wp2)
  go_ret
  exact ⟨by first | rfl | (simp; done) | (simp [*]; done), by repeat (first | exact Drawn0.refl _ | apply Drawn0.step)⟩
end Go.Proofs.Ytmbnibonggbjgaa.X

namespace Go.Proofs.Ytmbnibonggbjgaa.X
open Go.RowKit Go.Proofs.YtmbnibonggbjgaaW.PrintWords Go.Proofs.YtmbnibonggbjgaaW.PrintLast Go.Proofs.YtmbnibonggbjgaaW.PrintMore
open Go.Proofs.YtmbnibonggbjgaaW.PrintWords renaming blk_drewN → bN, blk_drew → bD, blk_alloc → bA, below_alloc → wA, pw_below_drewN → wN, below_drew1 → wD, blk_below → bB, below_step → wS, blk_at → bT, blk_grown → bG
open Go.Proofs.YtmbnibonggbjgaaW.PrintWords.Kd renaming R_alloc → rA, R_drewN → rN, R_drew → rD, R_below → rB, R_grown → rG, C_below → cB, C_alloc → cA, C_drewN → cN, C_drew → cD
attribute [local go_sem] max2_int min2_int max_two min_two max_three min_three max_four min_four
set_option linter.unusedVariables false
set_option linter.unusedSimpArgs false
/-! ### scarfjointlaw05_GraphIncident: function 4 -/
def scarfjointlaw05_GraphIncident.f (k : Nat) (l0_0 : List Int) (l0_1 : List (S38)) (a1 : Int) : Option (Bool) := (scarfjointlaw05_awake.f k).bind fun t102 => (if t102 = true then ((scarfjointref05_Few.f l0_0 l0_1).bind fun t103 => (if t103 = true then ((scarfjointref05_Copied.f l0_0 l0_1).bind fun bt105 => ((graph_Incident.f k bt105.1 bt105.2 a1).bind fun bt111 => ((scarfjointref05_Incident.f k l0_0 l0_1 a1).bind fun bt118 => ((scarfjointref05_Copied.f l0_0 l0_1).bind fun bt125 => ((graph_Components.f k bt125.1 bt125.2).bind fun bt131 => ((scarfjointref05_Components.f k l0_0 l0_1).bind fun bt135 => (if bt111.2.2 = bt118.2.2 then ((slices_Equal_int_int.f k bt111.1 bt118.1).bind fun t139 => (if t139 = true then ((slices_Equal_int_int.f k bt111.2.1 bt118.2.1).bind fun t140 => (if t140 = true then (if bt131.2 = bt135.2 then ((scarfjointref05_SameParts.f k bt131.1 bt135.1).bind fun t141 => (some t141)) else (none)) else (none))) else (none))) else (none)))))))) else ((scarfjointlaw05_awake.f k).bind fun t104 => (some t104)))) else (none))
theorem scarfjointlaw05_GraphIncident.mono : ∀ a0 a1 a2 k, LeO (scarfjointlaw05_GraphIncident.f k a0 a1 a2) (scarfjointlaw05_GraphIncident.f (k + 1) a0 a1 a2) := by
 intro a0 a1 a2 k
 unfold scarfjointlaw05_GraphIncident.f
 repeat' first
   | (with_reducible exact graph_Components.mono _ _ _)
   | (with_reducible exact graph_Incident.mono _ _ _ _)
   | (with_reducible exact scarfjointlaw05_awake.mono _)
   | (with_reducible exact scarfjointref05_Components.mono _ _ _)
   | (with_reducible exact scarfjointref05_Incident.mono _ _ _ _)
   | (with_reducible exact scarfjointref05_SameParts.mono _ _ _)
   | (with_reducible exact slices_Equal_int_int.mono _ _ _)
   | (with_reducible exact LeO.refl _)
   | (with_reducible exact LeO.none _)
   | (with_reducible refine LeO.ite ?_ ?_)
   | (with_reducible refine LeO.bind ?_ (fun _ => ?_))
   | exact graph_Components.mono _ _ _
   | exact graph_Incident.mono _ _ _ _
   | exact scarfjointlaw05_awake.mono _
   | exact scarfjointref05_Components.mono _ _ _
   | exact scarfjointref05_Incident.mono _ _ _ _
   | exact scarfjointref05_SameParts.mono _ _ _
   | exact slices_Equal_int_int.mono _ _ _
   | exact LeO.none _
   | refine LeO.ite ?_ ?_
   | refine LeO.bind ?_ (fun _ => ?_)
set_option maxHeartbeats 8000000 in
set_option maxRecDepth 100000 in
theorem scarfjointlaw05_GraphIncident.calls (k : Nat) (A0_0 : Option Addr) (c0_0 : Nat) (l0_0 : List Int) (A0_1 : Option Addr) (c0_1 : Nat) (l0_1 : List (S38)) (a1 : Int) (r : Bool) (w : World) (hr0_0 : Kd.C (Kd.int .i64) w A0_0 l0_0.length l0_0) (hc0_0 : l0_0.length ≤ c0_0) (hr0_1 : Kd.C k38 w A0_1 l0_1.length l0_1) (hc0_1 : l0_1.length ≤ c0_1) (h : scarfjointlaw05_GraphIncident.f k l0_0 l0_1 a1 = some r) :
  Calls Try.prog 4 #[.agg #[.slice A0_0 l0_0.length c0_0, .slice A0_1 l0_1.length c0_1], .int .i64 a1] w fun e w' => e = .returned (.bool r) ∧ Below w.heap.size w w' := by
 have hu25 := Try.underlying25
 have HR0_0 := Aside0.mk hr0_0
 have HC0_0 := Aside0.mk hc0_0
 clear hr0_0 hc0_0
 have HR0_1 := Aside0.mk hr0_1
 have HC0_1 := Aside0.mk hc0_1
 clear hr0_1 hc0_1
 have HB := Aside0.mk (Below.refl w.heap.size w)
 have H : ((scarfjointlaw05_awake.f k).bind fun t102 => (if t102 = true then ((scarfjointref05_Few.f l0_0 l0_1).bind fun t103 => (if t103 = true then ((scarfjointref05_Copied.f l0_0 l0_1).bind fun bt105 => ((graph_Incident.f k bt105.1 bt105.2 a1).bind fun bt111 => ((scarfjointref05_Incident.f k l0_0 l0_1 a1).bind fun bt118 => ((scarfjointref05_Copied.f l0_0 l0_1).bind fun bt125 => ((graph_Components.f k bt125.1 bt125.2).bind fun bt131 => ((scarfjointref05_Components.f k l0_0 l0_1).bind fun bt135 => (if bt111.2.2 = bt118.2.2 then ((slices_Equal_int_int.f k bt111.1 bt118.1).bind fun t139 => (if t139 = true then ((slices_Equal_int_int.f k bt111.2.1 bt118.2.1).bind fun t140 => (if t140 = true then (if bt131.2 = bt135.2 then ((scarfjointref05_SameParts.f k bt131.1 bt135.1).bind fun t141 => (some t141)) else (none)) else (none))) else (none))) else (none)))))))) else ((scarfjointlaw05_awake.f k).bind fun t104 => (some t104)))) else (none))) = some r := h
 clear h
 replace H := Option.bind_eq_some_iff.mp H
 obtain ⟨t102, A30, H⟩ := H
 replace H : (if t102 = true then ((scarfjointref05_Few.f l0_0 l0_1).bind fun t103 => (if t103 = true then ((scarfjointref05_Copied.f l0_0 l0_1).bind fun bt105 => ((graph_Incident.f k bt105.1 bt105.2 a1).bind fun bt111 => ((scarfjointref05_Incident.f k l0_0 l0_1 a1).bind fun bt118 => ((scarfjointref05_Copied.f l0_0 l0_1).bind fun bt125 => ((graph_Components.f k bt125.1 bt125.2).bind fun bt131 => ((scarfjointref05_Components.f k l0_0 l0_1).bind fun bt135 => (if bt111.2.2 = bt118.2.2 then ((slices_Equal_int_int.f k bt111.1 bt118.1).bind fun t139 => (if t139 = true then ((slices_Equal_int_int.f k bt111.2.1 bt118.2.1).bind fun t140 => (if t140 = true then (if bt131.2 = bt135.2 then ((scarfjointref05_SameParts.f k bt131.1 bt135.1).bind fun t141 => (some t141)) else (none)) else (none))) else (none))) else (none)))))))) else ((scarfjointlaw05_awake.f k).bind fun t104 => (some t104)))) else (none)) = some r := H
 have A3 := Aside0.mk A30
 clear A30
 by_cases c4 : t102 = true
 ·subst c4
  have H1 : ((scarfjointref05_Few.f l0_0 l0_1).bind fun t103 => (if t103 = true then ((scarfjointref05_Copied.f l0_0 l0_1).bind fun bt105 => ((graph_Incident.f k bt105.1 bt105.2 a1).bind fun bt111 => ((scarfjointref05_Incident.f k l0_0 l0_1 a1).bind fun bt118 => ((scarfjointref05_Copied.f l0_0 l0_1).bind fun bt125 => ((graph_Components.f k bt125.1 bt125.2).bind fun bt131 => ((scarfjointref05_Components.f k l0_0 l0_1).bind fun bt135 => (if bt111.2.2 = bt118.2.2 then ((slices_Equal_int_int.f k bt111.1 bt118.1).bind fun t139 => (if t139 = true then ((slices_Equal_int_int.f k bt111.2.1 bt118.2.1).bind fun t140 => (if t140 = true then (if bt131.2 = bt135.2 then ((scarfjointref05_SameParts.f k bt131.1 bt135.1).bind fun t141 => (some t141)) else (none)) else (none))) else (none))) else (none)))))))) else ((scarfjointlaw05_awake.f k).bind fun t104 => (some t104)))) = some r := by rw [if_pos rfl] at H; exact H
  clear H
  have H := H1
  clear H1
  replace H := Option.bind_eq_some_iff.mp H
  obtain ⟨t103, A50, H⟩ := H
  replace H : (if t103 = true then ((scarfjointref05_Copied.f l0_0 l0_1).bind fun bt105 => ((graph_Incident.f k bt105.1 bt105.2 a1).bind fun bt111 => ((scarfjointref05_Incident.f k l0_0 l0_1 a1).bind fun bt118 => ((scarfjointref05_Copied.f l0_0 l0_1).bind fun bt125 => ((graph_Components.f k bt125.1 bt125.2).bind fun bt131 => ((scarfjointref05_Components.f k l0_0 l0_1).bind fun bt135 => (if bt111.2.2 = bt118.2.2 then ((slices_Equal_int_int.f k bt111.1 bt118.1).bind fun t139 => (if t139 = true then ((slices_Equal_int_int.f k bt111.2.1 bt118.2.1).bind fun t140 => (if t140 = true then (if bt131.2 = bt135.2 then ((scarfjointref05_SameParts.f k bt131.1 bt135.1).bind fun t141 => (some t141)) else (none)) else (none))) else (none))) else (none)))))))) else ((scarfjointlaw05_awake.f k).bind fun t104 => (some t104))) = some r := H
  have A5 := Aside0.mk A50
  clear A50
  by_cases c6 : t103 = true
  ·subst c6
   have H1 : ((scarfjointref05_Copied.f l0_0 l0_1).bind fun bt105 => ((graph_Incident.f k bt105.1 bt105.2 a1).bind fun bt111 => ((scarfjointref05_Incident.f k l0_0 l0_1 a1).bind fun bt118 => ((scarfjointref05_Copied.f l0_0 l0_1).bind fun bt125 => ((graph_Components.f k bt125.1 bt125.2).bind fun bt131 => ((scarfjointref05_Components.f k l0_0 l0_1).bind fun bt135 => (if bt111.2.2 = bt118.2.2 then ((slices_Equal_int_int.f k bt111.1 bt118.1).bind fun t139 => (if t139 = true then ((slices_Equal_int_int.f k bt111.2.1 bt118.2.1).bind fun t140 => (if t140 = true then (if bt131.2 = bt135.2 then ((scarfjointref05_SameParts.f k bt131.1 bt135.1).bind fun t141 => (some t141)) else (none)) else (none))) else (none))) else (none)))))))) = some r := by rw [if_pos rfl] at H; exact H
   clear H
   have H := H1
   clear H1
   replace H := Option.bind_eq_some_iff.mp H
   obtain ⟨⟨t105, t108⟩, A70, H⟩ := H
   replace H : ((graph_Incident.f k t105 t108 a1).bind fun bt111 => ((scarfjointref05_Incident.f k l0_0 l0_1 a1).bind fun bt118 => ((scarfjointref05_Copied.f l0_0 l0_1).bind fun bt125 => ((graph_Components.f k bt125.1 bt125.2).bind fun bt131 => ((scarfjointref05_Components.f k l0_0 l0_1).bind fun bt135 => (if bt111.2.2 = bt118.2.2 then ((slices_Equal_int_int.f k bt111.1 bt118.1).bind fun t139 => (if t139 = true then ((slices_Equal_int_int.f k bt111.2.1 bt118.2.1).bind fun t140 => (if t140 = true then (if bt131.2 = bt135.2 then ((scarfjointref05_SameParts.f k bt131.1 bt135.1).bind fun t141 => (some t141)) else (none)) else (none))) else (none))) else (none))))))) = some r := H
   have A7 := Aside0.mk A70
   clear A70
   replace H := Option.bind_eq_some_iff.mp H
   obtain ⟨⟨t111, t114, t117⟩, A80, H⟩ := H
   replace H : ((scarfjointref05_Incident.f k l0_0 l0_1 a1).bind fun bt118 => ((scarfjointref05_Copied.f l0_0 l0_1).bind fun bt125 => ((graph_Components.f k bt125.1 bt125.2).bind fun bt131 => ((scarfjointref05_Components.f k l0_0 l0_1).bind fun bt135 => (if t117 = bt118.2.2 then ((slices_Equal_int_int.f k t111 bt118.1).bind fun t139 => (if t139 = true then ((slices_Equal_int_int.f k t114 bt118.2.1).bind fun t140 => (if t140 = true then (if bt131.2 = bt135.2 then ((scarfjointref05_SameParts.f k bt131.1 bt135.1).bind fun t141 => (some t141)) else (none)) else (none))) else (none))) else (none)))))) = some r := H
   have A8 := Aside0.mk A80
   clear A80
   replace H := Option.bind_eq_some_iff.mp H
   obtain ⟨⟨t118, t121, t124⟩, A90, H⟩ := H
   replace H : ((scarfjointref05_Copied.f l0_0 l0_1).bind fun bt125 => ((graph_Components.f k bt125.1 bt125.2).bind fun bt131 => ((scarfjointref05_Components.f k l0_0 l0_1).bind fun bt135 => (if t117 = t124 then ((slices_Equal_int_int.f k t111 t118).bind fun t139 => (if t139 = true then ((slices_Equal_int_int.f k t114 t121).bind fun t140 => (if t140 = true then (if bt131.2 = bt135.2 then ((scarfjointref05_SameParts.f k bt131.1 bt135.1).bind fun t141 => (some t141)) else (none)) else (none))) else (none))) else (none))))) = some r := H
   have A9 := Aside0.mk A90
   clear A90
   replace H := Option.bind_eq_some_iff.mp H
   obtain ⟨⟨t125, t128⟩, A100, H⟩ := H
   replace H : ((graph_Components.f k t125 t128).bind fun bt131 => ((scarfjointref05_Components.f k l0_0 l0_1).bind fun bt135 => (if t117 = t124 then ((slices_Equal_int_int.f k t111 t118).bind fun t139 => (if t139 = true then ((slices_Equal_int_int.f k t114 t121).bind fun t140 => (if t140 = true then (if bt131.2 = bt135.2 then ((scarfjointref05_SameParts.f k bt131.1 bt135.1).bind fun t141 => (some t141)) else (none)) else (none))) else (none))) else (none)))) = some r := H
   have A10 := Aside0.mk A100
   clear A100
   replace H := Option.bind_eq_some_iff.mp H
   obtain ⟨⟨t131, t134⟩, A110, H⟩ := H
   replace H : ((scarfjointref05_Components.f k l0_0 l0_1).bind fun bt135 => (if t117 = t124 then ((slices_Equal_int_int.f k t111 t118).bind fun t139 => (if t139 = true then ((slices_Equal_int_int.f k t114 t121).bind fun t140 => (if t140 = true then (if t134 = bt135.2 then ((scarfjointref05_SameParts.f k t131 bt135.1).bind fun t141 => (some t141)) else (none)) else (none))) else (none))) else (none))) = some r := H
   have A11 := Aside0.mk A110
   clear A110
   replace H := Option.bind_eq_some_iff.mp H
   obtain ⟨⟨t135, t138⟩, A120, H⟩ := H
   replace H : (if t117 = t124 then ((slices_Equal_int_int.f k t111 t118).bind fun t139 => (if t139 = true then ((slices_Equal_int_int.f k t114 t121).bind fun t140 => (if t140 = true then (if t134 = t138 then ((scarfjointref05_SameParts.f k t131 t135).bind fun t141 => (some t141)) else (none)) else (none))) else (none))) else (none)) = some r := H
   have A12 := Aside0.mk A120
   clear A120
   by_cases c13 : t117 = t124
   ·rw [if_pos c13] at H
    have c13b0 : (t117 == t124) = true := beq_iff_eq.mpr c13
    have c13b1 : (t117 != t124) = false := bne_eq_false_iff_eq.mpr c13
    clear c13
    replace H := Option.bind_eq_some_iff.mp H
    obtain ⟨t139, A140, H⟩ := H
    replace H : (if t139 = true then ((slices_Equal_int_int.f k t114 t121).bind fun t140 => (if t140 = true then (if t134 = t138 then ((scarfjointref05_SameParts.f k t131 t135).bind fun t141 => (some t141)) else (none)) else (none))) else (none)) = some r := H
    have A14 := Aside0.mk A140
    clear A140
    by_cases c15 : t139 = true
    ·subst c15
     have H1 : ((slices_Equal_int_int.f k t114 t121).bind fun t140 => (if t140 = true then (if t134 = t138 then ((scarfjointref05_SameParts.f k t131 t135).bind fun t141 => (some t141)) else (none)) else (none))) = some r := by rw [if_pos rfl] at H; exact H
     clear H
     have H := H1
     clear H1
     replace H := Option.bind_eq_some_iff.mp H
     obtain ⟨t140, A160, H⟩ := H
     replace H : (if t140 = true then (if t134 = t138 then ((scarfjointref05_SameParts.f k t131 t135).bind fun t141 => (some t141)) else (none)) else (none)) = some r := H
     have A16 := Aside0.mk A160
     clear A160
     by_cases c17 : t140 = true
     ·subst c17
      have H1 : (if t134 = t138 then ((scarfjointref05_SameParts.f k t131 t135).bind fun t141 => (some t141)) else (none)) = some r := by rw [if_pos rfl] at H; exact H
      clear H
      have H := H1
      clear H1
      by_cases c18 : t134 = t138
      ·rw [if_pos c18] at H
       have c18b0 : (t134 == t138) = true := beq_iff_eq.mpr c18
       have c18b1 : (t134 != t138) = false := bne_eq_false_iff_eq.mpr c18
       clear c18
       replace H := Option.bind_eq_some_iff.mp H
       obtain ⟨t141, A190, H⟩ := H
       replace H : (some t141) = some r := H
       have A19 := Aside0.mk A190
       clear A190
       obtain rfl := Option.some.inj H
       go_enter Try.func4, Try.ntmps4
       go_wp2_with (first | ((with_reducible refine gate_dst (N := 2) rfl ?_); refine box_event ?hg (N := 2) ?hd (cs := #[.slice A0_0 l0_0.length c0_0, .slice A0_1 l0_1.length c0_1]) (t := 25) ?hr ?_; (case hd => rfl); (case hg => rfl); (case hr => first | (go_simp; done) | (go_simp; rfl)); intro gb101 hg w20 hbox hb; have n0_ := Aside0.mk (wS hB hb); have n1_ := Aside0.mk (hbox); have n2_ := Aside0.mk ((by rw [hg]; exact (below_size hB) : w.heap.size ≤ gb101)); have n3_ := Aside0.mk ((by rw [hg]; exact (below_size hB) : w.heap.size ≤ gb101)); clear HB; have HB := n0_; have BK101 := n1_; have GW101 := n2_; have GE101 := n3_; clear n0_ n1_ n2_ n3_; clear hb hbox hg) | ((with_reducible refine gate_callee (f := 10) rfl ?_); refine goesL_ (some 15) rfl rfl Try.func10 (by kernel_rfl) rfl #[] rfl aM ?_; (with_reducible refine (scarfjointlaw05_awake.calls k  true _ A3.out).mono ?_); rintro e w21 ⟨rfl, hb⟩; refine ⟨_, rfl, ?_⟩; have n0_ := Aside0.mk (bB (g := gb101) (o := .cells #[.slice A0_0 l0_0.length c0_0, .slice A0_1 l0_1.length c0_1] 25 (0, 0)) (by (with_reducible repeat (first | refine bN ?_ _ | refine bD ?_ | refine bA ?_ _)); exact BK101.out) hb); have n1_ := Aside0.mk (wS (by repeat (first | (with_reducible first | exact HB.out | apply wA | apply wN | apply wD | refine below_set ?_ GE101.out) | exact HB.out)) hb); clear BK101; clear HB; have BK101 := n0_; have HB := n1_; clear n0_ n1_; (try clear hb); (try clear hb2); (try clear hk); (try clear hi); have hcz22_0 : w21.cell? ⟨gb101, 0, none⟩ = some (.slice A0_0 l0_0.length c0_0) := (blk_cell BK101.out 0).trans rfl; have hcz22_1 : w21.cell? ⟨gb101, 1, none⟩ = some (.slice A0_1 l0_1.length c0_1) := (blk_cell BK101.out 1).trans rfl; have hfz22_0 := blk_frozen BK101.out 0; have hfz22_1 := blk_frozen BK101.out 1) | (go_at_call 11; (with_reducible refine (scarfjointref05_Few.calls _ _ l0_0 _ _ l0_1 true _ ?side1 ?side2 ?side3 ?side4 A5.out).mono ?_); (case side1 => repeat (first | exact (cB HR0_0.out HB.out) | (with_reducible refine cA ?_ _) | (with_reducible refine cN ?_ _) | (with_reducible refine cD ?_))); (case side2 => exact HC0_0.out); (case side3 => repeat (first | exact (cB HR0_1.out HB.out) | (with_reducible refine cA ?_ _) | (with_reducible refine cN ?_ _) | (with_reducible refine cD ?_))); (case side4 => exact HC0_1.out); rintro e w23 ⟨rfl, hb⟩; have n0_ := Aside0.mk (bB (g := gb101) (o := .cells #[.slice A0_0 l0_0.length c0_0, .slice A0_1 l0_1.length c0_1] 25 (0, 0)) (by (with_reducible repeat (first | refine bN ?_ _ | refine bD ?_ | refine bA ?_ _)); exact BK101.out) hb); have n1_ := Aside0.mk (wS (by repeat (first | (with_reducible first | exact HB.out | apply wA | apply wN | apply wD | refine below_set ?_ GE101.out) | exact HB.out)) hb); clear BK101; clear HB; have BK101 := n0_; have HB := n1_; clear n0_ n1_; (try clear hb); (try clear hb2); (try clear hk); (try clear hi); have hcz24_0 : w23.cell? ⟨gb101, 0, none⟩ = some (.slice A0_0 l0_0.length c0_0) := (blk_cell BK101.out 0).trans rfl; have hcz24_1 : w23.cell? ⟨gb101, 1, none⟩ = some (.slice A0_1 l0_1.length c0_1) := (blk_cell BK101.out 1).trans rfl; have hfz24_0 := blk_frozen BK101.out 0; have hfz24_1 := blk_frozen BK101.out 1) | ((with_reducible refine gate_callee (f := 13) rfl ?_); refine goesL_ (some 25) rfl rfl Try.func13 (by kernel_rfl) rfl #[.agg #[.slice A0_0 l0_0.length c0_0, .slice A0_1 l0_1.length c0_1]] rfl aM ?_; (with_reducible refine (scarfjointref05_Copied.calls _ _ l0_0 _ _ l0_1 t105 t108 _ ?side1 ?side2 ?side3 ?side4 A7.out).mono ?_); (case side1 => repeat (first | exact (cB HR0_0.out HB.out) | (with_reducible refine cA ?_ _) | (with_reducible refine cN ?_ _) | (with_reducible refine cD ?_))); (case side2 => exact HC0_0.out); (case side3 => repeat (first | exact (cB HR0_1.out HB.out) | (with_reducible refine cA ?_ _) | (with_reducible refine cN ?_ _) | (with_reducible refine cD ?_))); (case side4 => exact HC0_1.out); rintro e w25 ⟨v106, v109, rfl, ho0, ho1, hb⟩; refine ⟨_, rfl, ?_⟩; have n0_ := Aside0.mk (Kd.R_lower ho0 (below_size (by repeat (first | (with_reducible first | exact HB.out | apply wA | apply wN | apply wD | refine below_set ?_ GE101.out) | exact HB.out)))); have n1_ := Aside0.mk (Kd.R_lower ho1 (below_size (by repeat (first | (with_reducible first | exact HB.out | apply wA | apply wN | apply wD | refine below_set ?_ GE101.out) | exact HB.out)))); have n2_ := Aside0.mk (bB (g := gb101) (o := .cells #[.slice A0_0 l0_0.length c0_0, .slice A0_1 l0_1.length c0_1] 25 (0, 0)) (by (with_reducible repeat (first | refine bN ?_ _ | refine bD ?_ | refine bA ?_ _)); exact BK101.out) hb); have n3_ := Aside0.mk (wS (by repeat (first | (with_reducible first | exact HB.out | apply wA | apply wN | apply wD | refine below_set ?_ GE101.out) | exact HB.out)) hb); clear BK101; clear HB; have HO107 := n0_; have HO110 := n1_; have BK101 := n2_; have HB := n3_; clear n0_ n1_ n2_ n3_; (try clear hb); (try clear hb2); (try clear hk); (try clear hi); (try clear ho0); (try clear ho1); obtain ⟨Ao26, co26, eo26⟩ := Kd.R_slice HO107.out; subst eo26; obtain ⟨Ao27, co27, eo27⟩ := Kd.R_slice HO110.out; subst eo27) | ((with_reducible refine gate_callee (f := 18) rfl ?_); refine goesL_ (some 27) rfl rfl Try.func18 (by kernel_rfl) rfl #[.agg #[.slice Ao26 t105.length co26, .slice Ao27 t108.length co27], .int .i64 a1] rfl aM ?_; (with_reducible refine (graph_Incident.calls k _ _ t105 _ _ t108 a1 t111 t114 t117 _ ?side1 ?side2 ?side3 ?side4 A8.out).mono ?_); (case side1 => repeat (first | exact (Kd.R_reads' HO107.out).2.2 | (with_reducible refine cA ?_ _) | (with_reducible refine cN ?_ _) | (with_reducible refine cD ?_))); (case side2 => exact (Kd.R_reads' HO107.out).2.1); (case side3 => repeat (first | exact (Kd.R_reads' HO110.out).2.2 | (with_reducible refine cA ?_ _) | (with_reducible refine cN ?_ _) | (with_reducible refine cD ?_))); (case side4 => exact (Kd.R_reads' HO110.out).2.1); rintro e w28 ⟨v112, v115, rfl, ho0, ho1, hb⟩; refine ⟨_, rfl, ?_⟩; have n0_ := Aside0.mk (Kd.R_mono (Kd.R_told (Kd.R_told (Kd.R_old (by (with_reducible repeat (first | apply rA | apply rN | apply rD)); exact HO107.out) hb) (Kd.R_base ho0)) (Kd.R_base ho1)) (fun _ h_ => h_.1)); have n1_ := Aside0.mk (rB (by (with_reducible repeat (first | apply rA | apply rN | apply rD)); exact HO110.out) hb); have n2_ := Aside0.mk (Kd.R_lower (Kd.R_new' ho0 (Kd.R_lt (by (with_reducible repeat (first | apply rA | apply rN | apply rD)); exact HO107.out))) (below_size (by repeat (first | (with_reducible first | exact HB.out | apply wA | apply wN | apply wD | refine below_set ?_ GE101.out) | exact HB.out)))); have n3_ := Aside0.mk (Kd.R_lower (Kd.R_new' ho1 (Kd.R_lt (by (with_reducible repeat (first | apply rA | apply rN | apply rD)); exact HO107.out))) (below_size (by repeat (first | (with_reducible first | exact HB.out | apply wA | apply wN | apply wD | refine below_set ?_ GE101.out) | exact HB.out)))); have n4_ := Aside0.mk (bB (g := gb101) (o := .cells #[.slice A0_0 l0_0.length c0_0, .slice A0_1 l0_1.length c0_1] 25 (0, 0)) (by (with_reducible repeat (first | refine bN ?_ _ | refine bD ?_ | refine bA ?_ _)); exact BK101.out) hb); have n5_ := Aside0.mk (wS (by repeat (first | (with_reducible first | exact HB.out | apply wA | apply wN | apply wD | refine below_set ?_ GE101.out) | exact HB.out)) hb); clear HO107; clear HO110; clear BK101; clear HB; have HO107 := n0_; have HO110 := n1_; have HO113 := n2_; have HO116 := n3_; have BK101 := n4_; have HB := n5_; clear n0_ n1_ n2_ n3_ n4_ n5_; (try clear hb); (try clear hb2); (try clear hk); (try clear hi); (try clear ho0); (try clear ho1); have hcz29_0 : w28.cell? ⟨gb101, 0, none⟩ = some (.slice A0_0 l0_0.length c0_0) := (blk_cell BK101.out 0).trans rfl; have hcz29_1 : w28.cell? ⟨gb101, 1, none⟩ = some (.slice A0_1 l0_1.length c0_1) := (blk_cell BK101.out 1).trans rfl; have hfz29_0 := blk_frozen BK101.out 0; have hfz29_1 := blk_frozen BK101.out 1) | ((with_reducible refine gate_callee (f := 19) rfl ?_); refine goesL_ (some 34) rfl rfl Try.func19 (by kernel_rfl) rfl #[.agg #[.slice A0_0 l0_0.length c0_0, .slice A0_1 l0_1.length c0_1], .int .i64 a1] rfl aM ?_; (with_reducible refine (scarfjointref05_Incident.calls k _ _ l0_0 _ _ l0_1 a1 t118 t121 t124 _ ?side1 ?side2 ?side3 ?side4 A9.out).mono ?_); (case side1 => repeat (first | exact (cB HR0_0.out HB.out) | (with_reducible refine cA ?_ _) | (with_reducible refine cN ?_ _) | (with_reducible refine cD ?_))); (case side2 => exact HC0_0.out); (case side3 => repeat (first | exact (cB HR0_1.out HB.out) | (with_reducible refine cA ?_ _) | (with_reducible refine cN ?_ _) | (with_reducible refine cD ?_))); (case side4 => exact HC0_1.out); rintro e w30 ⟨v119, v122, rfl, ho0, ho1, hb⟩; refine ⟨_, rfl, ?_⟩; have n0_ := Aside0.mk (Kd.R_mono (Kd.R_told (Kd.R_told (Kd.R_old (by (with_reducible repeat (first | apply rA | apply rN | apply rD)); exact HO107.out) hb) (Kd.R_base ho0)) (Kd.R_base ho1)) (fun _ h_ => h_.1)); have n1_ := Aside0.mk (rB (by (with_reducible repeat (first | apply rA | apply rN | apply rD)); exact HO110.out) hb); have n2_ := Aside0.mk (Kd.R_mono (Kd.R_told (Kd.R_told (Kd.R_old (by (with_reducible repeat (first | apply rA | apply rN | apply rD)); exact HO113.out) hb) (Kd.R_base ho0)) (Kd.R_base ho1)) (fun _ h_ => h_.1)); have n3_ := Aside0.mk (Kd.R_mono (Kd.R_told (Kd.R_told (Kd.R_old (by (with_reducible repeat (first | apply rA | apply rN | apply rD)); exact HO116.out) hb) (Kd.R_base ho0)) (Kd.R_base ho1)) (fun _ h_ => h_.1)); have n4_ := Aside0.mk (Kd.R_lower (Kd.R_new' (Kd.R_new' (Kd.R_new' ho0 (Kd.R_lt (by (with_reducible repeat (first | apply rA | apply rN | apply rD)); exact HO107.out))) (Kd.R_lt (by (with_reducible repeat (first | apply rA | apply rN | apply rD)); exact HO113.out))) (Kd.R_lt (by (with_reducible repeat (first | apply rA | apply rN | apply rD)); exact HO116.out))) (below_size (by repeat (first | (with_reducible first | exact HB.out | apply wA | apply wN | apply wD | refine below_set ?_ GE101.out) | exact HB.out)))); have n5_ := Aside0.mk (Kd.R_lower (Kd.R_new' (Kd.R_new' (Kd.R_new' ho1 (Kd.R_lt (by (with_reducible repeat (first | apply rA | apply rN | apply rD)); exact HO107.out))) (Kd.R_lt (by (with_reducible repeat (first | apply rA | apply rN | apply rD)); exact HO113.out))) (Kd.R_lt (by (with_reducible repeat (first | apply rA | apply rN | apply rD)); exact HO116.out))) (below_size (by repeat (first | (with_reducible first | exact HB.out | apply wA | apply wN | apply wD | refine below_set ?_ GE101.out) | exact HB.out)))); have n6_ := Aside0.mk (bB (g := gb101) (o := .cells #[.slice A0_0 l0_0.length c0_0, .slice A0_1 l0_1.length c0_1] 25 (0, 0)) (by (with_reducible repeat (first | refine bN ?_ _ | refine bD ?_ | refine bA ?_ _)); exact BK101.out) hb); have n7_ := Aside0.mk (wS (by repeat (first | (with_reducible first | exact HB.out | apply wA | apply wN | apply wD | refine below_set ?_ GE101.out) | exact HB.out)) hb); clear HO107; clear HO110; clear HO113; clear HO116; clear BK101; clear HB; have HO107 := n0_; have HO110 := n1_; have HO113 := n2_; have HO116 := n3_; have HO120 := n4_; have HO123 := n5_; have BK101 := n6_; have HB := n7_; clear n0_ n1_ n2_ n3_ n4_ n5_ n6_ n7_; (try clear hb); (try clear hb2); (try clear hk); (try clear hi); (try clear ho0); (try clear ho1); have hcz31_0 : w30.cell? ⟨gb101, 0, none⟩ = some (.slice A0_0 l0_0.length c0_0) := (blk_cell BK101.out 0).trans rfl; have hcz31_1 : w30.cell? ⟨gb101, 1, none⟩ = some (.slice A0_1 l0_1.length c0_1) := (blk_cell BK101.out 1).trans rfl; have hfz31_0 := blk_frozen BK101.out 0; have hfz31_1 := blk_frozen BK101.out 1) | ((with_reducible refine gate_callee (f := 13) rfl ?_); refine goesL_ (some 40) rfl rfl Try.func13 (by kernel_rfl) rfl #[.agg #[.slice A0_0 l0_0.length c0_0, .slice A0_1 l0_1.length c0_1]] rfl aM ?_; (with_reducible refine (scarfjointref05_Copied.calls _ _ l0_0 _ _ l0_1 t125 t128 _ ?side1 ?side2 ?side3 ?side4 A10.out).mono ?_); (case side1 => repeat (first | exact (cB HR0_0.out HB.out) | (with_reducible refine cA ?_ _) | (with_reducible refine cN ?_ _) | (with_reducible refine cD ?_))); (case side2 => exact HC0_0.out); (case side3 => repeat (first | exact (cB HR0_1.out HB.out) | (with_reducible refine cA ?_ _) | (with_reducible refine cN ?_ _) | (with_reducible refine cD ?_))); (case side4 => exact HC0_1.out); rintro e w32 ⟨v126, v129, rfl, ho0, ho1, hb⟩; refine ⟨_, rfl, ?_⟩; have n0_ := Aside0.mk (Kd.R_elder' (by (with_reducible repeat (first | apply rA | apply rN | apply rD)); exact HO107.out) (Kd.R_base ho0) hb); have n1_ := Aside0.mk (Kd.R_elder' (by (with_reducible repeat (first | apply rA | apply rN | apply rD)); exact HO110.out) (Kd.R_base ho1) hb); have n2_ := Aside0.mk (Kd.R_elder' (by (with_reducible repeat (first | apply rA | apply rN | apply rD)); exact HO113.out) (Kd.R_base ho0) hb); have n3_ := Aside0.mk (Kd.R_elder' (by (with_reducible repeat (first | apply rA | apply rN | apply rD)); exact HO116.out) (Kd.R_base ho0) hb); have n4_ := Aside0.mk (Kd.R_elder' (by (with_reducible repeat (first | apply rA | apply rN | apply rD)); exact HO120.out) (Kd.R_base ho0) hb); have n5_ := Aside0.mk (Kd.R_elder' (by (with_reducible repeat (first | apply rA | apply rN | apply rD)); exact HO123.out) (Kd.R_base ho0) hb); have n6_ := Aside0.mk (Kd.R_lower (Kd.R_new' (Kd.R_new' (Kd.R_new' (Kd.R_new' (Kd.R_new' ho0 (Kd.R_lt (by (with_reducible repeat (first | apply rA | apply rN | apply rD)); exact HO107.out))) (Kd.R_lt (by (with_reducible repeat (first | apply rA | apply rN | apply rD)); exact HO113.out))) (Kd.R_lt (by (with_reducible repeat (first | apply rA | apply rN | apply rD)); exact HO116.out))) (Kd.R_lt (by (with_reducible repeat (first | apply rA | apply rN | apply rD)); exact HO120.out))) (Kd.R_lt (by (with_reducible repeat (first | apply rA | apply rN | apply rD)); exact HO123.out))) (below_size (by repeat (first | (with_reducible first | exact HB.out | apply wA | apply wN | apply wD | refine below_set ?_ GE101.out) | exact HB.out)))); have n7_ := Aside0.mk (Kd.R_lower (Kd.R_new' ho1 (Kd.R_lt (by (with_reducible repeat (first | apply rA | apply rN | apply rD)); exact HO110.out))) (below_size (by repeat (first | (with_reducible first | exact HB.out | apply wA | apply wN | apply wD | refine below_set ?_ GE101.out) | exact HB.out)))); have n8_ := Aside0.mk (bB (g := gb101) (o := .cells #[.slice A0_0 l0_0.length c0_0, .slice A0_1 l0_1.length c0_1] 25 (0, 0)) (by (with_reducible repeat (first | refine bN ?_ _ | refine bD ?_ | refine bA ?_ _)); exact BK101.out) hb); have n9_ := Aside0.mk (wS (by repeat (first | (with_reducible first | exact HB.out | apply wA | apply wN | apply wD | refine below_set ?_ GE101.out) | exact HB.out)) hb); clear HO107; clear HO110; clear HO113; clear HO116; clear HO120; clear HO123; clear BK101; clear HB; have HO107 := n0_; have HO110 := n1_; have HO113 := n2_; have HO116 := n3_; have HO120 := n4_; have HO123 := n5_; have HO127 := n6_; have HO130 := n7_; have BK101 := n8_; have HB := n9_; clear n0_ n1_ n2_ n3_ n4_ n5_ n6_ n7_ n8_ n9_; (try clear hb); (try clear hb2); (try clear hk); (try clear hi); (try clear ho0); (try clear ho1); obtain ⟨Ao33, co33, eo33⟩ := Kd.R_slice HO127.out; subst eo33; obtain ⟨Ao34, co34, eo34⟩ := Kd.R_slice HO130.out; subst eo34) | ((with_reducible refine gate_callee (f := 20) rfl ?_); refine goesL_ (some 41) rfl rfl Try.func20 (by kernel_rfl) rfl #[.agg #[.slice Ao33 t125.length co33, .slice Ao34 t128.length co34]] rfl aM ?_; (with_reducible refine (graph_Components.calls k _ _ t125 _ _ t128 t131 t134 _ ?side1 ?side2 ?side3 ?side4 A11.out).mono ?_); (case side1 => repeat (first | exact (Kd.R_reads' HO127.out).2.2 | (with_reducible refine cA ?_ _) | (with_reducible refine cN ?_ _) | (with_reducible refine cD ?_))); (case side2 => exact (Kd.R_reads' HO127.out).2.1); (case side3 => repeat (first | exact (Kd.R_reads' HO130.out).2.2 | (with_reducible refine cA ?_ _) | (with_reducible refine cN ?_ _) | (with_reducible refine cD ?_))); (case side4 => exact (Kd.R_reads' HO130.out).2.1); rintro e w35 ⟨v132, rfl, ho0, hb⟩; refine ⟨_, rfl, ?_⟩; have n0_ := Aside0.mk (rB (by (with_reducible repeat (first | apply rA | apply rN | apply rD)); exact HO107.out) hb); have n1_ := Aside0.mk (rB (by (with_reducible repeat (first | apply rA | apply rN | apply rD)); exact HO110.out) hb); have n2_ := Aside0.mk (rB (by (with_reducible repeat (first | apply rA | apply rN | apply rD)); exact HO113.out) hb); have n3_ := Aside0.mk (rB (by (with_reducible repeat (first | apply rA | apply rN | apply rD)); exact HO116.out) hb); have n4_ := Aside0.mk (rB (by (with_reducible repeat (first | apply rA | apply rN | apply rD)); exact HO120.out) hb); have n5_ := Aside0.mk (rB (by (with_reducible repeat (first | apply rA | apply rN | apply rD)); exact HO123.out) hb); have n6_ := Aside0.mk (rB (by (with_reducible repeat (first | apply rA | apply rN | apply rD)); exact HO127.out) hb); have n7_ := Aside0.mk (rB (by (with_reducible repeat (first | apply rA | apply rN | apply rD)); exact HO130.out) hb); have n8_ := Aside0.mk (Kd.S_lower (Kd.S_new' (Kd.S_new' (Kd.S_new' (Kd.S_new' (Kd.S_new' (Kd.S_new' ho0 (Kd.R_lt (by (with_reducible repeat (first | apply rA | apply rN | apply rD)); exact HO107.out))) (Kd.R_lt (by (with_reducible repeat (first | apply rA | apply rN | apply rD)); exact HO113.out))) (Kd.R_lt (by (with_reducible repeat (first | apply rA | apply rN | apply rD)); exact HO116.out))) (Kd.R_lt (by (with_reducible repeat (first | apply rA | apply rN | apply rD)); exact HO120.out))) (Kd.R_lt (by (with_reducible repeat (first | apply rA | apply rN | apply rD)); exact HO123.out))) (Kd.R_lt (by (with_reducible repeat (first | apply rA | apply rN | apply rD)); exact HO127.out))) (below_size (by repeat (first | (with_reducible first | exact HB.out | apply wA | apply wN | apply wD | refine below_set ?_ GE101.out) | exact HB.out)))); have n9_ := Aside0.mk (bB (g := gb101) (o := .cells #[.slice A0_0 l0_0.length c0_0, .slice A0_1 l0_1.length c0_1] 25 (0, 0)) (by (with_reducible repeat (first | refine bN ?_ _ | refine bD ?_ | refine bA ?_ _)); exact BK101.out) hb); have n10_ := Aside0.mk (wS (by repeat (first | (with_reducible first | exact HB.out | apply wA | apply wN | apply wD | refine below_set ?_ GE101.out) | exact HB.out)) hb); clear HO107; clear HO110; clear HO113; clear HO116; clear HO120; clear HO123; clear HO127; clear HO130; clear BK101; clear HB; have HO107 := n0_; have HO110 := n1_; have HO113 := n2_; have HO116 := n3_; have HO120 := n4_; have HO123 := n5_; have HO127 := n6_; have HO130 := n7_; have HO133 := n8_; have BK101 := n9_; have HB := n10_; clear n0_ n1_ n2_ n3_ n4_ n5_ n6_ n7_ n8_ n9_ n10_; (try clear hb); (try clear hb2); (try clear hk); (try clear hi); (try clear ho0); have hcz36_0 : w35.cell? ⟨gb101, 0, none⟩ = some (.slice A0_0 l0_0.length c0_0) := (blk_cell BK101.out 0).trans rfl; have hcz36_1 : w35.cell? ⟨gb101, 1, none⟩ = some (.slice A0_1 l0_1.length c0_1) := (blk_cell BK101.out 1).trans rfl; have hfz36_0 := blk_frozen BK101.out 0; have hfz36_1 := blk_frozen BK101.out 1) | ((with_reducible refine gate_callee (f := 21) rfl ?_); refine goesL_ (some 46) rfl rfl Try.func21 (by kernel_rfl) rfl #[.agg #[.slice A0_0 l0_0.length c0_0, .slice A0_1 l0_1.length c0_1]] rfl aM ?_; (with_reducible refine (scarfjointref05_Components.calls k _ _ l0_0 _ _ l0_1 t135 t138 _ ?side1 ?side2 ?side3 ?side4 A12.out).mono ?_); (case side1 => repeat (first | exact (cB HR0_0.out HB.out) | (with_reducible refine cA ?_ _) | (with_reducible refine cN ?_ _) | (with_reducible refine cD ?_))); (case side2 => exact HC0_0.out); (case side3 => repeat (first | exact (cB HR0_1.out HB.out) | (with_reducible refine cA ?_ _) | (with_reducible refine cN ?_ _) | (with_reducible refine cD ?_))); (case side4 => exact HC0_1.out); rintro e w37 ⟨v136, rfl, ho0, hb⟩; refine ⟨_, rfl, ?_⟩; have n0_ := Aside0.mk (rB (by (with_reducible repeat (first | apply rA | apply rN | apply rD)); exact HO107.out) hb); have n1_ := Aside0.mk (rB (by (with_reducible repeat (first | apply rA | apply rN | apply rD)); exact HO110.out) hb); have n2_ := Aside0.mk (rB (by (with_reducible repeat (first | apply rA | apply rN | apply rD)); exact HO113.out) hb); have n3_ := Aside0.mk (rB (by (with_reducible repeat (first | apply rA | apply rN | apply rD)); exact HO116.out) hb); have n4_ := Aside0.mk (rB (by (with_reducible repeat (first | apply rA | apply rN | apply rD)); exact HO120.out) hb); have n5_ := Aside0.mk (rB (by (with_reducible repeat (first | apply rA | apply rN | apply rD)); exact HO123.out) hb); have n6_ := Aside0.mk (rB (by (with_reducible repeat (first | apply rA | apply rN | apply rD)); exact HO127.out) hb); have n7_ := Aside0.mk (rB (by (with_reducible repeat (first | apply rA | apply rN | apply rD)); exact HO130.out) hb); have n8_ := Aside0.mk (Kd.S_elder' (by (with_reducible repeat (first | apply Kd.S_alloc | apply Kd.S_drewN | apply Kd.S_drew)); exact HO133.out) (Kd.S_base ho0) hb); have n9_ := Aside0.mk (Kd.S_lower (Kd.S_new' (Kd.S_new' (Kd.S_new' (Kd.S_new' (Kd.S_new' (Kd.S_new' (Kd.S_new' ho0 (Kd.R_lt (by (with_reducible repeat (first | apply rA | apply rN | apply rD)); exact HO107.out))) (Kd.R_lt (by (with_reducible repeat (first | apply rA | apply rN | apply rD)); exact HO113.out))) (Kd.R_lt (by (with_reducible repeat (first | apply rA | apply rN | apply rD)); exact HO116.out))) (Kd.R_lt (by (with_reducible repeat (first | apply rA | apply rN | apply rD)); exact HO120.out))) (Kd.R_lt (by (with_reducible repeat (first | apply rA | apply rN | apply rD)); exact HO123.out))) (Kd.R_lt (by (with_reducible repeat (first | apply rA | apply rN | apply rD)); exact HO127.out))) (Kd.S_lt (by (with_reducible repeat (first | apply Kd.S_alloc | apply Kd.S_drewN | apply Kd.S_drew)); exact HO133.out))) (below_size (by repeat (first | (with_reducible first | exact HB.out | apply wA | apply wN | apply wD | refine below_set ?_ GE101.out) | exact HB.out)))); have n10_ := Aside0.mk (bB (g := gb101) (o := .cells #[.slice A0_0 l0_0.length c0_0, .slice A0_1 l0_1.length c0_1] 25 (0, 0)) (by (with_reducible repeat (first | refine bN ?_ _ | refine bD ?_ | refine bA ?_ _)); exact BK101.out) hb); have n11_ := Aside0.mk (wS (by repeat (first | (with_reducible first | exact HB.out | apply wA | apply wN | apply wD | refine below_set ?_ GE101.out) | exact HB.out)) hb); clear HO107; clear HO110; clear HO113; clear HO116; clear HO120; clear HO123; clear HO127; clear HO130; clear HO133; clear BK101; clear HB; have HO107 := n0_; have HO110 := n1_; have HO113 := n2_; have HO116 := n3_; have HO120 := n4_; have HO123 := n5_; have HO127 := n6_; have HO130 := n7_; have HO133 := n8_; have HO137 := n9_; have BK101 := n10_; have HB := n11_; clear n0_ n1_ n2_ n3_ n4_ n5_ n6_ n7_ n8_ n9_ n10_ n11_; (try clear hb); (try clear hb2); (try clear hk); (try clear hi); (try clear ho0); obtain ⟨Ao38, co38, eo38⟩ := Kd.R_slice HO113.out; subst eo38; obtain ⟨Ao39, co39, eo39⟩ := Kd.R_slice HO120.out; subst eo39) | (go_at_call 22; (with_reducible refine (slices_Equal_int_int.calls k _ _ t111 _ _ t118 true _ ?side1 ?side2 ?side3 ?side4 A14.out).mono ?_); (case side1 => repeat (first | exact (Kd.R_reads' HO113.out).2.2 | (with_reducible refine cA ?_ _) | (with_reducible refine cN ?_ _) | (with_reducible refine cD ?_))); (case side2 => exact (Kd.R_reads' HO113.out).2.1); (case side3 => repeat (first | exact (Kd.R_reads' HO120.out).2.2 | (with_reducible refine cA ?_ _) | (with_reducible refine cN ?_ _) | (with_reducible refine cD ?_))); (case side4 => exact (Kd.R_reads' HO120.out).2.1); rintro e w' ⟨rfl, ⟨nd, rfl⟩⟩; obtain ⟨Ao40, co40, eo40⟩ := Kd.R_slice HO116.out; subst eo40; obtain ⟨Ao41, co41, eo41⟩ := Kd.R_slice HO123.out; subst eo41) | (go_at_call 22; (with_reducible refine (slices_Equal_int_int.calls k _ _ t114 _ _ t121 true _ ?side1 ?side2 ?side3 ?side4 A16.out).mono ?_); (case side1 => repeat (first | exact (Kd.R_reads' HO116.out).2.2 | (with_reducible refine cA ?_ _) | (with_reducible refine cN ?_ _) | (with_reducible refine cD ?_))); (case side2 => exact (Kd.R_reads' HO116.out).2.1); (case side3 => repeat (first | exact (Kd.R_reads' HO123.out).2.2 | (with_reducible refine cA ?_ _) | (with_reducible refine cN ?_ _) | (with_reducible refine cD ?_))); (case side4 => exact (Kd.R_reads' HO123.out).2.1); rintro e w' ⟨rfl, ⟨nd, rfl⟩⟩; obtain ⟨Ao42, co42, eo42⟩ := Kd.S_slice HO133.out; subst eo42; obtain ⟨Ao43, co43, eo43⟩ := Kd.S_slice HO137.out; subst eo43) | (go_at_call 23; (with_reducible refine (scarfjointref05_SameParts.calls k _ _ t131 _ _ t135 t141 _ ?side1 ?side2 ?side3 ?side4 A19.out).mono ?_); (case side1 => repeat (first | exact (Kd.S_reads' HO133.out).2.2 | (with_reducible refine cA ?_ _) | (with_reducible refine cN ?_ _) | (with_reducible refine cD ?_))); (case side2 => exact (Kd.S_reads' HO133.out).2.1); (case side3 => repeat (first | exact (Kd.S_reads' HO137.out).2.2 | (with_reducible refine cA ?_ _) | (with_reducible refine cN ?_ _) | (with_reducible refine cD ?_))); (case side4 => exact (Kd.S_reads' HO137.out).2.1); rintro e w' ⟨rfl, ⟨nd, rfl⟩⟩))
       go_ret
       exact ⟨by first | rfl | (simp [errW_none, errW_some] <;> rfl) | (simp [*, errW_none, errW_some] <;> rfl), by repeat (first | (with_reducible first | exact HB.out | apply wA | apply wN | apply wD | refine below_set ?_ GE101.out) | exact HB.out)⟩
      ·rw [if_neg c18] at H
       exact absurd H (by simp)
     ·replace c17 := Bool.eq_false_iff.mpr c17
      subst c17
      have H1 : (none) = some r := by rw [if_neg (show ¬ (false = true) by decide)] at H; exact H
      clear H
      have H := H1
      clear H1
      exact absurd H (by simp)
    ·replace c15 := Bool.eq_false_iff.mpr c15
     subst c15
     have H1 : (none) = some r := by rw [if_neg (show ¬ (false = true) by decide)] at H; exact H
     clear H
     have H := H1
     clear H1
     exact absurd H (by simp)
   ·rw [if_neg c13] at H
    exact absurd H (by simp)
  ·replace c6 := Bool.eq_false_iff.mpr c6
   subst c6
   have H1 : ((scarfjointlaw05_awake.f k).bind fun t104 => (some t104)) = some r := by rw [if_neg (show ¬ (false = true) by decide)] at H; exact H
   clear H
   have H := H1
   clear H1
   replace H := Option.bind_eq_some_iff.mp H
   obtain ⟨t104, A440, H⟩ := H
   replace H : (some t104) = some r := H
   have A44 := Aside0.mk A440
   clear A440
   obtain rfl := Option.some.inj H
   go_enter Try.func4, Try.ntmps4
   go_wp2_with (first | ((with_reducible refine gate_dst (N := 2) rfl ?_); refine box_event ?hg (N := 2) ?hd (cs := #[.slice A0_0 l0_0.length c0_0, .slice A0_1 l0_1.length c0_1]) (t := 25) ?hr ?_; (case hd => rfl); (case hg => rfl); (case hr => first | (go_simp; done) | (go_simp; rfl)); intro gb101 hg w45 hbox hb; have n0_ := Aside0.mk (wS hB hb); have n1_ := Aside0.mk (hbox); have n2_ := Aside0.mk ((by rw [hg]; exact (below_size hB) : w.heap.size ≤ gb101)); have n3_ := Aside0.mk ((by rw [hg]; exact (below_size hB) : w.heap.size ≤ gb101)); clear HB; have HB := n0_; have BK101 := n1_; have GW101 := n2_; have GE101 := n3_; clear n0_ n1_ n2_ n3_; clear hb hbox hg) | ((with_reducible refine gate_callee (f := 10) rfl ?_); refine goesL_ (some 15) rfl rfl Try.func10 (by kernel_rfl) rfl #[] rfl aM ?_; (with_reducible refine (scarfjointlaw05_awake.calls k  true _ A3.out).mono ?_); rintro e w46 ⟨rfl, hb⟩; refine ⟨_, rfl, ?_⟩; have n0_ := Aside0.mk (bB (g := gb101) (o := .cells #[.slice A0_0 l0_0.length c0_0, .slice A0_1 l0_1.length c0_1] 25 (0, 0)) (by (with_reducible repeat (first | refine bN ?_ _ | refine bD ?_ | refine bA ?_ _)); exact BK101.out) hb); have n1_ := Aside0.mk (wS (by repeat (first | (with_reducible first | exact HB.out | apply wA | apply wN | apply wD | refine below_set ?_ GE101.out) | exact HB.out)) hb); clear BK101; clear HB; have BK101 := n0_; have HB := n1_; clear n0_ n1_; (try clear hb); (try clear hb2); (try clear hk); (try clear hi); have hcz47_0 : w46.cell? ⟨gb101, 0, none⟩ = some (.slice A0_0 l0_0.length c0_0) := (blk_cell BK101.out 0).trans rfl; have hcz47_1 : w46.cell? ⟨gb101, 1, none⟩ = some (.slice A0_1 l0_1.length c0_1) := (blk_cell BK101.out 1).trans rfl; have hfz47_0 := blk_frozen BK101.out 0; have hfz47_1 := blk_frozen BK101.out 1) | (go_at_call 11; (with_reducible refine (scarfjointref05_Few.calls _ _ l0_0 _ _ l0_1 false _ ?side1 ?side2 ?side3 ?side4 A5.out).mono ?_); (case side1 => repeat (first | exact (cB HR0_0.out HB.out) | (with_reducible refine cA ?_ _) | (with_reducible refine cN ?_ _) | (with_reducible refine cD ?_))); (case side2 => exact HC0_0.out); (case side3 => repeat (first | exact (cB HR0_1.out HB.out) | (with_reducible refine cA ?_ _) | (with_reducible refine cN ?_ _) | (with_reducible refine cD ?_))); (case side4 => exact HC0_1.out); rintro e w48 ⟨rfl, hb⟩; have n0_ := Aside0.mk (bB (g := gb101) (o := .cells #[.slice A0_0 l0_0.length c0_0, .slice A0_1 l0_1.length c0_1] 25 (0, 0)) (by (with_reducible repeat (first | refine bN ?_ _ | refine bD ?_ | refine bA ?_ _)); exact BK101.out) hb); have n1_ := Aside0.mk (wS (by repeat (first | (with_reducible first | exact HB.out | apply wA | apply wN | apply wD | refine below_set ?_ GE101.out) | exact HB.out)) hb); clear BK101; clear HB; have BK101 := n0_; have HB := n1_; clear n0_ n1_; (try clear hb); (try clear hb2); (try clear hk); (try clear hi)) | ((with_reducible refine gate_callee (f := 10) rfl ?_); refine goesL_ (some 22) rfl rfl Try.func10 (by kernel_rfl) rfl #[] rfl aM ?_; (with_reducible refine (scarfjointlaw05_awake.calls k  t104 _ A44.out).mono ?_); rintro e w49 ⟨rfl, hb⟩; refine ⟨_, rfl, ?_⟩; have n0_ := Aside0.mk (bB (g := gb101) (o := .cells #[.slice A0_0 l0_0.length c0_0, .slice A0_1 l0_1.length c0_1] 25 (0, 0)) (by (with_reducible repeat (first | refine bN ?_ _ | refine bD ?_ | refine bA ?_ _)); exact BK101.out) hb); have n1_ := Aside0.mk (wS (by repeat (first | (with_reducible first | exact HB.out | apply wA | apply wN | apply wD | refine below_set ?_ GE101.out) | exact HB.out)) hb); clear BK101; clear HB; have BK101 := n0_; have HB := n1_; clear n0_ n1_; (try clear hb); (try clear hb2); (try clear hk); (try clear hi)))
   go_ret
   exact ⟨by first | rfl | (simp [errW_none, errW_some] <;> rfl) | (simp [*, errW_none, errW_some] <;> rfl), by repeat (first | (with_reducible first | exact HB.out | apply wA | apply wN | apply wD | refine below_set ?_ GE101.out) | exact HB.out)⟩
 ·replace c4 := Bool.eq_false_iff.mpr c4
  subst c4
  have H1 : (none) = some r := by rw [if_neg (show ¬ (false = true) by decide)] at H; exact H
  clear H
  have H := H1
  clear H1
  exact absurd H (by simp)
end Go.Proofs.Ytmbnibonggbjgaa.X

/- The seat's own argument types, by 'Opens'. -/
namespace Go.Proofs.Ytmbnibonggbjgaa.Open
open Go.RowKit Go.Proofs.YtmbnibonggbjgaaW.PrintWords Go.Proofs.Ytmbnibonggbjgaa.X
set_option linter.unusedVariables false
abbrev okInt (n : Int) : Prop := (Lit.int .i64 n).wf = true
theorem open22 : Opens Try.prog 22 (Kd.slice 3 (Kd.int .i64)) (fun l => ∀ x ∈ l, okInt x) := opens_slice Try.underlying22 (opens_int Try.underlying3) (by kernel_rfl)
theorem open38 : Opens Try.prog 38 k38 (fun e : S38 => okInt e.f0 ∧ okInt e.f1 ∧ okInt e.f2) :=
  opens_iso (opens_struct3 Try.underlying38 rfl (by kernel_rfl) (by kernel_rfl) (by kernel_rfl) (opens_int Try.underlying3) (opens_int Try.underlying3) (opens_int Try.underlying3)) _ (fun p => ⟨p.1, p.2.1, p.2.2⟩) (fun _ => rfl)
theorem open23 : Opens Try.prog 23 (Kd.slice 38 k38) (fun l => ∀ e ∈ l, okInt e.f0 ∧ okInt e.f1 ∧ okInt e.f2) := opens_slice Try.underlying23 open38 (by kernel_rfl)
theorem open25 : Opens Try.prog 25 k25 (fun g : S25 => (∀ x ∈ g.f0, okInt x) ∧ ∀ e ∈ g.f1, okInt e.f0 ∧ okInt e.f1 ∧ okInt e.f2) :=
  opens_iso (opens_struct2 Try.underlying25 rfl (by kernel_rfl) (by kernel_rfl) open22 open23) _ (fun p => ⟨p.1, p.2⟩) (fun _ => rfl)
end Go.Proofs.Ytmbnibonggbjgaa.Open
