/- The law PullbackExchanged returns true at every input, and its arguments read afterwards as they read before. No condition. -/
import Derived.Test.YtillofiphkmjjaaZPullbackExchanged4
import Derived.Test.YtillofiphkmjjaaRows
namespace Go.Proofs.Ytillofiphkmjjaa.X
open Go.RowKit Go.Proofs.YtillofiphkmjjaaW.PrintWords Go.Proofs.YtillofiphkmjjaaW.PrintLast Go.Proofs.YtillofiphkmjjaaW.PrintMore
open Go.Proofs.YtillofiphkmjjaaW.PrintWords renaming blk_drewN → bN, blk_drew → bD, blk_alloc → bA, below_alloc → wA, pw_below_drewN → wN, below_drew1 → wD, blk_below → bB, below_step → wS, blk_at → bT, blk_grown → bG
open Go.Proofs.YtillofiphkmjjaaW.PrintWords.Kd renaming R_alloc → rA, R_drewN → rN, R_drew → rD, R_below → rB, R_grown → rG, C_below → cB, C_alloc → cA, C_drewN → cN, C_drew → cD
attribute [local go_sem] max2_int min2_int max_two min_two max_three min_three max_four min_four
set_option linter.unusedVariables false
set_option linter.unusedSimpArgs false
/-! ### scarfjointref05_Made: function 50 -/
mutual
def scarfjointref05_Made.l0 : Nat → Int → List Int → List (S95) → List Int → Option (List Int × (List (S94)))
 | 0, _, _, _, _ => none
 | k + 1, x4, x102000, x102001, x104000 => if x4 < (x102000.length : Int) then (scarfjointref05_Made.j1 k x4 (decide (x4 < 8)) x102000 x102001 x104000) else (scarfjointref05_Made.j1 k x4 false x102000 x102001 x104000)
def scarfjointref05_Made.j1 : Nat → Int → Bool → List Int → List (S95) → List Int → Option (List Int × (List (S94)))
 | 0, _, _, _, _, _ => none
 | k + 1, x4, x15, x102000, x102001, x104000 => if x15 = true then (if 0 ≤ x4 then (if x4 < (x102000.length : Int) then (if x104000.length < 17592186044416 then (scarfjointref05_Made.l0 k (wrap64 (x4 + 1)) x102000 x102001 (x104000 ++ [wrap64 (Int.tmod (rd x102000 x4) 3)])) else (none)) else (none)) else (none)) else (scarfjointref05_Made.l1 k (x104000.length : Int) 0 x102000 x102001 x104000 ([] : List (S94)))
def scarfjointref05_Made.l1 : Nat → Int → Int → List Int → List (S95) → List Int → List (S94) → Option (List Int × (List (S94)))
 | 0, _, _, _, _, _, _ => none
 | k + 1, x5, x6, x102000, x102001, x104000, x104001 => if x6 < (x102001.length : Int) then (if x6 < 10 then (scarfjointref05_Made.j3 k x5 x6 (decide (x5 > 0)) x102000 x102001 x104000 x104001) else (scarfjointref05_Made.j3 k x5 x6 false x102000 x102001 x104000 x104001)) else (scarfjointref05_Made.j3 k x5 x6 false x102000 x102001 x104000 x104001)
def scarfjointref05_Made.j3 : Nat → Int → Int → Bool → List Int → List (S95) → List Int → List (S94) → Option (List Int × (List (S94)))
 | 0, _, _, _, _, _, _, _ => none
 | k + 1, x5, x6, x45, x102000, x102001, x104000, x104001 => if x45 = true then (if 0 ≤ x6 then (if x6 < (x102001.length : Int) then (if x5 = 0 then (none) else (if x104001.length < 5864062014805 then (scarfjointref05_Made.l1 k x5 (wrap64 (x6 + 1)) x102000 x102001 x104000 (x104001 ++ [(⟨wrap64 (Int.tmod ((rd_T95 x102001 x6).f0) 2), Int.tmod (wrap64 ((rd_T95 x102001 x6).f1)) x5, Int.tmod (wrap64 ((rd_T95 x102001 x6).f2)) x5⟩ : S94)])) else (none))) else (none)) else (none)) else (some (x104000, x104001))
end
def scarfjointref05_Made.f (k : Nat) (l0_0 : List Int) (l0_1 : List (S95)) : Option (List Int × (List (S94))) := scarfjointref05_Made.l0 k 0 l0_0 l0_1 ([] : List Int)
theorem scarfjointref05_Made.mono_l : ∀ k, (∀ y0 y1 y2 y3, LeO (scarfjointref05_Made.l0 k y0 y1 y2 y3) (scarfjointref05_Made.l0 (k + 1) y0 y1 y2 y3)) ∧ (∀ y0 y1 y2 y3 y4, LeO (scarfjointref05_Made.j1 k y0 y1 y2 y3 y4) (scarfjointref05_Made.j1 (k + 1) y0 y1 y2 y3 y4)) ∧ (∀ y0 y1 y2 y3 y4 y5, LeO (scarfjointref05_Made.l1 k y0 y1 y2 y3 y4 y5) (scarfjointref05_Made.l1 (k + 1) y0 y1 y2 y3 y4 y5)) ∧ (∀ y0 y1 y2 y3 y4 y5 y6, LeO (scarfjointref05_Made.j3 k y0 y1 y2 y3 y4 y5 y6) (scarfjointref05_Made.j3 (k + 1) y0 y1 y2 y3 y4 y5 y6))
 | 0 => ⟨fun _ _ _ _ r h => by simp [scarfjointref05_Made.l0] at h, fun _ _ _ _ _ r h => by simp [scarfjointref05_Made.j1] at h, fun _ _ _ _ _ _ r h => by simp [scarfjointref05_Made.l1] at h, fun _ _ _ _ _ _ _ r h => by simp [scarfjointref05_Made.j3] at h⟩
 | k + 1 => by
  obtain ⟨ih0, ih1, ih2, ih3⟩ := scarfjointref05_Made.mono_l k
  refine ⟨?_, ?_, ?_, ?_⟩
  ·intro y0 y1 y2 y3
   unfold scarfjointref05_Made.l0
   repeat' first
   | (with_reducible exact ih0 _ _ _ _)
   | (with_reducible exact ih1 _ _ _ _ _)
   | (with_reducible exact ih2 _ _ _ _ _ _)
   | (with_reducible exact ih3 _ _ _ _ _ _ _)
   | (with_reducible exact LeO.refl _)
   | (with_reducible exact LeO.none _)
   | (with_reducible refine LeO.ite ?_ ?_)
   | (with_reducible refine LeO.bind ?_ (fun _ => ?_))
   | exact ih0 _ _ _ _
   | exact ih1 _ _ _ _ _
   | exact ih2 _ _ _ _ _ _
   | exact ih3 _ _ _ _ _ _ _
   | exact LeO.none _
   | refine LeO.ite ?_ ?_
   | refine LeO.bind ?_ (fun _ => ?_)
  ·intro y0 y1 y2 y3 y4
   unfold scarfjointref05_Made.j1
   repeat' first
   | (with_reducible exact ih0 _ _ _ _)
   | (with_reducible exact ih1 _ _ _ _ _)
   | (with_reducible exact ih2 _ _ _ _ _ _)
   | (with_reducible exact ih3 _ _ _ _ _ _ _)
   | (with_reducible exact LeO.refl _)
   | (with_reducible exact LeO.none _)
   | (with_reducible refine LeO.ite ?_ ?_)
   | (with_reducible refine LeO.bind ?_ (fun _ => ?_))
   | exact ih0 _ _ _ _
   | exact ih1 _ _ _ _ _
   | exact ih2 _ _ _ _ _ _
   | exact ih3 _ _ _ _ _ _ _
   | exact LeO.none _
   | refine LeO.ite ?_ ?_
   | refine LeO.bind ?_ (fun _ => ?_)
  ·intro y0 y1 y2 y3 y4 y5
   unfold scarfjointref05_Made.l1
   repeat' first
   | (with_reducible exact ih0 _ _ _ _)
   | (with_reducible exact ih1 _ _ _ _ _)
   | (with_reducible exact ih2 _ _ _ _ _ _)
   | (with_reducible exact ih3 _ _ _ _ _ _ _)
   | (with_reducible exact LeO.refl _)
   | (with_reducible exact LeO.none _)
   | (with_reducible refine LeO.ite ?_ ?_)
   | (with_reducible refine LeO.bind ?_ (fun _ => ?_))
   | exact ih0 _ _ _ _
   | exact ih1 _ _ _ _ _
   | exact ih2 _ _ _ _ _ _
   | exact ih3 _ _ _ _ _ _ _
   | exact LeO.none _
   | refine LeO.ite ?_ ?_
   | refine LeO.bind ?_ (fun _ => ?_)
  ·intro y0 y1 y2 y3 y4 y5 y6
   unfold scarfjointref05_Made.j3
   repeat' first
   | (with_reducible exact ih0 _ _ _ _)
   | (with_reducible exact ih1 _ _ _ _ _)
   | (with_reducible exact ih2 _ _ _ _ _ _)
   | (with_reducible exact ih3 _ _ _ _ _ _ _)
   | (with_reducible exact LeO.refl _)
   | (with_reducible exact LeO.none _)
   | (with_reducible refine LeO.ite ?_ ?_)
   | (with_reducible refine LeO.bind ?_ (fun _ => ?_))
   | exact ih0 _ _ _ _
   | exact ih1 _ _ _ _ _
   | exact ih2 _ _ _ _ _ _
   | exact ih3 _ _ _ _ _ _ _
   | exact LeO.none _
   | refine LeO.ite ?_ ?_
   | refine LeO.bind ?_ (fun _ => ?_)
theorem scarfjointref05_Made.mono : ∀ a0 a1 k, LeO (scarfjointref05_Made.f k a0 a1) (scarfjointref05_Made.f (k + 1) a0 a1) := by
 intro a0 a1 k
 obtain ⟨ih0, ih1, ih2, ih3⟩ := scarfjointref05_Made.mono_l k
 unfold scarfjointref05_Made.f
 repeat' first
   | (with_reducible exact ih0 _ _ _ _)
   | (with_reducible exact ih1 _ _ _ _ _)
   | (with_reducible exact ih2 _ _ _ _ _ _)
   | (with_reducible exact ih3 _ _ _ _ _ _ _)
   | (with_reducible exact LeO.refl _)
   | (with_reducible exact LeO.none _)
   | (with_reducible refine LeO.ite ?_ ?_)
   | (with_reducible refine LeO.bind ?_ (fun _ => ?_))
   | exact ih0 _ _ _ _
   | exact ih1 _ _ _ _ _
   | exact ih2 _ _ _ _ _ _
   | exact ih3 _ _ _ _ _ _ _
   | exact LeO.none _
   | refine LeO.ite ?_ ?_
   | refine LeO.bind ?_ (fun _ => ?_)
def scarfjointref05_Made.T5 : Bool × List (List Nat × List Nat) := (true, [([], []), ([0], [0]), ([], []), ([2], [2]), ([], []), ([3, 4], [3, 4]), ([5], [5]), ([6], [6]), ([7], [7]), ([8], [8]), ([1, 9], [1, 9]), ([0, 1, 2, 3, 4, 5, 6, 7, 8, 9, 10], []), ([11, 10, 10, 0, 1, 2, 3, 4, 5, 6, 7, 8, 9, 10], [10, 11])])
def scarfjointref05_Made.B5 : List Nat := [0, 1, 0, 4, 0, 28, 60, 124, 252, 508, 1023, 2047, 4095]
theorem scarfjointref05_Made.tab5 : rtab .any (opsOf Try.f50 5) = scarfjointref05_Made.T5 := by kernel_rfl
theorem scarfjointref05_Made.bits5 : waitsOk scarfjointref05_Made.T5.2 scarfjointref05_Made.B5 = true := by kernel_rfl
def scarfjointref05_Made.T10 : Bool × List (List Nat × List Nat) := (true, [([], []), ([0], [0]), ([], []), ([2], [2]), ([], []), ([3, 4], [3, 4]), ([5], [5]), ([6], [6]), ([7], [7]), ([8], [8]), ([], []), ([10], [10]), ([], []), ([11, 12], [11, 12]), ([13], [13]), ([14], [14]), ([15], [15]), ([], []), ([16, 17], [16, 17]), ([], []), ([19], [19]), ([], []), ([20, 21], [20, 21]), ([22], [22]), ([23], [23]), ([24], [24]), ([], []), ([25, 26], [25, 26]), ([9, 18, 27], [9, 18, 27]), ([28], [28]), ([1, 29], [1, 29]), ([0, 1, 2, 3, 4, 5, 6, 7, 8, 9, 10, 11, 12, 13, 14, 15, 16, 17, 18, 19, 20, 21, 22, 23, 24, 25, 26, 27, 28, 29, 30], []), ([31, 30, 30, 0, 1, 2, 3, 4, 5, 6, 7, 8, 9, 10, 11, 12, 13, 14, 15, 16, 17, 18, 19, 20, 21, 22, 23, 24, 25, 26, 27, 28, 29, 30], [30, 31])])
def scarfjointref05_Made.B10 : List Nat := [0, 1, 0, 4, 0, 28, 60, 124, 252, 508, 0, 1024, 0, 7168, 15360, 31744, 64512, 0, 261120, 0, 524288, 0, 3670016, 7864320, 16252928, 33030144, 0, 133693440, 268435452, 536870908, 1073741823, 2147483647, 4294967295]
theorem scarfjointref05_Made.tab10 : rtab .any (opsOf Try.f50 10) = scarfjointref05_Made.T10 := by kernel_rfl
theorem scarfjointref05_Made.bits10 : waitsOk scarfjointref05_Made.T10.2 scarfjointref05_Made.B10 = true := by kernel_rfl
set_option maxHeartbeats 8000000 in
set_option maxRecDepth 100000 in
theorem scarfjointref05_Made.calls (k : Nat) (A0_0 : Option Addr) (c0_0 : Nat) (l0_0 : List Int) (A0_1 : Option Addr) (c0_1 : Nat) (l0_1 : List (S95)) (r1 : List Int) (r2 : List (S94)) (w : World) (hr0_0 : Kd.C (Kd.int .u8) w A0_0 l0_0.length l0_0) (hc0_0 : l0_0.length ≤ c0_0) (hr0_1 : Kd.C k95 w A0_1 l0_1.length l0_1) (hc0_1 : l0_1.length ≤ c0_1) (h : scarfjointref05_Made.f k l0_0 l0_1 = some (r1, r2)) :
  Calls Try.prog 50 #[.agg #[.slice A0_0 l0_0.length c0_0, .slice A0_1 l0_1.length c0_1]] w fun e w' => ∃ v0_ v1_ : Value, e = .returned (.agg #[v0_, v1_]) ∧ Kd.R (Kd.int .i64) 3 w' w.heap.size (fun _ => True) v0_ r1 ∧ Kd.R k94 94 w' w.heap.size (fun _ => True) v1_ r2 ∧ Below w.heap.size w w' := by
 have hu43 := Try.underlying43
 have hu25 := Try.underlying25
 have hu94 := Try.underlying94
 have HR0_0 := Aside0.mk hr0_0
 have HC0_0 := Aside0.mk hc0_0
 clear hr0_0 hc0_0
 have HR0_1 := Aside0.mk hr0_1
 have HC0_1 := Aside0.mk hc0_1
 clear hr0_1 hc0_1
 have HB := Aside0.mk (Below.refl w.heap.size w)
 have H : (scarfjointref05_Made.l0 k 0 l0_0 l0_1 ([] : List Int)) = some (r1, r2) := h
 clear h
 have H' := Aside0.mk H
 clear H
 go_enter Try.func50, Try.ntmps50
 go_wp2_with (first | ((with_reducible refine gate_dst (N := 1) rfl ?_); refine box_event ?hg (N := 1) ?hd (cs := #[.slice A0_0 l0_0.length c0_0, .slice A0_1 l0_1.length c0_1]) (t := 43) ?hr ?_; (case hd => rfl); (case hg => rfl); (case hr => first | (go_simp; done) | (go_simp; rfl)); intro Q04 hg w2 hbox hb; have Q00 := Aside0.mk (hbox); have Q1j := Aside0.mk ((by rw [hg]; exact (below_size hB) : w.heap.size ≤ Q04)); have Q12 := Aside0.mk ((by rw [hg]; exact (below_size hB) : w.heap.size ≤ Q04)); replace HB := uH HB hb; clear hb hbox hg) | ((with_reducible refine gate_dst (N := 2) rfl ?_); refine box_event ?hg (N := 2) ?hd (cs := #[.slice none 0 0, .slice none 0 0]) (t := 25) ?hr ?_; (case hd => rfl); (case hg => rfl); (case hr => first | (go_simp; done) | (go_simp; rfl)); intro Q07 hg w3 hbox hb; have Q02 := Aside0.mk (hbox); have Q1k := uS HB hg; have Q13 := uS HB hg; replace HB := uH HB hb; have Q0c := uL Q00 hg; have Q0d := uG Q00 hg; replace Q00 := uB Q00 hb; clear hb hbox hg) | ((with_reducible refine gate_dst (N := 3) rfl ?_); refine box_event ?hg (N := 3) ?hd (cs := #[.slice none 0 0, .slice none 0 0]) (t := 25) ?hr ?_; (case hd => rfl); (case hg => rfl); (case hr => first | (go_simp; done) | (go_simp; rfl)); intro Q05 hg w4 hbox hb; have Q01 := Aside0.mk (hbox); have Q1l := uS HB hg; have Q14 := uS HB hg; replace HB := uH HB hb; have Q0a := uL Q00 hg; have Q0b := uG Q00 hg; replace Q00 := uB Q00 hb; have Q0e := uL Q02 hg; have Q0f := uG Q02 hg; replace Q02 := uB Q02 hb; clear hb hbox hg))
 go_loopg [4] k (fun kq v4 w' => ∃ (x4_1 : Int) (x104000_1 : List Int) (u104000 : Value), v4 = .int .i64 x4_1 ∧ Aside0 (scarfjointref05_Made.l0 kq x4_1 l0_0 l0_1 x104000_1 = some (r1, r2)) ∧ Aside0 (kq ≤ k) ∧ Aside0 (Kd.R (Kd.int .i64) 3 w' w.heap.size (fun _ => True) u104000 x104000_1) ∧ Aside0 (w'.heap[Q04]? = some (.cells #[(.slice A0_0 l0_0.length c0_0), (.slice A0_1 l0_1.length c0_1)] 43 (0, 0))) ∧ Aside0 (w'.heap[Q07]? = some (.cells #[(.slice none 0 0), (.slice none 0 0)] 25 (0, 0))) ∧ Aside0 (w'.heap[Q05]? = some (.cells #[u104000, (.slice none 0 0)] 25 (0, 0))) ∧ Aside0 (Below w.heap.size w w'))
 case atStart => exact ⟨(0), (([] : List Int)), (.slice none 0 0), rS, H', ⟨Nat.le_refl _⟩, ⟨by first | exact Kd.R_nil _ _ _ _ _ | exact Kd.N_nil _ _ _ _ _ | exact Kd.V_nil _ _ _ _ _ | exact Kd.Q_nil _ _ _ _ _ | exact Kd.S_nil _ _ _ _ _⟩, ⟨pB Q00⟩, ⟨pB Q02⟩, ⟨pB Q01⟩, ⟨pH HB⟩⟩
 case round =>
  clear H'
  try clear p2
  obtain ⟨x4_1, x104000_1, u104000, rfl, HA, HK1, Q03, Q00, Q02, Q01, HB⟩ := hrel
  cases gk with
  | zero => exact absurd HA.out (by simp [scarfjointref05_Made.l0])
  | succ k1 =>
   have H := HA.out
   clear HA
   simp only [scarfjointref05_Made.l0] at H
   have HC5 := Aside0.mk H
   clear H
   go_upto_region 3 with (fail)
   go_cut [15] (fun v15 wc => ∃ (kq : Nat) (x15_4 : Bool), v15 = .bool x15_4 ∧ Aside0 (scarfjointref05_Made.j1 kq x4_1 x15_4 l0_0 l0_1 x104000_1 = some (r1, r2)) ∧ Aside0 (kq ≤ k1) ∧ Aside0 (Kd.R (Kd.int .i64) 3 wc w.heap.size (fun _ => True) u104000 x104000_1) ∧ Aside0 (wc.heap[Q04]? = some (.cells #[(.slice A0_0 l0_0.length c0_0), (.slice A0_1 l0_1.length c0_1)] 43 (0, 0))) ∧ Aside0 (wc.heap[Q07]? = some (.cells #[(.slice none 0 0), (.slice none 0 0)] 25 (0, 0))) ∧ Aside0 (wc.heap[Q05]? = some (.cells #[u104000, (.slice none 0 0)] 25 (0, 0))) ∧ Aside0 (Below w.heap.size w wc))
   case first =>
    have H := HC5.out
    clear HC5
    by_cases c6 : x4_1 < (l0_0.length : Int)
    ·rw [if_pos c6] at H
     have c6b0 : decide (x4_1 < (l0_0.length : Int)) = true := decide_eq_true c6
     clear c6
     (first | rw [c6b0] | (simp only [i64_w, i32_w]; rw [c6b0]) | skip)
     have H' := Aside0.mk H
     clear H
     have Q1m := Q0c.out
     have Q1n := Q0d.out
     have Q1o := Q0a.out
     have Q1p := Q0b.out
     have Q0g : wr.cell? ⟨Q04, 0, none⟩ = some (.slice A0_0 l0_0.length c0_0) := bC Q00 0
     have Q0h : wr.cell? ⟨Q04, 1, none⟩ = some (.slice A0_1 l0_1.length c0_1) := bC Q00 1
     have Q0i := blk_frozen Q00.out 0
     have Q0j := blk_frozen Q00.out 1
     go_wp2
     go_meet
     case rel => exact ⟨_, (decide (x4_1 < 8)), rS, H', ⟨by have := HK1.out; first | omega | exact Nat.le_refl _⟩, ⟨pR Q03⟩, ⟨pB Q00⟩, ⟨pB Q02⟩, ⟨pB Q01⟩, ⟨pH HB⟩⟩
    ·rw [if_neg c6] at H
     have c6b0 : decide (x4_1 < (l0_0.length : Int)) = false := decide_eq_false c6
     clear c6
     (first | rw [c6b0] | (simp only [i64_w, i32_w]; rw [c6b0]) | skip)
     have H' := Aside0.mk H
     clear H
     have Q1q := Q0c.out
     have Q1r := Q0d.out
     have Q1s := Q0a.out
     have Q1t := Q0b.out
     have Q0k : wr.cell? ⟨Q04, 0, none⟩ = some (.slice A0_0 l0_0.length c0_0) := bC Q00 0
     have Q0l : wr.cell? ⟨Q04, 1, none⟩ = some (.slice A0_1 l0_1.length c0_1) := bC Q00 1
     have Q0m := blk_frozen Q00.out 0
     have Q0n := blk_frozen Q00.out 1
     go_wp2
     go_meet
     case rel => exact ⟨_, (false), rS, H', ⟨by have := HK1.out; first | omega | exact Nat.le_refl _⟩, ⟨pR Q03⟩, ⟨pB Q00⟩, ⟨pB Q02⟩, ⟨pB Q01⟩, ⟨pH HB⟩⟩
   case rest =>
    clear HC5
    try clear c1; try clear p2; try clear c5; try clear c6; try clear c6b0; try clear c7; try clear c8; try clear c10; try clear c11; try clear Q0k; try clear Q0l; try clear Q0g; try clear Q0h; try clear Q0m; try clear Q0n; try clear Q0i; try clear Q0j; try clear p2
    obtain ⟨kq, x15_4, rfl, HA, HJ4, Q03, Q00, Q02, Q01, HB⟩ := hcut
    cases kq with
    | zero => exact absurd HA.out (by simp [scarfjointref05_Made.j1])
    | succ kj4 =>
     have H := HA.out
     clear HA
     simp only [scarfjointref05_Made.j1] at H
     by_cases c13 : x15_4 = true
     ·subst c13
      have H1 : (if 0 ≤ x4_1 then (if x4_1 < (l0_0.length : Int) then (if x104000_1.length < 17592186044416 then (scarfjointref05_Made.l0 kj4 (wrap64 (x4_1 + 1)) l0_0 l0_1 (x104000_1 ++ [wrap64 (Int.tmod (rd l0_0 x4_1) 3)])) else (none)) else (none)) else (none)) = some (r1, r2) := by rw [if_pos rfl] at H; exact H
      clear H
      have H := H1
      clear H1
      by_cases c14 : 0 ≤ x4_1
      ·rw [if_pos c14] at H
       have c14b0 : decide (0 ≤ x4_1) = true := decide_eq_true c14
       clear c14
       by_cases c15 : x4_1 < (l0_0.length : Int)
       ·rw [if_pos c15] at H
        have c15b0 : decide (x4_1 < (l0_0.length : Int)) = true := decide_eq_true c15
        clear c15
        by_cases c16 : x104000_1.length < 17592186044416
        ·rw [if_pos c16] at H
         have LMc16 := Aside0.mk c16
         clear c16
         obtain ⟨y105, hy105⟩ : ∃ y_ : List Int, y_ = (x104000_1 ++ [wrap64 (Int.tmod (rd l0_0 x4_1) 3)]) := ⟨_, rfl⟩
         replace H : (scarfjointref05_Made.l0 kj4 (wrap64 (x4_1 + 1)) l0_0 l0_1 y105) = some (r1, r2) := by first | (rw [hy105]; with_reducible exact H) | (have H2_ := (Option.bind_some _ _).symm.trans H; rw [hy105]; with_reducible exact H2_) | (have H2_ := (Option.bind_some _ _).symm.trans H; with_reducible exact H2_) | with_reducible exact H | (rw [hy105]; exact H) | exact H
         have Ny105 := Aside0.mk hy105
         clear hy105
         have H' := Aside0.mk H
         clear H
         try go_wp2
         replace Q03 := Aside0.mk (rD Q03.out)
         replace Q00 := Aside0.mk (bD Q00.out)
         replace Q02 := Aside0.mk (bD Q02.out)
         replace Q01 := Aside0.mk (bD Q01.out)
         replace HB := Aside0.mk (wD HB.out)
         have p104 : 0 ≤ (x4_1 : Int) := oT
         have q104 : x4_1 < (l0_0.length : Int) := oT
         obtain ⟨ad104, e104, hx104_0⟩ := Kd.at_int HR0_0.out x4_1 p104 q104
         have hw104_0 := hx104_0
         cases e104
         replace hx104_0 := (HB.out.cell (World.block_lt_of_cell? w _ hx104_0)).trans hx104_0
         replace p104 := eq_true p104
         replace q104 := eq_true q104
         refine start_ (n := 13) (S := fun w' => w'.cell? ⟨Q05, 0, none⟩ = some (u104000) ∧ w'.cell? ⟨Q05, 1, none⟩ = some (.slice none 0 0) ∧ w'.cell? ⟨Q04, 0, none⟩ = some (.slice (some ad104) l0_0.length c0_0) ∧ w'.cell? ⟨Q04, 1, none⟩ = some (.slice A0_1 l0_1.length c0_1) ∧ w'.cell? (ad104.add (x4_1).toNat) = some (.int .u8 (rd l0_0 x4_1))) (ds := [12]) #[false, false, false, false, false, false, false, false, false, false, false, false, false] (by kernel_rfl) rfl rfl ⟨bC Q01 0, bC Q01 1, bC Q00 0, bC Q00 1, ((HB.out.cell (World.block_lt_of_cell? w _ hw104_0)).trans hw104_0)⟩ (fun hHeld => ?_); refine with_tabW scarfjointref05_Made.tab5 scarfjointref05_Made.bits5 (fun HT_ HW_ => ?_)
         generalize wc.drew = w17 at Q03 Q00 Q02 Q01 HB hx104_0 hHeld ⊢
         refine pure_ (i := 0) (N := some 18) (v := ?_) (a' := ?_) #[true, false, false, false, false, false, false, false, false, false, false, false, false] rfl rfl (any_of HT_.out (by kernel_rfl)) (fun _ _ _ h => h) (Or.inl ⟨by rfl, ?_⟩) ?_ ?_
         rotate_left
         ·intro w'
          go_simp
          with_reducible rfl
         rotate_left
         ·simp only [Act.put, List.setIfInBounds_toArray, List.set_cons_zero, List.set_cons_succ, i64_w, i32_w]
          rfl
         refine pure_ (i := 2) (N := some 20) (v := ?_) (a' := ?_) #[true, false, true, false, false, false, false, false, false, false, false, false, false] rfl rfl (any_of HT_.out (by kernel_rfl)) (fun _ _ _ h => h) (Or.inl ⟨by rfl, ?_⟩) ?_ ?_
         rotate_left
         ·intro w'
          go_simp
          with_reducible rfl
         rotate_left
         ·simp only [Act.put, List.setIfInBounds_toArray, List.set_cons_zero, List.set_cons_succ, i64_w, i32_w]
          rfl
         refine pure_ (i := 4) (N := some 22) (v := ?_) (a' := ?_) #[true, false, true, false, true, false, false, false, false, false, false, false, false] rfl rfl (any_of HT_.out (by kernel_rfl)) (fun _ _ _ h => h) (Or.inl ⟨by rfl, ?_⟩) ?_ ?_
         rotate_left
         ·intro w'
          go_simp
          with_reducible rfl
         rotate_left
         ·simp only [Act.put, List.setIfInBounds_toArray, List.set_cons_zero, List.set_cons_succ, i64_w, i32_w]
          rfl
         refine take_ (i := 1) (N := some 19) (v := ?_) (a' := ?_) #[true, true, true, false, true, false, false, false, false, false, false, false, false] rfl rfl (take_ofW HT_.out HW_.out (by kernel_rfl)) (fun _ _ _ h => h) (Or.inl ⟨by rfl, ?_⟩) hHeld ?_ ?_
         rotate_left
         ·rintro w' ⟨s0, s1, s2, s3, s4⟩
          go_simp
          with_reducible rfl
         rotate_left
         ·simp only [Act.put, List.setIfInBounds_toArray, List.set_cons_zero, List.set_cons_succ, i64_w, i32_w]
          rfl
         refine take_ (i := 3) (N := some 21) (v := ?_) (a' := ?_) #[true, true, true, true, true, false, false, false, false, false, false, false, false] rfl rfl (take_ofW HT_.out HW_.out (by kernel_rfl)) (fun _ _ _ h => h) (Or.inl ⟨by rfl, ?_⟩) hHeld ?_ ?_
         rotate_left
         ·rintro w' ⟨s0, s1, s2, s3, s4⟩
          go_simp
          with_reducible rfl
         rotate_left
         ·simp only [Act.put, List.setIfInBounds_toArray, List.set_cons_zero, List.set_cons_succ, i64_w, i32_w]
          rfl
         refine pure_ (i := 5) (N := some 23) (v := ?_) (a' := ?_) #[true, true, true, true, true, true, false, false, false, false, false, false, false] rfl rfl (any_of HT_.out (by kernel_rfl)) (fun _ _ _ h => h) (Or.inl ⟨by rfl, ?_⟩) ?_ ?_
         rotate_left
         ·intro w'
          go_simp
          with_reducible rfl
         rotate_left
         ·simp only [Act.put, List.setIfInBounds_toArray, List.set_cons_zero, List.set_cons_succ, i64_w, i32_w]
          rfl
         refine take_ (i := 6) (N := some 24) (v := ?_) (a' := ?_) #[true, true, true, true, true, true, true, false, false, false, false, false, false] rfl rfl (take_ofW HT_.out HW_.out (by kernel_rfl)) (fun _ _ _ h => h) (Or.inl ⟨by rfl, ?_⟩) hHeld ?_ ?_
         rotate_left
         ·rintro w' ⟨s0, s1, s2, s3, s4⟩
          go_simp
          with_reducible rfl
         rotate_left
         ·simp only [Act.put, List.setIfInBounds_toArray, List.set_cons_zero, List.set_cons_succ, i64_w, i32_w]
          rfl
         refine pure_ (i := 7) (N := some 25) (v := ?_) (a' := ?_) #[true, true, true, true, true, true, true, true, false, false, false, false, false] rfl rfl (any_of HT_.out (by kernel_rfl)) (fun _ _ _ h => h) (Or.inl ⟨by rfl, ?_⟩) ?_ ?_
         rotate_left
         ·intro w'
          go_simp
          with_reducible rfl
         rotate_left
         ·simp only [Act.put, List.setIfInBounds_toArray, List.set_cons_zero, List.set_cons_succ, i64_w, i32_w]
          rfl
         refine pure_ (i := 8) (N := some 26) (v := ?_) (a' := ?_) #[true, true, true, true, true, true, true, true, true, false, false, false, false] rfl rfl (any_of HT_.out (by kernel_rfl)) (fun _ _ _ h => h) (Or.inl ⟨by rfl, ?_⟩) ?_ ?_
         rotate_left
         ·intro w'
          go_simp
          with_reducible rfl
         rotate_left
         ·simp only [Act.put, List.setIfInBounds_toArray, List.set_cons_zero, List.set_cons_succ, i64_w, i32_w]
          rfl
         refine one_ (i := 9) (N := some 27) #[true, true, true, true, true, true, true, true, true, true, false, false, false] rfl rfl (one_of HT_.out (by kernel_rfl)) (by decide) (fun K hK => ?_)
         refine value_ (w1 := ?_) (v := ?_) (by rfl) rfl ?_ ?_
         rotate_left 2
         ·go_simp
          constructor
          ·rfl
          ·rfl
         refine hK.out _ _ ⟨(blk_cell (bA Q01.out _) 0).trans rfl, (blk_cell (bA Q01.out _) 1).trans rfl, (blk_cell (bA Q00.out _) 0).trans rfl, (blk_cell (bA Q00.out _) 1).trans rfl, (World.cell?_alloc_lt _ _ _ (World.block_lt_of_cell? _ _ (((HB.out.cell (World.block_lt_of_cell? w _ hw104_0)).trans hw104_0)))).trans (((HB.out.cell (World.block_lt_of_cell? w _ hw104_0)).trans hw104_0))⟩ (fun hHeld => ?_)
         clear hK K
         refine norm_ (a' := ?_) ?_ ?_
         rotate_left
         ·show Act.put _ (some 27) _ = _
          simp only [Act.put, List.setIfInBounds_toArray, List.set_cons_zero, List.set_cons_succ, i64_w, i32_w]
          rfl
         refine one_ (i := 10) (N := some 28) #[true, true, true, true, true, true, true, true, true, true, true, false, false] rfl rfl (one_of HT_.out (by kernel_rfl)) (by decide) (fun K hK => ?_)
         refine Kd.R_append_step (Kd.int .i64) (w0 := w) w.heap.size (by rfl) (.tmp 19) (.tmp 27) 22 3 (.int .i64 0) 8 rfl Try.underlying22 info3 rfl (by decide) (by omega) u104000 x104000_1 (wrap64 (Int.tmod (rd l0_0 x4_1) 3)) [.int .i64 (wrap64 (Int.tmod (rd l0_0 x4_1) 3))] (fun _ => True) (fun _ => False) rfl rfl ?aP (fun _ hk => hk.elim) ?aF ?aO ?aB ?aS ?aL ?_
         (case aP => exact rfl)
         (case aB => exact (pH HB))
         (case aF => exact (fun _ _ => trivial))
         (case aO => exact (pR Q03))
         (case aS => exact (below_size (pH HB)))
         (case aL => have := LMc16.out; omega)
         intro v106 w18 ho hb hg hat
         rw [← Ny105.out] at ho
         replace Q00 := Aside0.mk (bG (g := Q04) (o := .cells #[.slice (some ad104) l0_0.length c0_0, .slice A0_1 l0_1.length c0_1] 43 (0, 0)) (pB Q00) hg (Kd.R_ne Q03.out Q00.out (by decide)))
         replace Q02 := Aside0.mk (bG (g := Q07) (o := .cells #[.slice none 0 0, .slice none 0 0] 25 (0, 0)) (pB Q02) hg (Kd.R_ne Q03.out Q02.out (by decide)))
         replace Q01 := Aside0.mk (bG (g := Q05) (o := .cells #[u104000, .slice none 0 0] 25 (0, 0)) (pB Q01) hg (Kd.R_ne Q03.out Q01.out (by decide)))
         replace HB := Aside0.mk (hb)
         have Q0s := Aside0.mk (ho)
         clear Q03
         clear ho hb hg hat
         obtain ⟨Q0t, Q0u, Q0v⟩ := Kd.R_slice Q0s.out
         (first | subst Q0v | (injection Q0v with f1_ f2_ f3_; have f4_ := f1_.symm; have f5_ := f3_.symm; clear f1_ f2_ f3_; subst f4_; subst f5_))
         refine hK.out _ _ ⟨bC Q01 0, bC Q01 1, bC Q00 0, bC Q00 1, ((HB.out.cell (World.block_lt_of_cell? w _ hw104_0)).trans hw104_0)⟩ (fun hHeld => ?_)
         clear hK K
         refine norm_ (a' := ?_) ?_ ?_
         rotate_left
         ·show Act.put _ (some 28) _ = _
          simp only [Act.put, List.setIfInBounds_toArray, List.set_cons_zero, List.set_cons_succ, i64_w, i32_w]
          rfl
         refine pure_ (i := 11) (N := some 29) (v := ?_) (a' := ?_) #[true, true, true, true, true, true, true, true, true, true, true, true, false] rfl rfl (any_of HT_.out (by kernel_rfl)) (fun _ _ _ h => h) (Or.inl ⟨by rfl, ?_⟩) ?_ ?_
         rotate_left
         ·intro w'
          go_simp
          with_reducible rfl
         rotate_left
         ·simp only [Act.put, List.setIfInBounds_toArray, List.set_cons_zero, List.set_cons_succ, i64_w, i32_w]
          rfl
         refine last_ (i := 12) (N := none) #[true, true, true, true, true, true, true, true, true, true, true, true, true] rfl rfl (one_of HT_.out (by kernel_rfl)) (by decide) (fun K hK => ?_)
         have Q1u : w18.cell? ⟨Q05, 0, none⟩ = some (u104000) := bC Q01 0
         have Q1v := blk_frozen Q01.out 0
         have Q1w := Q0a.out
         have Q1x := Q0e.out
         have Q1y := Q0b.out
         have Q1z := Q0f.out
         refine skip_ (w1 := ?_) (by rfl) rfl ?_ ?_
         rotate_left
         ·go_simp
          rfl
         refine hK.out _ _ ?_
         clear hK K
         refine done_ (done_of HT_.out (by kernel_rfl)) ?_
         try go_wp2
         go_roundg kj4
         case measure => have := HK1.out; have := HJ4.out; omega
         case rel => exact ⟨(wrap64 (x4_1 + 1)), (y105), (.slice Q0t y105.length Q0u), rS, H', ⟨by have := HK1.out; have := HJ4.out; omega⟩, ⟨by (with_reducible repeat (first | apply rA | apply rN | apply rD)); exact Kd.R_mono (Kd.R_far (p := ⟨Q05, 0, none⟩) (Kd.R_types Q0s.out Q01.out (by decide)) (fun _ hk => hk.2) (.slice Q0t y105.length Q0u)) (fun _ hk => trivial)⟩, ⟨by (with_reducible repeat (first | refine bN ?_ _ | refine bD ?_ | refine bA ?_ _)); refine blk_far ?_ Q0a.out _; (with_reducible repeat (first | refine bN ?_ _ | refine bD ?_ | refine bA ?_ _)); exact Q00.out⟩, ⟨by (with_reducible repeat (first | refine bN ?_ _ | refine bD ?_ | refine bA ?_ _)); refine blk_far ?_ Q0e.out _; (with_reducible repeat (first | refine bN ?_ _ | refine bD ?_ | refine bA ?_ _)); exact Q02.out⟩, ⟨by (with_reducible repeat (first | refine bN ?_ _ | refine bD ?_ | refine bA ?_ _)); refine blk_put (cs := #[u104000, .slice none 0 0]) ?_ 0 _ rfl; (with_reducible repeat (first | refine bN ?_ _ | refine bD ?_ | refine bA ?_ _)); exact Q01.out⟩, ⟨pH HB⟩⟩
        ·rw [if_neg c16] at H
         exact absurd H (by simp)
       ·rw [if_neg c15] at H
        exact absurd H (by simp)
      ·rw [if_neg c14] at H
       exact absurd H (by simp)
     ·replace c13 := Bool.eq_false_iff.mpr c13
      subst c13
      have H1 : (scarfjointref05_Made.l1 kj4 (x104000_1.length : Int) 0 l0_0 l0_1 x104000_1 ([] : List (S94))) = some (r1, r2) := by rw [if_neg (show ¬ (false = true) by decide)] at H; exact H
      clear H
      have H := H1
      clear H1
      have H' := Aside0.mk H
      clear H
      have Q20 := Q0b.out
      have Q21 := Q0a.out
      have Q22 := Q0f.out
      have Q23 := Q0e.out
      have Q0w : wc.cell? ⟨Q05, 0, none⟩ = some (u104000) := bC Q01 0
      have Q0x : wc.cell? ⟨Q05, 1, none⟩ = some (.slice none 0 0) := bC Q01 1
      have Q0y := blk_frozen Q01.out 0
      have Q0z := blk_frozen Q01.out 1
      obtain ⟨Q08, Q09, Q15⟩ := Kd.R_slice Q03.out
      subst Q15
      go_wp2
      go_loopg [6] kj4 (fun kq v6 w' => ∃ (x6_3 : Int) (x104001_3 : List (S94)) (u104001 : Value), v6 = .int .i64 x6_3 ∧ Aside0 (scarfjointref05_Made.l1 kq (x104000_1.length : Int) x6_3 l0_0 l0_1 x104000_1 x104001_3 = some (r1, r2)) ∧ Aside0 (kq ≤ kj4) ∧ Aside0 (Kd.R (Kd.int .i64) 3 w' w.heap.size (fun _ => True) (.slice Q08 x104000_1.length Q09) x104000_1) ∧ Aside0 (Kd.R k94 94 w' w.heap.size (fun _ => True) u104001 x104001_3) ∧ Aside0 (w'.heap[Q04]? = some (.cells #[(.slice A0_0 l0_0.length c0_0), (.slice A0_1 l0_1.length c0_1)] 43 (0, 0))) ∧ Aside0 (w'.heap[Q07]? = some (.cells #[(.slice none 0 0), (.slice none 0 0)] 25 (0, 0))) ∧ Aside0 (w'.heap[Q05]? = some (.cells #[(.slice Q08 x104000_1.length Q09), u104001] 25 (0, 0))) ∧ Aside0 (Below w.heap.size w w'))
      case atStart => exact ⟨(0), (([] : List (S94))), (.slice none 0 0), rS, H', ⟨Nat.le_refl _⟩, ⟨pR Q03⟩, ⟨by first | exact Kd.R_nil _ _ _ _ _ | exact Kd.N_nil _ _ _ _ _ | exact Kd.V_nil _ _ _ _ _ | exact Kd.Q_nil _ _ _ _ _ | exact Kd.S_nil _ _ _ _ _⟩, ⟨pB Q00⟩, ⟨pB Q02⟩, ⟨pB Q01⟩, ⟨pH HB⟩⟩
      case round =>
       clear H'
       try clear c1; try clear c2; try clear p2; try clear c5; try clear p5; try clear q5; try clear hx5; try clear c6; try clear c6b0; try clear p6; try clear c7; try clear c8; try clear c10; try clear c11; try clear c13; try clear c14; try clear c14b0; try clear c15; try clear c15b0; try clear c16; try clear c21; try clear c22; try clear Q0k; try clear Q0l; try clear Q0w; try clear Q0x; try clear Q0g; try clear Q0h; try clear Q0m; try clear Q0n; try clear Q0y; try clear Q0z; try clear Q0i; try clear Q0j; try clear hx104_0; try clear p2; try clear p104; try clear q104
       obtain ⟨x6_3, x104001_3, u104001, rfl, HA, HK3, Q03, Q06, Q00, Q02, Q01, HB⟩ := hrel
       cases gk with
       | zero => exact absurd HA.out (by simp [scarfjointref05_Made.l1])
       | succ k3 =>
        have H := HA.out
        clear HA
        simp only [scarfjointref05_Made.l1] at H
        have HC25 := Aside0.mk H
        clear H
        go_upto_region 8 with (fail)
        go_cut [45] (fun v45 wc => ∃ (kq : Nat) (x45_24 : Bool), v45 = .bool x45_24 ∧ Aside0 (scarfjointref05_Made.j3 kq (x104000_1.length : Int) x6_3 x45_24 l0_0 l0_1 x104000_1 x104001_3 = some (r1, r2)) ∧ Aside0 (kq ≤ k3) ∧ Aside0 (Kd.R (Kd.int .i64) 3 wc w.heap.size (fun _ => True) (.slice Q08 x104000_1.length Q09) x104000_1) ∧ Aside0 (Kd.R k94 94 wc w.heap.size (fun _ => True) u104001 x104001_3) ∧ Aside0 (wc.heap[Q04]? = some (.cells #[(.slice A0_0 l0_0.length c0_0), (.slice A0_1 l0_1.length c0_1)] 43 (0, 0))) ∧ Aside0 (wc.heap[Q07]? = some (.cells #[(.slice none 0 0), (.slice none 0 0)] 25 (0, 0))) ∧ Aside0 (wc.heap[Q05]? = some (.cells #[(.slice Q08 x104000_1.length Q09), u104001] 25 (0, 0))) ∧ Aside0 (Below w.heap.size w wc))
        case first =>
         have H := HC25.out
         clear HC25
         by_cases c26 : x6_3 < (l0_1.length : Int)
         ·rw [if_pos c26] at H
          have c26b0 : decide (x6_3 < (l0_1.length : Int)) = true := decide_eq_true c26
          clear c26
          (first | rw [c26b0] | (simp only [i64_w, i32_w]; rw [c26b0]) | skip)
          by_cases c27 : x6_3 < 10
          ·rw [if_pos c27] at H
           have c27b0 : decide (x6_3 < 10) = true := decide_eq_true c27
           clear c27
           have H' := Aside0.mk H
           clear H
           have Q24 := Q0c.out
           have Q25 := Q0d.out
           have Q26 := Q0a.out
           have Q27 := Q0b.out
           have Q16 : wr.cell? ⟨Q04, 0, none⟩ = some (.slice A0_0 l0_0.length c0_0) := bC Q00 0
           have Q17 : wr.cell? ⟨Q04, 1, none⟩ = some (.slice A0_1 l0_1.length c0_1) := bC Q00 1
           have Q18 := blk_frozen Q00.out 0
           have Q19 := blk_frozen Q00.out 1
           go_wp2
           go_meet
           case rel => exact ⟨_, (decide ((x104000_1.length : Int) > 0)), rS, H', ⟨by have := HK1.out; have := HJ4.out; have := HK3.out; first | omega | exact Nat.le_refl _⟩, ⟨pR Q03⟩, ⟨pR Q06⟩, ⟨pB Q00⟩, ⟨pB Q02⟩, ⟨pB Q01⟩, ⟨pH HB⟩⟩
          ·rw [if_neg c27] at H
           have c27b0 : decide (x6_3 < 10) = false := decide_eq_false c27
           clear c27
           have H' := Aside0.mk H
           clear H
           have Q28 := Q0c.out
           have Q29 := Q0d.out
           have Q2a := Q0a.out
           have Q2b := Q0b.out
           have Q1a : wr.cell? ⟨Q04, 0, none⟩ = some (.slice A0_0 l0_0.length c0_0) := bC Q00 0
           have Q1b : wr.cell? ⟨Q04, 1, none⟩ = some (.slice A0_1 l0_1.length c0_1) := bC Q00 1
           have Q1c := blk_frozen Q00.out 0
           have Q1d := blk_frozen Q00.out 1
           go_wp2
           go_meet
           case rel => exact ⟨_, (false), rS, H', ⟨by have := HK1.out; have := HJ4.out; have := HK3.out; first | omega | exact Nat.le_refl _⟩, ⟨pR Q03⟩, ⟨pR Q06⟩, ⟨pB Q00⟩, ⟨pB Q02⟩, ⟨pB Q01⟩, ⟨pH HB⟩⟩
         ·rw [if_neg c26] at H
          have c26b0 : decide (x6_3 < (l0_1.length : Int)) = false := decide_eq_false c26
          clear c26
          (first | rw [c26b0] | (simp only [i64_w, i32_w]; rw [c26b0]) | skip)
          have H' := Aside0.mk H
          clear H
          have Q2c := Q0c.out
          have Q2d := Q0d.out
          have Q2e := Q0a.out
          have Q2f := Q0b.out
          have Q1e : wr.cell? ⟨Q04, 0, none⟩ = some (.slice A0_0 l0_0.length c0_0) := bC Q00 0
          have Q1f : wr.cell? ⟨Q04, 1, none⟩ = some (.slice A0_1 l0_1.length c0_1) := bC Q00 1
          have Q1g := blk_frozen Q00.out 0
          have Q1h := blk_frozen Q00.out 1
          go_wp2
          go_meet
          case rel => exact ⟨_, (false), rS, H', ⟨by have := HK1.out; have := HJ4.out; have := HK3.out; first | omega | exact Nat.le_refl _⟩, ⟨pR Q03⟩, ⟨pR Q06⟩, ⟨pB Q00⟩, ⟨pB Q02⟩, ⟨pB Q01⟩, ⟨pH HB⟩⟩
        case rest =>
         clear HC25
         try clear c1; try clear c2; try clear p2; try clear c3; try clear c5; try clear p5; try clear q5; try clear hx5; try clear c6; try clear c6b0; try clear p6; try clear c7; try clear c8; try clear c10; try clear c11; try clear c13; try clear c14; try clear c14b0; try clear c15; try clear c15b0; try clear c16; try clear c21; try clear c22; try clear c26; try clear c26b0; try clear c27; try clear c27b0; try clear c28; try clear c29; try clear c31; try clear c32; try clear c34; try clear c35; try clear Q0k; try clear Q0l; try clear Q0w; try clear Q0x; try clear Q16; try clear Q17; try clear Q1a; try clear Q1b; try clear Q1e; try clear Q1f; try clear Q0g; try clear Q0h; try clear Q0m; try clear Q0n; try clear Q0y; try clear Q0z; try clear Q18; try clear Q19; try clear Q1c; try clear Q1d; try clear Q1g; try clear Q1h; try clear Q0i; try clear Q0j; try clear hx104_0; try clear p2; try clear p5; try clear p104; try clear p6; try clear q5; try clear q104
         obtain ⟨kq, x45_24, rfl, HA, HJ24, Q03, Q06, Q00, Q02, Q01, HB⟩ := hcut
         cases kq with
         | zero => exact absurd HA.out (by simp [scarfjointref05_Made.j3])
         | succ kj24 =>
          have H := HA.out
          clear HA
          simp only [scarfjointref05_Made.j3] at H
          by_cases c37 : x45_24 = true
          ·subst c37
           have H1 : (if 0 ≤ x6_3 then (if x6_3 < (l0_1.length : Int) then (if (x104000_1.length : Int) = 0 then (none) else (if x104001_3.length < 5864062014805 then (scarfjointref05_Made.l1 kj24 (x104000_1.length : Int) (wrap64 (x6_3 + 1)) l0_0 l0_1 x104000_1 (x104001_3 ++ [(⟨wrap64 (Int.tmod ((rd_T95 l0_1 x6_3).f0) 2), Int.tmod (wrap64 ((rd_T95 l0_1 x6_3).f1)) (x104000_1.length : Int), Int.tmod (wrap64 ((rd_T95 l0_1 x6_3).f2)) (x104000_1.length : Int)⟩ : S94)])) else (none))) else (none)) else (none)) = some (r1, r2) := by rw [if_pos rfl] at H; exact H
           clear H
           have H := H1
           clear H1
           by_cases c38 : 0 ≤ x6_3
           ·rw [if_pos c38] at H
            have c38b0 : decide (0 ≤ x6_3) = true := decide_eq_true c38
            clear c38
            by_cases c39 : x6_3 < (l0_1.length : Int)
            ·rw [if_pos c39] at H
             have c39b0 : decide (x6_3 < (l0_1.length : Int)) = true := decide_eq_true c39
             clear c39
             by_cases c40 : (x104000_1.length : Int) = 0
             ·rw [if_pos c40] at H
              exact absurd H (by simp)
             ·rw [if_neg c40] at H
              have c40b0 : ((x104000_1.length : Int) == 0) = false := beq_eq_false_iff_ne.mpr c40
              have c40b1 : ((x104000_1.length : Int) != 0) = true := bne_iff_ne.mpr c40
              have c40b2 : ¬ (x104000_1 = []) := fun h_ => c40 (by rw [h_]; rfl)
              by_cases c41 : x104001_3.length < 5864062014805
              ·rw [if_pos c41] at H
               have LMc41 := Aside0.mk c41
               clear c41
               obtain ⟨y111, hy111⟩ : ∃ y_ : List (S94), y_ = (x104001_3 ++ [(⟨wrap64 (Int.tmod ((rd_T95 l0_1 x6_3).f0) 2), Int.tmod (wrap64 ((rd_T95 l0_1 x6_3).f1)) (x104000_1.length : Int), Int.tmod (wrap64 ((rd_T95 l0_1 x6_3).f2)) (x104000_1.length : Int)⟩ : S94)]) := ⟨_, rfl⟩
               replace H : (scarfjointref05_Made.l1 kj24 (x104000_1.length : Int) (wrap64 (x6_3 + 1)) l0_0 l0_1 x104000_1 y111) = some (r1, r2) := by first | (rw [hy111]; with_reducible exact H) | (have H2_ := (Option.bind_some _ _).symm.trans H; rw [hy111]; with_reducible exact H2_) | (have H2_ := (Option.bind_some _ _).symm.trans H; with_reducible exact H2_) | with_reducible exact H | (rw [hy111]; exact H) | exact H
               have Ny111 := Aside0.mk hy111
               clear hy111
               have H' := Aside0.mk H
               clear H
               try go_wp2
               replace Q03 := Aside0.mk (rD Q03.out)
               replace Q06 := Aside0.mk (rD Q06.out)
               replace Q00 := Aside0.mk (bD Q00.out)
               replace Q02 := Aside0.mk (bD Q02.out)
               replace Q01 := Aside0.mk (bD Q01.out)
               replace HB := Aside0.mk (wD HB.out)
               have p108 : 0 ≤ (x6_3 : Int) := oT
               have q108 : x6_3 < (l0_1.length : Int) := oT
               obtain ⟨ad108, e108, hx108_0, hx108_1, hx108_2⟩ := at_T95 HR0_1.out x6_3 p108 q108
               have hw108_2 := hx108_2
               have hw108_1 := hx108_1
               have hw108_0 := hx108_0
               cases e108
               replace hx108_0 := (HB.out.cell (World.block_lt_of_cell? w _ hx108_0)).trans hx108_0
               replace hx108_1 := (HB.out.cell (World.block_lt_of_cell? w _ hx108_1)).trans hx108_1
               replace hx108_2 := (HB.out.cell (World.block_lt_of_cell? w _ hx108_2)).trans hx108_2
               replace p108 := eq_true p108
               replace q108 := eq_true q108
               have p109 : 0 ≤ (x6_3 : Int) := oT
               have q109 : x6_3 < (l0_1.length : Int) := oT
               obtain ⟨ad109, e109, hx109_0, hx109_1, hx109_2⟩ := at_T95 HR0_1.out x6_3 p109 q109
               have hw109_2 := hx109_2
               have hw109_1 := hx109_1
               have hw109_0 := hx109_0
               obtain rfl : ad108 = ad109 := (by injection e109)
               replace hx109_0 := (HB.out.cell (World.block_lt_of_cell? w _ hx109_0)).trans hx109_0
               replace hx109_1 := (HB.out.cell (World.block_lt_of_cell? w _ hx109_1)).trans hx109_1
               replace hx109_2 := (HB.out.cell (World.block_lt_of_cell? w _ hx109_2)).trans hx109_2
               replace p109 := eq_true p109
               replace q109 := eq_true q109
               have p110 : 0 ≤ (x6_3 : Int) := oT
               have q110 : x6_3 < (l0_1.length : Int) := oT
               obtain ⟨ad110, e110, hx110_0, hx110_1, hx110_2⟩ := at_T95 HR0_1.out x6_3 p110 q110
               have hw110_2 := hx110_2
               have hw110_1 := hx110_1
               have hw110_0 := hx110_0
               obtain rfl : ad108 = ad110 := (by injection e110)
               replace hx110_0 := (HB.out.cell (World.block_lt_of_cell? w _ hx110_0)).trans hx110_0
               replace hx110_1 := (HB.out.cell (World.block_lt_of_cell? w _ hx110_1)).trans hx110_1
               replace hx110_2 := (HB.out.cell (World.block_lt_of_cell? w _ hx110_2)).trans hx110_2
               replace p110 := eq_true p110
               replace q110 := eq_true q110
               refine start_ (n := 33) (S := fun w' => w'.cell? ⟨Q05, 0, none⟩ = some (.slice Q08 x104000_1.length Q09) ∧ w'.cell? ⟨Q05, 1, none⟩ = some (u104001) ∧ w'.cell? ⟨Q04, 0, none⟩ = some (.slice A0_0 l0_0.length c0_0) ∧ w'.cell? ⟨Q04, 1, none⟩ = some (.slice (some ad108) l0_1.length c0_1) ∧ w'.cell? (ad108.add ((x6_3).toNat * 3)) = some (.int .u8 ((rd_T95 l0_1 x6_3).f0)) ∧ w'.cell? ⟨(ad108.add ((x6_3).toNat * 3)).block, (ad108.add ((x6_3).toNat * 3)).off + 1, none⟩ = some (.int .u8 ((rd_T95 l0_1 x6_3).f1)) ∧ w'.cell? ⟨(ad108.add ((x6_3).toNat * 3)).block, (ad108.add ((x6_3).toNat * 3)).off + 2, none⟩ = some (.int .u8 ((rd_T95 l0_1 x6_3).f2)) ∧ w'.cell? (ad108.add ((x6_3).toNat * 3)) = some (.int .u8 ((rd_T95 l0_1 x6_3).f0)) ∧ w'.cell? ⟨(ad108.add ((x6_3).toNat * 3)).block, (ad108.add ((x6_3).toNat * 3)).off + 1, none⟩ = some (.int .u8 ((rd_T95 l0_1 x6_3).f1)) ∧ w'.cell? ⟨(ad108.add ((x6_3).toNat * 3)).block, (ad108.add ((x6_3).toNat * 3)).off + 2, none⟩ = some (.int .u8 ((rd_T95 l0_1 x6_3).f2)) ∧ w'.cell? (ad108.add ((x6_3).toNat * 3)) = some (.int .u8 ((rd_T95 l0_1 x6_3).f0)) ∧ w'.cell? ⟨(ad108.add ((x6_3).toNat * 3)).block, (ad108.add ((x6_3).toNat * 3)).off + 1, none⟩ = some (.int .u8 ((rd_T95 l0_1 x6_3).f1)) ∧ w'.cell? ⟨(ad108.add ((x6_3).toNat * 3)).block, (ad108.add ((x6_3).toNat * 3)).off + 2, none⟩ = some (.int .u8 ((rd_T95 l0_1 x6_3).f2))) (ds := [32]) #[false, false, false, false, false, false, false, false, false, false, false, false, false, false, false, false, false, false, false, false, false, false, false, false, false, false, false, false, false, false, false, false, false] (by kernel_rfl) rfl rfl ⟨bC Q01 0, bC Q01 1, bC Q00 0, bC Q00 1, ((HB.out.cell (World.block_lt_of_cell? w _ hw108_0)).trans hw108_0), ((HB.out.cell (World.block_lt_of_cell? w _ hw108_1)).trans hw108_1), ((HB.out.cell (World.block_lt_of_cell? w _ hw108_2)).trans hw108_2), ((HB.out.cell (World.block_lt_of_cell? w _ hw109_0)).trans hw109_0), ((HB.out.cell (World.block_lt_of_cell? w _ hw109_1)).trans hw109_1), ((HB.out.cell (World.block_lt_of_cell? w _ hw109_2)).trans hw109_2), ((HB.out.cell (World.block_lt_of_cell? w _ hw110_0)).trans hw110_0), ((HB.out.cell (World.block_lt_of_cell? w _ hw110_1)).trans hw110_1), ((HB.out.cell (World.block_lt_of_cell? w _ hw110_2)).trans hw110_2)⟩ (fun hHeld => ?_); refine with_tabW scarfjointref05_Made.tab10 scarfjointref05_Made.bits10 (fun HT_ HW_ => ?_)
               generalize wc.drew = w42 at Q03 Q06 Q00 Q02 Q01 HB hx108_0 hx108_1 hx108_2 hx109_0 hx109_1 hx109_2 hx110_0 hx110_1 hx110_2 hHeld ⊢
               refine pure_ (i := 0) (N := some 48) (v := ?_) (a' := ?_) #[true, false, false, false, false, false, false, false, false, false, false, false, false, false, false, false, false, false, false, false, false, false, false, false, false, false, false, false, false, false, false, false, false] rfl rfl (any_of HT_.out (by kernel_rfl)) (fun _ _ _ h => h) (Or.inl ⟨by rfl, ?_⟩) ?_ ?_
               rotate_left
               ·intro w'
                go_simp
                with_reducible rfl
               rotate_left
               ·simp only [Act.put, List.setIfInBounds_toArray, List.set_cons_zero, List.set_cons_succ, i64_w, i32_w]
                rfl
               refine pure_ (i := 2) (N := some 50) (v := ?_) (a' := ?_) #[true, false, true, false, false, false, false, false, false, false, false, false, false, false, false, false, false, false, false, false, false, false, false, false, false, false, false, false, false, false, false, false, false] rfl rfl (any_of HT_.out (by kernel_rfl)) (fun _ _ _ h => h) (Or.inl ⟨by rfl, ?_⟩) ?_ ?_
               rotate_left
               ·intro w'
                go_simp
                with_reducible rfl
               rotate_left
               ·simp only [Act.put, List.setIfInBounds_toArray, List.set_cons_zero, List.set_cons_succ, i64_w, i32_w]
                rfl
               refine pure_ (i := 4) (N := some 52) (v := ?_) (a' := ?_) #[true, false, true, false, true, false, false, false, false, false, false, false, false, false, false, false, false, false, false, false, false, false, false, false, false, false, false, false, false, false, false, false, false] rfl rfl (any_of HT_.out (by kernel_rfl)) (fun _ _ _ h => h) (Or.inl ⟨by rfl, ?_⟩) ?_ ?_
               rotate_left
               ·intro w'
                go_simp
                with_reducible rfl
               rotate_left
               ·simp only [Act.put, List.setIfInBounds_toArray, List.set_cons_zero, List.set_cons_succ, i64_w, i32_w]
                rfl
               refine pure_ (i := 10) (N := some 58) (v := ?_) (a' := ?_) #[true, false, true, false, true, false, false, false, false, false, true, false, false, false, false, false, false, false, false, false, false, false, false, false, false, false, false, false, false, false, false, false, false] rfl rfl (any_of HT_.out (by kernel_rfl)) (fun _ _ _ h => h) (Or.inl ⟨by rfl, ?_⟩) ?_ ?_
               rotate_left
               ·intro w'
                go_simp
                with_reducible rfl
               rotate_left
               ·simp only [Act.put, List.setIfInBounds_toArray, List.set_cons_zero, List.set_cons_succ, i64_w, i32_w]
                rfl
               refine pure_ (i := 12) (N := some 60) (v := ?_) (a' := ?_) #[true, false, true, false, true, false, false, false, false, false, true, false, true, false, false, false, false, false, false, false, false, false, false, false, false, false, false, false, false, false, false, false, false] rfl rfl (any_of HT_.out (by kernel_rfl)) (fun _ _ _ h => h) (Or.inl ⟨by rfl, ?_⟩) ?_ ?_
               rotate_left
               ·intro w'
                go_simp
                with_reducible rfl
               rotate_left
               ·simp only [Act.put, List.setIfInBounds_toArray, List.set_cons_zero, List.set_cons_succ, i64_w, i32_w]
                rfl
               refine pure_ (i := 17) (N := some 65) (v := ?_) (a' := ?_) #[true, false, true, false, true, false, false, false, false, false, true, false, true, false, false, false, false, true, false, false, false, false, false, false, false, false, false, false, false, false, false, false, false] rfl rfl (any_of HT_.out (by kernel_rfl)) (fun _ _ _ h => h) (Or.inl ⟨by rfl, ?_⟩) ?_ ?_
               rotate_left
               ·intro w'
                go_simp
                with_reducible rfl
               rotate_left
               ·simp only [Act.put, List.setIfInBounds_toArray, List.set_cons_zero, List.set_cons_succ, i64_w, i32_w]
                rfl
               refine pure_ (i := 19) (N := some 67) (v := ?_) (a' := ?_) #[true, false, true, false, true, false, false, false, false, false, true, false, true, false, false, false, false, true, false, true, false, false, false, false, false, false, false, false, false, false, false, false, false] rfl rfl (any_of HT_.out (by kernel_rfl)) (fun _ _ _ h => h) (Or.inl ⟨by rfl, ?_⟩) ?_ ?_
               rotate_left
               ·intro w'
                go_simp
                with_reducible rfl
               rotate_left
               ·simp only [Act.put, List.setIfInBounds_toArray, List.set_cons_zero, List.set_cons_succ, i64_w, i32_w]
                rfl
               refine pure_ (i := 21) (N := some 69) (v := ?_) (a' := ?_) #[true, false, true, false, true, false, false, false, false, false, true, false, true, false, false, false, false, true, false, true, false, true, false, false, false, false, false, false, false, false, false, false, false] rfl rfl (any_of HT_.out (by kernel_rfl)) (fun _ _ _ h => h) (Or.inl ⟨by rfl, ?_⟩) ?_ ?_
               rotate_left
               ·intro w'
                go_simp
                with_reducible rfl
               rotate_left
               ·simp only [Act.put, List.setIfInBounds_toArray, List.set_cons_zero, List.set_cons_succ, i64_w, i32_w]
                rfl
               refine pure_ (i := 26) (N := some 74) (v := ?_) (a' := ?_) #[true, false, true, false, true, false, false, false, false, false, true, false, true, false, false, false, false, true, false, true, false, true, false, false, false, false, true, false, false, false, false, false, false] rfl rfl (any_of HT_.out (by kernel_rfl)) (fun _ _ _ h => h) (Or.inl ⟨by rfl, ?_⟩) ?_ ?_
               rotate_left
               ·intro w'
                go_simp
                with_reducible rfl
               rotate_left
               ·simp only [Act.put, List.setIfInBounds_toArray, List.set_cons_zero, List.set_cons_succ, i64_w, i32_w]
                rfl
               refine take_ (i := 1) (N := some 49) (v := ?_) (a' := ?_) #[true, true, true, false, true, false, false, false, false, false, true, false, true, false, false, false, false, true, false, true, false, true, false, false, false, false, true, false, false, false, false, false, false] rfl rfl (take_ofW HT_.out HW_.out (by kernel_rfl)) (fun _ _ _ h => h) (Or.inl ⟨by rfl, ?_⟩) hHeld ?_ ?_
               rotate_left
               ·rintro w' ⟨s0, s1, s2, s3, s4, s5, s6, s7, s8, s9, s10, s11, s12⟩
                go_simp
                with_reducible rfl
               rotate_left
               ·simp only [Act.put, List.setIfInBounds_toArray, List.set_cons_zero, List.set_cons_succ, i64_w, i32_w]
                rfl
               refine take_ (i := 3) (N := some 51) (v := ?_) (a' := ?_) #[true, true, true, true, true, false, false, false, false, false, true, false, true, false, false, false, false, true, false, true, false, true, false, false, false, false, true, false, false, false, false, false, false] rfl rfl (take_ofW HT_.out HW_.out (by kernel_rfl)) (fun _ _ _ h => h) (Or.inl ⟨by rfl, ?_⟩) hHeld ?_ ?_
               rotate_left
               ·rintro w' ⟨s0, s1, s2, s3, s4, s5, s6, s7, s8, s9, s10, s11, s12⟩
                go_simp
                with_reducible rfl
               rotate_left
               ·simp only [Act.put, List.setIfInBounds_toArray, List.set_cons_zero, List.set_cons_succ, i64_w, i32_w]
                rfl
               refine pure_ (i := 5) (N := some 53) (v := ?_) (a' := ?_) #[true, true, true, true, true, true, false, false, false, false, true, false, true, false, false, false, false, true, false, true, false, true, false, false, false, false, true, false, false, false, false, false, false] rfl rfl (any_of HT_.out (by kernel_rfl)) (fun _ _ _ h => h) (Or.inl ⟨by rfl, ?_⟩) ?_ ?_
               rotate_left
               ·intro w'
                go_simp
                with_reducible rfl
               rotate_left
               ·simp only [Act.put, List.setIfInBounds_toArray, List.set_cons_zero, List.set_cons_succ, i64_w, i32_w]
                rfl
               refine pure_ (i := 6) (N := some 54) (v := ?_) (a' := ?_) #[true, true, true, true, true, true, true, false, false, false, true, false, true, false, false, false, false, true, false, true, false, true, false, false, false, false, true, false, false, false, false, false, false] rfl rfl (any_of HT_.out (by kernel_rfl)) (fun _ _ _ h => h) (Or.inl ⟨by rfl, ?_⟩) ?_ ?_
               rotate_left
               ·intro w'
                go_simp
                with_reducible rfl
               rotate_left
               ·simp only [Act.put, List.setIfInBounds_toArray, List.set_cons_zero, List.set_cons_succ, i64_w, i32_w]
                rfl
               refine take_ (i := 7) (N := some 55) (v := ?_) (a' := ?_) #[true, true, true, true, true, true, true, true, false, false, true, false, true, false, false, false, false, true, false, true, false, true, false, false, false, false, true, false, false, false, false, false, false] rfl rfl (take_ofW HT_.out HW_.out (by kernel_rfl)) (fun _ _ _ h => h) (Or.inl ⟨by rfl, ?_⟩) hHeld ?_ ?_
               rotate_left
               ·rintro w' ⟨s0, s1, s2, s3, s4, s5, s6, s7, s8, s9, s10, s11, s12⟩
                go_simp
                with_reducible rfl
               rotate_left
               ·simp only [Act.put, List.setIfInBounds_toArray, List.set_cons_zero, List.set_cons_succ, i64_w, i32_w]
                rfl
               refine pure_ (i := 8) (N := some 56) (v := ?_) (a' := ?_) #[true, true, true, true, true, true, true, true, true, false, true, false, true, false, false, false, false, true, false, true, false, true, false, false, false, false, true, false, false, false, false, false, false] rfl rfl (any_of HT_.out (by kernel_rfl)) (fun _ _ _ h => h) (Or.inl ⟨by rfl, ?_⟩) ?_ ?_
               rotate_left
               ·intro w'
                go_simp
                with_reducible rfl
               rotate_left
               ·simp only [Act.put, List.setIfInBounds_toArray, List.set_cons_zero, List.set_cons_succ, i64_w, i32_w]
                rfl
               refine pure_ (i := 9) (N := some 57) (v := ?_) (a' := ?_) #[true, true, true, true, true, true, true, true, true, true, true, false, true, false, false, false, false, true, false, true, false, true, false, false, false, false, true, false, false, false, false, false, false] rfl rfl (any_of HT_.out (by kernel_rfl)) (fun _ _ _ h => h) (Or.inl ⟨by rfl, ?_⟩) ?_ ?_
               rotate_left
               ·intro w'
                go_simp
                with_reducible rfl
               rotate_left
               ·simp only [Act.put, List.setIfInBounds_toArray, List.set_cons_zero, List.set_cons_succ, i64_w, i32_w]
                rfl
               refine take_ (i := 11) (N := some 59) (v := ?_) (a' := ?_) #[true, true, true, true, true, true, true, true, true, true, true, true, true, false, false, false, false, true, false, true, false, true, false, false, false, false, true, false, false, false, false, false, false] rfl rfl (take_ofW HT_.out HW_.out (by kernel_rfl)) (fun _ _ _ h => h) (Or.inl ⟨by rfl, ?_⟩) hHeld ?_ ?_
               rotate_left
               ·rintro w' ⟨s0, s1, s2, s3, s4, s5, s6, s7, s8, s9, s10, s11, s12⟩
                go_simp
                with_reducible rfl
               rotate_left
               ·simp only [Act.put, List.setIfInBounds_toArray, List.set_cons_zero, List.set_cons_succ, i64_w, i32_w]
                rfl
               refine pure_ (i := 13) (N := some 61) (v := ?_) (a' := ?_) #[true, true, true, true, true, true, true, true, true, true, true, true, true, true, false, false, false, true, false, true, false, true, false, false, false, false, true, false, false, false, false, false, false] rfl rfl (any_of HT_.out (by kernel_rfl)) (fun _ _ _ h => h) (Or.inl ⟨by rfl, ?_⟩) ?_ ?_
               rotate_left
               ·intro w'
                go_simp
                with_reducible rfl
               rotate_left
               ·simp only [Act.put, List.setIfInBounds_toArray, List.set_cons_zero, List.set_cons_succ, i64_w, i32_w]
                rfl
               refine pure_ (i := 14) (N := some 62) (v := ?_) (a' := ?_) #[true, true, true, true, true, true, true, true, true, true, true, true, true, true, true, false, false, true, false, true, false, true, false, false, false, false, true, false, false, false, false, false, false] rfl rfl (any_of HT_.out (by kernel_rfl)) (fun _ _ _ h => h) (Or.inl ⟨by rfl, ?_⟩) ?_ ?_
               rotate_left
               ·intro w'
                go_simp
                with_reducible rfl
               rotate_left
               ·simp only [Act.put, List.setIfInBounds_toArray, List.set_cons_zero, List.set_cons_succ, i64_w, i32_w]
                rfl
               refine take_ (i := 15) (N := some 63) (v := ?_) (a' := ?_) #[true, true, true, true, true, true, true, true, true, true, true, true, true, true, true, true, false, true, false, true, false, true, false, false, false, false, true, false, false, false, false, false, false] rfl rfl (take_ofW HT_.out HW_.out (by kernel_rfl)) (fun _ _ _ h => h) (Or.inl ⟨by rfl, ?_⟩) hHeld ?_ ?_
               rotate_left
               ·rintro w' ⟨s0, s1, s2, s3, s4, s5, s6, s7, s8, s9, s10, s11, s12⟩
                go_simp
                with_reducible rfl
               rotate_left
               ·simp only [Act.put, List.setIfInBounds_toArray, List.set_cons_zero, List.set_cons_succ, i64_w, i32_w]
                rfl
               refine pure_ (i := 16) (N := some 64) (v := ?_) (a' := ?_) #[true, true, true, true, true, true, true, true, true, true, true, true, true, true, true, true, true, true, false, true, false, true, false, false, false, false, true, false, false, false, false, false, false] rfl rfl (any_of HT_.out (by kernel_rfl)) (fun _ _ _ h => h) (Or.inl ⟨by rfl, ?_⟩) ?_ ?_
               rotate_left
               ·intro w'
                go_simp
                with_reducible rfl
               rotate_left
               ·simp only [Act.put, List.setIfInBounds_toArray, List.set_cons_zero, List.set_cons_succ, i64_w, i32_w]
                rfl
               refine pure_ (i := 18) (N := some 66) (v := ?_) (a' := ?_) #[true, true, true, true, true, true, true, true, true, true, true, true, true, true, true, true, true, true, true, true, false, true, false, false, false, false, true, false, false, false, false, false, false] rfl rfl (any_of HT_.out (by kernel_rfl)) (fun _ _ _ h => h) (Or.inl ⟨by rfl, ?_⟩) ?_ ?_
               rotate_left
               ·intro w'
                go_simp
                with_reducible rfl
               rotate_left
               ·simp only [Act.put, List.setIfInBounds_toArray, List.set_cons_zero, List.set_cons_succ, i64_w, i32_w]
                rfl
               refine take_ (i := 20) (N := some 68) (v := ?_) (a' := ?_) #[true, true, true, true, true, true, true, true, true, true, true, true, true, true, true, true, true, true, true, true, true, true, false, false, false, false, true, false, false, false, false, false, false] rfl rfl (take_ofW HT_.out HW_.out (by kernel_rfl)) (fun _ _ _ h => h) (Or.inl ⟨by rfl, ?_⟩) hHeld ?_ ?_
               rotate_left
               ·rintro w' ⟨s0, s1, s2, s3, s4, s5, s6, s7, s8, s9, s10, s11, s12⟩
                go_simp
                with_reducible rfl
               rotate_left
               ·simp only [Act.put, List.setIfInBounds_toArray, List.set_cons_zero, List.set_cons_succ, i64_w, i32_w]
                rfl
               refine pure_ (i := 22) (N := some 70) (v := ?_) (a' := ?_) #[true, true, true, true, true, true, true, true, true, true, true, true, true, true, true, true, true, true, true, true, true, true, true, false, false, false, true, false, false, false, false, false, false] rfl rfl (any_of HT_.out (by kernel_rfl)) (fun _ _ _ h => h) (Or.inl ⟨by rfl, ?_⟩) ?_ ?_
               rotate_left
               ·intro w'
                go_simp
                with_reducible rfl
               rotate_left
               ·simp only [Act.put, List.setIfInBounds_toArray, List.set_cons_zero, List.set_cons_succ, i64_w, i32_w]
                rfl
               refine pure_ (i := 23) (N := some 71) (v := ?_) (a' := ?_) #[true, true, true, true, true, true, true, true, true, true, true, true, true, true, true, true, true, true, true, true, true, true, true, true, false, false, true, false, false, false, false, false, false] rfl rfl (any_of HT_.out (by kernel_rfl)) (fun _ _ _ h => h) (Or.inl ⟨by rfl, ?_⟩) ?_ ?_
               rotate_left
               ·intro w'
                go_simp
                with_reducible rfl
               rotate_left
               ·simp only [Act.put, List.setIfInBounds_toArray, List.set_cons_zero, List.set_cons_succ, i64_w, i32_w]
                rfl
               refine take_ (i := 24) (N := some 72) (v := ?_) (a' := ?_) #[true, true, true, true, true, true, true, true, true, true, true, true, true, true, true, true, true, true, true, true, true, true, true, true, true, false, true, false, false, false, false, false, false] rfl rfl (take_ofW HT_.out HW_.out (by kernel_rfl)) (fun _ _ _ h => h) (Or.inl ⟨by rfl, ?_⟩) hHeld ?_ ?_
               rotate_left
               ·rintro w' ⟨s0, s1, s2, s3, s4, s5, s6, s7, s8, s9, s10, s11, s12⟩
                go_simp
                with_reducible rfl
               rotate_left
               ·simp only [Act.put, List.setIfInBounds_toArray, List.set_cons_zero, List.set_cons_succ, i64_w, i32_w]
                rfl
               refine pure_ (i := 25) (N := some 73) (v := ?_) (a' := ?_) #[true, true, true, true, true, true, true, true, true, true, true, true, true, true, true, true, true, true, true, true, true, true, true, true, true, true, true, false, false, false, false, false, false] rfl rfl (any_of HT_.out (by kernel_rfl)) (fun _ _ _ h => h) (Or.inl ⟨by rfl, ?_⟩) ?_ ?_
               rotate_left
               ·intro w'
                go_simp
                with_reducible rfl
               rotate_left
               ·simp only [Act.put, List.setIfInBounds_toArray, List.set_cons_zero, List.set_cons_succ, i64_w, i32_w]
                rfl
               refine pure_ (i := 27) (N := some 75) (v := ?_) (a' := ?_) #[true, true, true, true, true, true, true, true, true, true, true, true, true, true, true, true, true, true, true, true, true, true, true, true, true, true, true, true, false, false, false, false, false] rfl rfl (any_of HT_.out (by kernel_rfl)) (fun _ _ _ h => h) (Or.inl ⟨by rfl, ?_⟩) ?_ ?_
               rotate_left
               ·intro w'
                go_simp
                with_reducible rfl
               rotate_left
               ·simp only [Act.put, List.setIfInBounds_toArray, List.set_cons_zero, List.set_cons_succ, i64_w, i32_w]
                rfl
               refine pure_ (i := 28) (N := some 76) (v := ?_) (a' := ?_) #[true, true, true, true, true, true, true, true, true, true, true, true, true, true, true, true, true, true, true, true, true, true, true, true, true, true, true, true, true, false, false, false, false] rfl rfl (any_of HT_.out (by kernel_rfl)) (fun _ _ _ h => h) (Or.inl ⟨by rfl, ?_⟩) ?_ ?_
               rotate_left
               ·intro w'
                go_simp
                with_reducible rfl
               rotate_left
               ·simp only [Act.put, List.setIfInBounds_toArray, List.set_cons_zero, List.set_cons_succ, i64_w, i32_w]
                rfl
               refine one_ (i := 29) (N := some 77) #[true, true, true, true, true, true, true, true, true, true, true, true, true, true, true, true, true, true, true, true, true, true, true, true, true, true, true, true, true, true, false, false, false] rfl rfl (one_of HT_.out (by kernel_rfl)) (by decide) (fun K hK => ?_)
               refine value_ (w1 := ?_) (v := ?_) (by rfl) rfl ?_ ?_
               rotate_left 2
               ·go_simp
                constructor
                ·rfl
                ·rfl
               refine hK.out _ _ ⟨(blk_cell (bA Q01.out _) 0).trans rfl, (blk_cell (bA Q01.out _) 1).trans rfl, (blk_cell (bA Q00.out _) 0).trans rfl, (blk_cell (bA Q00.out _) 1).trans rfl, (World.cell?_alloc_lt _ _ _ (World.block_lt_of_cell? _ _ (((HB.out.cell (World.block_lt_of_cell? w _ hw108_0)).trans hw108_0)))).trans (((HB.out.cell (World.block_lt_of_cell? w _ hw108_0)).trans hw108_0)), (World.cell?_alloc_lt _ _ _ (World.block_lt_of_cell? _ _ (((HB.out.cell (World.block_lt_of_cell? w _ hw108_1)).trans hw108_1)))).trans (((HB.out.cell (World.block_lt_of_cell? w _ hw108_1)).trans hw108_1)), (World.cell?_alloc_lt _ _ _ (World.block_lt_of_cell? _ _ (((HB.out.cell (World.block_lt_of_cell? w _ hw108_2)).trans hw108_2)))).trans (((HB.out.cell (World.block_lt_of_cell? w _ hw108_2)).trans hw108_2)), (World.cell?_alloc_lt _ _ _ (World.block_lt_of_cell? _ _ (((HB.out.cell (World.block_lt_of_cell? w _ hw109_0)).trans hw109_0)))).trans (((HB.out.cell (World.block_lt_of_cell? w _ hw109_0)).trans hw109_0)), (World.cell?_alloc_lt _ _ _ (World.block_lt_of_cell? _ _ (((HB.out.cell (World.block_lt_of_cell? w _ hw109_1)).trans hw109_1)))).trans (((HB.out.cell (World.block_lt_of_cell? w _ hw109_1)).trans hw109_1)), (World.cell?_alloc_lt _ _ _ (World.block_lt_of_cell? _ _ (((HB.out.cell (World.block_lt_of_cell? w _ hw109_2)).trans hw109_2)))).trans (((HB.out.cell (World.block_lt_of_cell? w _ hw109_2)).trans hw109_2)), (World.cell?_alloc_lt _ _ _ (World.block_lt_of_cell? _ _ (((HB.out.cell (World.block_lt_of_cell? w _ hw110_0)).trans hw110_0)))).trans (((HB.out.cell (World.block_lt_of_cell? w _ hw110_0)).trans hw110_0)), (World.cell?_alloc_lt _ _ _ (World.block_lt_of_cell? _ _ (((HB.out.cell (World.block_lt_of_cell? w _ hw110_1)).trans hw110_1)))).trans (((HB.out.cell (World.block_lt_of_cell? w _ hw110_1)).trans hw110_1)), (World.cell?_alloc_lt _ _ _ (World.block_lt_of_cell? _ _ (((HB.out.cell (World.block_lt_of_cell? w _ hw110_2)).trans hw110_2)))).trans (((HB.out.cell (World.block_lt_of_cell? w _ hw110_2)).trans hw110_2))⟩ (fun hHeld => ?_)
               clear hK K
               refine norm_ (a' := ?_) ?_ ?_
               rotate_left
               ·show Act.put _ (some 77) _ = _
                simp only [Act.put, List.setIfInBounds_toArray, List.set_cons_zero, List.set_cons_succ, i64_w, i32_w]
                rfl
               refine one_ (i := 30) (N := some 78) #[true, true, true, true, true, true, true, true, true, true, true, true, true, true, true, true, true, true, true, true, true, true, true, true, true, true, true, true, true, true, true, false, false] rfl rfl (one_of HT_.out (by kernel_rfl)) (by decide) (fun K hK => ?_)
               refine Kd.R_append_step k94 (w0 := w) w.heap.size (by rfl) (.tmp 49) (.tmp 77) 23 94 (.agg #[(.int .i64 0), (.int .i64 0), (.int .i64 0)]) 24 rfl Try.underlying23 info94 rfl (by decide) (by omega) u104001 x104001_3 (⟨wrap64 (Int.tmod ((rd_T95 l0_1 x6_3).f0) 2), Int.tmod (wrap64 ((rd_T95 l0_1 x6_3).f1)) (x104000_1.length : Int), Int.tmod (wrap64 ((rd_T95 l0_1 x6_3).f2)) (x104000_1.length : Int)⟩ : S94) [.int .i64 (wrap64 (Int.tmod ((rd_T95 l0_1 x6_3).f0) 2)), .int .i64 (Int.tmod (wrap64 ((rd_T95 l0_1 x6_3).f1)) (x104000_1.length : Int)), .int .i64 (Int.tmod (wrap64 ((rd_T95 l0_1 x6_3).f2)) (x104000_1.length : Int))] (fun _ => True) (fun _ => False) rfl rfl ?aP (fun _ hk => hk.elim) ?aF ?aO ?aB ?aS ?aL ?_
               (case aP => exact k94_mkM _ _ _ (⟨wrap64 (Int.tmod ((rd_T95 l0_1 x6_3).f0) 2), Int.tmod (wrap64 ((rd_T95 l0_1 x6_3).f1)) (x104000_1.length : Int), Int.tmod (wrap64 ((rd_T95 l0_1 x6_3).f2)) (x104000_1.length : Int)⟩ : S94))
               (case aB => exact (pH HB))
               (case aF => exact (fun _ _ => trivial))
               (case aO => exact (pR Q06))
               (case aS => exact (below_size (pH HB)))
               (case aL => have := LMc41.out; omega)
               intro v112 w43 ho hb hg hat
               rw [← Ny111.out] at ho
               replace Q03 := Aside0.mk (Kd.R_over' (pR Q03) (Kd.R_typed (pR Q06)) (by decide) hg)
               replace Q00 := Aside0.mk (bG (g := Q04) (o := .cells #[.slice A0_0 l0_0.length c0_0, .slice (some ad108) l0_1.length c0_1] 43 (0, 0)) (pB Q00) hg (Kd.R_ne Q06.out Q00.out (by decide)))
               replace Q02 := Aside0.mk (bG (g := Q07) (o := .cells #[.slice none 0 0, .slice none 0 0] 25 (0, 0)) (pB Q02) hg (Kd.R_ne Q06.out Q02.out (by decide)))
               replace Q01 := Aside0.mk (bG (g := Q05) (o := .cells #[.slice Q08 x104000_1.length Q09, u104001] 25 (0, 0)) (pB Q01) hg (Kd.R_ne Q06.out Q01.out (by decide)))
               replace HB := Aside0.mk (hb)
               have Q10 := Aside0.mk (ho)
               clear Q06
               clear ho hb hg hat
               obtain ⟨Q0o, Q0p, Q11⟩ := Kd.R_slice Q10.out
               (first | subst Q11 | (injection Q11 with f1_ f2_ f3_; have f4_ := f1_.symm; have f5_ := f3_.symm; clear f1_ f2_ f3_; subst f4_; subst f5_))
               refine hK.out _ _ ⟨bC Q01 0, bC Q01 1, bC Q00 0, bC Q00 1, ((HB.out.cell (World.block_lt_of_cell? w _ hw108_0)).trans hw108_0), ((HB.out.cell (World.block_lt_of_cell? w _ hw108_1)).trans hw108_1), ((HB.out.cell (World.block_lt_of_cell? w _ hw108_2)).trans hw108_2), ((HB.out.cell (World.block_lt_of_cell? w _ hw109_0)).trans hw109_0), ((HB.out.cell (World.block_lt_of_cell? w _ hw109_1)).trans hw109_1), ((HB.out.cell (World.block_lt_of_cell? w _ hw109_2)).trans hw109_2), ((HB.out.cell (World.block_lt_of_cell? w _ hw110_0)).trans hw110_0), ((HB.out.cell (World.block_lt_of_cell? w _ hw110_1)).trans hw110_1), ((HB.out.cell (World.block_lt_of_cell? w _ hw110_2)).trans hw110_2)⟩ (fun hHeld => ?_)
               clear hK K
               refine norm_ (a' := ?_) ?_ ?_
               rotate_left
               ·show Act.put _ (some 78) _ = _
                simp only [Act.put, List.setIfInBounds_toArray, List.set_cons_zero, List.set_cons_succ, i64_w, i32_w]
                rfl
               refine pure_ (i := 31) (N := some 79) (v := ?_) (a' := ?_) #[true, true, true, true, true, true, true, true, true, true, true, true, true, true, true, true, true, true, true, true, true, true, true, true, true, true, true, true, true, true, true, true, false] rfl rfl (any_of HT_.out (by kernel_rfl)) (fun _ _ _ h => h) (Or.inl ⟨by rfl, ?_⟩) ?_ ?_
               rotate_left
               ·intro w'
                go_simp
                with_reducible rfl
               rotate_left
               ·simp only [Act.put, List.setIfInBounds_toArray, List.set_cons_zero, List.set_cons_succ, i64_w, i32_w]
                rfl
               refine last_ (i := 32) (N := none) #[true, true, true, true, true, true, true, true, true, true, true, true, true, true, true, true, true, true, true, true, true, true, true, true, true, true, true, true, true, true, true, true, true] rfl rfl (one_of HT_.out (by kernel_rfl)) (by decide) (fun K hK => ?_)
               have Q2g : w43.cell? ⟨Q05, 1, none⟩ = some (u104001) := bC Q01 1
               have Q2h := blk_frozen Q01.out 1
               have Q2i := Q0a.out
               have Q2j := Q0e.out
               have Q2k := Q0b.out
               have Q2l := Q0f.out
               refine skip_ (w1 := ?_) (by rfl) rfl ?_ ?_
               rotate_left
               ·go_simp
                rfl
               refine hK.out _ _ ?_
               clear hK K
               refine done_ (done_of HT_.out (by kernel_rfl)) ?_
               try go_wp2
               go_roundg kj24
               case measure => have := HK1.out; have := HJ4.out; have := HK3.out; have := HJ24.out; omega
               case rel => exact ⟨(wrap64 (x6_3 + 1)), (y111), (.slice Q0o y111.length Q0p), rS, H', ⟨by have := HK1.out; have := HJ4.out; have := HK3.out; have := HJ24.out; omega⟩, ⟨by (with_reducible repeat (first | apply rA | apply rN | apply rD)); exact Kd.R_mono (Kd.R_far (p := ⟨Q05, 1, none⟩) (Kd.R_types Q03.out Q01.out (by decide)) (fun _ hk => hk.2) (.slice Q0o y111.length Q0p)) (fun _ hk => trivial)⟩, ⟨by (with_reducible repeat (first | apply rA | apply rN | apply rD)); exact Kd.R_mono (Kd.R_far (p := ⟨Q05, 1, none⟩) (Kd.R_types Q10.out Q01.out (by decide)) (fun _ hk => hk.2) (.slice Q0o y111.length Q0p)) (fun _ hk => trivial)⟩, ⟨by (with_reducible repeat (first | refine bN ?_ _ | refine bD ?_ | refine bA ?_ _)); refine blk_far ?_ Q0a.out _; (with_reducible repeat (first | refine bN ?_ _ | refine bD ?_ | refine bA ?_ _)); exact Q00.out⟩, ⟨by (with_reducible repeat (first | refine bN ?_ _ | refine bD ?_ | refine bA ?_ _)); refine blk_far ?_ Q0e.out _; (with_reducible repeat (first | refine bN ?_ _ | refine bD ?_ | refine bA ?_ _)); exact Q02.out⟩, ⟨by (with_reducible repeat (first | refine bN ?_ _ | refine bD ?_ | refine bA ?_ _)); refine blk_put (cs := #[.slice Q08 x104000_1.length Q09, u104001]) ?_ 1 _ rfl; (with_reducible repeat (first | refine bN ?_ _ | refine bD ?_ | refine bA ?_ _)); exact Q01.out⟩, ⟨pH HB⟩⟩
              ·rw [if_neg c41] at H
               exact absurd H (by simp)
            ·rw [if_neg c39] at H
             exact absurd H (by simp)
           ·rw [if_neg c38] at H
            exact absurd H (by simp)
          ·replace c37 := Bool.eq_false_iff.mpr c37
           subst c37
           have H1 : (some (x104000_1, x104001_3)) = some (r1, r2) := by rw [if_neg (show ¬ (false = true) by decide)] at H; exact H
           clear H
           have H := H1
           clear H1
           simp only [Option.some.injEq, Prod.mk.injEq] at H
           obtain ⟨rfl, rfl⟩ := H
           have Q2m := Q0b.out
           have Q2n := Q0a.out
           have Q2o := Q0f.out
           have Q2p := Q0e.out
           have Q2q : wc.cell? ⟨Q05, 0, none⟩ = some (.slice Q08 x104000_1.length Q09) := bC Q01 0
           have Q2r : wc.cell? ⟨Q05, 1, none⟩ = some (u104001) := bC Q01 1
           have Q2s := blk_frozen Q01.out 0
           have Q2t := blk_frozen Q01.out 1
           have Q2u := Q0d.out
           have Q2v := Q0c.out
           have Q2w : wc.cell? ⟨Q07, 0, none⟩ = some (.slice none 0 0) := bC Q02 0
           have Q2x : wc.cell? ⟨Q07, 1, none⟩ = some (.slice none 0 0) := bC Q02 1
           have Q2y := blk_frozen Q02.out 0
           have Q2z := blk_frozen Q02.out 1
           obtain ⟨Q0q, Q0r, Q1i⟩ := Kd.R_slice Q06.out
           subst Q1i
           go_wp2
           refine bodyPost_ret (results_cell_row rfl _ _ Q07 25 #[.slice Q08 x104000_1.length Q09, .slice Q0q x104001_3.length Q0r] (0, 0) _ rfl (by (with_reducible repeat (first | refine bN ?_ _ | refine bD ?_ | refine bA ?_ _)); refine blk_put (cs := #[.slice Q08 x104000_1.length Q09, .slice none 0 0]) ?_ 1 _ rfl; (with_reducible repeat (first | refine bN ?_ _ | refine bD ?_ | refine bA ?_ _)); refine blk_put (cs := #[.slice none 0 0, .slice none 0 0]) ?_ 0 _ rfl; (with_reducible repeat (first | refine bN ?_ _ | refine bD ?_ | refine bA ?_ _)); exact Q02.out) Try.underlying25 rfl (by kernel_rfl)) rfl ?_
           exact ⟨_, _, by first | rfl | (simp [errW_none, errW_some] <;> rfl) | (simp [*, errW_none, errW_some] <;> rfl), by (with_reducible repeat (first | apply rA | apply rN | apply rD)); exact Kd.R_mono (Kd.R_far (p := ⟨Q07, 1, none⟩) (Kd.R_far (p := ⟨Q07, 0, none⟩) (Kd.R_types Q03.out Q02.out (by decide)) (fun _ hk => hk.2) (.slice Q08 x104000_1.length Q09)) (fun _ hk => hk.2) (.slice Q0q x104001_3.length Q0r)) (fun _ hk => trivial), by (with_reducible repeat (first | apply rA | apply rN | apply rD)); exact Kd.R_mono (Kd.R_far (p := ⟨Q07, 1, none⟩) (Kd.R_far (p := ⟨Q07, 0, none⟩) (Kd.R_types Q06.out Q02.out (by decide)) (fun _ hk => hk.2) (.slice Q08 x104000_1.length Q09)) (fun _ hk => hk.2) (.slice Q0q x104001_3.length Q0r)) (fun _ hk => trivial), by repeat (first | (with_reducible first | exact HB.out | apply wA | apply wN | apply wD | refine below_set ?_ Q12.out | refine below_set ?_ Q13.out | refine below_set ?_ Q14.out) | exact HB.out)⟩
end Go.Proofs.Ytillofiphkmjjaa.X

/- Plain laws: the graph of a draft is valid. -/
namespace Go.Proofs.Ytillofiphkmjjaa.Pl
open Go.RowKit Go.Proofs.YtillofiphkmjjaaW.PrintWords Go.Proofs.Ytillofiphkmjjaa.X
set_option linter.unusedVariables false
theorem wrap_tmod {x : Int} {n : Int} (hx : 0 ≤ x) (hn : 0 < n) (hm : n ≤ 1000000) : wrap64 (x.tmod n) = x.tmod n ∧ 0 ≤ x.tmod n ∧ x.tmod n < n := by
 have h0 := Int.tmod_nonneg n hx
 have h1 := Int.tmod_lt_of_pos x hn
 refine ⟨?_, h0, h1⟩
 unfold wrap64
 omega
theorem wrap_byte {x : Int} (h : 0 ≤ x ∧ x ≤ 255) : wrap64 x = x := by unfold wrap64; omega
def okB (x : Int) : Prop := 0 ≤ x ∧ x ≤ 255
def okB3 (e : S95) : Prop := okB e.f0 ∧ okB e.f1 ∧ okB e.f2
theorem made_l1 (xn : List Int) (xe : List S95) (g : List Int) (hg : g.length ≤ 8) (hl : xe.length ≤ 1000000) (hy : ∀ e ∈ xe, okB3 e) : ∀ (d j : Nat) (acc : List S94), j + d = xe.length → acc.length ≤ j → j ≤ 10 → (∀ e ∈ acc, edgeB g.length e = true) →
  ∃ r, Ev (fun k => scarfjointref05_Made.l1 k (g.length : Int) (j : Int) xn xe g acc) (g, r) ∧ r.length ≤ 10 ∧ r.length ≤ xe.length ∧ ∀ e ∈ r, edgeB g.length e = true := by
 intro d
 induction d with
 | zero =>
  intro j acc hj ha hj2 hok
  refine ⟨acc, Ev.step (fun k => by simp only [scarfjointref05_Made.l1]; rw [if_neg (by omega)]) (Ev.step (fun k => by simp only [scarfjointref05_Made.j3]; rw [if_neg (by simp)]) (Ev.now _)), by omega, by omega, hok⟩
 | succ d ih =>
  intro j acc hj ha hj2 hok
  have hlt : (j : Int) < (xe.length : Int) := by omega
  by_cases h10 : (j : Int) < 10
  ·by_cases hp : (g.length : Int) > 0
   ·have c0 : (0 : Int) ≤ (j : Int) := by omega
    have c1 : ¬ (g.length : Int) = 0 := by omega
    have c2 : acc.length < 5864062014805 := by omega
    have c3 : j + 1 + d = xe.length := by omega
    have c4 : acc.length + 1 ≤ j + 1 := by omega
    have c5 : j + 1 ≤ 10 := by omega
    have c6 : (g.length : Int) ≤ 1000000 := by omega
    have ew : wrap64 ((j : Int) + 1) = ((j + 1 : Nat) : Int) := by unfold wrap64; omega
    have hx := hy _ (rd95_mem xe (j : Int) c0 hlt)
    obtain ⟨hx0, hx1, hx2⟩ := hx
    unfold okB at hx0 hx1 hx2
    have e1 := wrap_byte hx1
    have e2 := wrap_byte hx2
    obtain ⟨t1, t2, t3⟩ := wrap_tmod (n := 2) hx0.1 (by decide) (by decide)
    obtain ⟨-, u2, u3⟩ := wrap_tmod (n := (g.length : Int)) hx1.1 hp c6
    obtain ⟨-, v2, v3⟩ := wrap_tmod (n := (g.length : Int)) hx2.1 hp c6
    obtain ⟨r, hr, h1, h2, h3⟩ := ih (j + 1) (acc ++ [(⟨(rd_T95 xe (j : Int)).f0.tmod 2, (rd_T95 xe (j : Int)).f1.tmod g.length, (rd_T95 xe (j : Int)).f2.tmod g.length⟩ : S94)]) c3 (by rw [List.length_append]; exact c4) c5 (fun e he => by
     rcases List.mem_append.mp he with he | he
     ·exact hok e he
     ·rw [List.mem_singleton.mp he]
      unfold edgeB kindB
      simp only [Bool.and_eq_true, decide_eq_true_eq]
      exact ⟨⟨t2, Int.le_trans (Int.le_of_lt t3) (by decide)⟩, ⟨u2, u3⟩, v2, v3⟩)
    have d1 : decide ((g.length : Int) > 0) = true := decide_eq_true hp
    refine ⟨r, ?_, h1, h2, h3⟩
    refine Ev.step (f := fun k => scarfjointref05_Made.j3 k (g.length : Int) (j : Int) true xn xe g acc) (fun k => ?_) (Ev.step (fun k => ?_) hr)
    ·simp only [scarfjointref05_Made.l1]
     rw [if_pos hlt, if_pos h10, d1]
    ·simp only [scarfjointref05_Made.j3]
     rw [if_pos trivial, if_pos c0, if_pos hlt, if_neg c1, if_pos c2, e1, e2, t1, ew]
   ·refine ⟨acc, Ev.step (fun k => by simp only [scarfjointref05_Made.l1]; rw [if_pos hlt, if_pos h10, decide_eq_false hp]) (Ev.step (fun k => by simp only [scarfjointref05_Made.j3]; rw [if_neg (by decide)]) (Ev.now _)), by omega, by omega, hok⟩
  ·refine ⟨acc, Ev.step (fun k => by simp only [scarfjointref05_Made.l1]; rw [if_pos hlt, if_neg h10]) (Ev.step (fun k => by simp only [scarfjointref05_Made.j3]; rw [if_neg (by simp)]) (Ev.now _)), by omega, by omega, hok⟩
theorem made_l0 (xn : List Int) (xe : List S95) (hl : xn.length ≤ 1000000) (hm : xe.length ≤ 1000000) (hx : ∀ x ∈ xn, okB x) (hy : ∀ e ∈ xe, okB3 e) : ∀ (d j : Nat) (acc : List Int), j + d = xn.length → acc.length ≤ j → j ≤ 8 → (∀ t ∈ acc, kindB t = true) →
  ∃ g r, Ev (fun k => scarfjointref05_Made.l0 k (j : Int) xn xe acc) (g, r) ∧ validE g r = 0 ∧ g.length ≤ 8 ∧ g.length ≤ xn.length ∧ r.length ≤ 10 ∧ r.length ≤ xe.length := by
 have fin : ∀ (j : Nat) (acc : List Int), acc.length ≤ j → j ≤ 8 → acc.length ≤ xn.length → (∀ t ∈ acc, kindB t = true) → ∃ g r, Ev (fun k => scarfjointref05_Made.j1 k (j : Int) false xn xe acc) (g, r) ∧ validE g r = 0 ∧ g.length ≤ 8 ∧ g.length ≤ xn.length ∧ r.length ≤ 10 ∧ r.length ≤ xe.length := by
  intro j acc ha hj hn hok
  obtain ⟨r, hr0, h1, h2, h3⟩ := made_l1 xn xe acc (by omega) hm hy xe.length 0 [] (by omega) (by simp) (by omega) (by simp)
  have hr : Ev (fun k => scarfjointref05_Made.l1 k (acc.length : Int) 0 xn xe acc []) (acc, r) := hr0
  exact ⟨acc, r, Ev.step (fun k => by simp only [scarfjointref05_Made.j1]; rw [if_neg (by simp)]) hr, validE_iff.mpr ⟨by omega, by omega, hok, h3⟩, by omega, hn, h1, h2⟩
 intro d
 induction d with
 | zero =>
  intro j acc hj ha hj2 hok
  obtain ⟨g, r, hr, h⟩ := fin j acc ha hj2 (by omega) hok
  exact ⟨g, r, Ev.step (fun k => by simp only [scarfjointref05_Made.l0]; rw [if_neg (by omega)]) hr, h⟩
 | succ d ih =>
  intro j acc hj ha hj2 hok
  have hlt : (j : Int) < (xn.length : Int) := by omega
  by_cases h8 : (j : Int) < 8
  ·have hxj := hx _ (rd_mem xn (j : Int) (by omega) hlt)
   unfold okB at hxj
   have ew : wrap64 ((j : Int) + 1) = ((j + 1 : Nat) : Int) := by unfold wrap64; omega
   have c0 : (0 : Int) ≤ (j : Int) := by omega
   have c2 : acc.length < 17592186044416 := by omega
   have c3 : j + 1 + d = xn.length := by omega
   have c4 : acc.length + 1 ≤ j + 1 := by omega
   have c5 : j + 1 ≤ 8 := by omega
   obtain ⟨t1, t2, t3⟩ := wrap_tmod (n := 3) hxj.1 (by decide) (by decide)
   obtain ⟨g, r, hr, h⟩ := ih (j + 1) (acc ++ [(rd xn (j : Int)).tmod 3]) c3 (by rw [List.length_append]; exact c4) c5 (fun t ht => by
    rcases List.mem_append.mp ht with ht | ht
    ·exact hok t ht
    ·rw [List.mem_singleton.mp ht]
     unfold kindB
     simp only [Bool.and_eq_true, decide_eq_true_eq]
     exact ⟨t2, Int.le_trans (Int.le_of_lt t3) (by decide)⟩)
   exact ⟨g, r, Ev.step (fun k => by simp only [scarfjointref05_Made.l0]; rw [if_pos hlt]) (Ev.step (fun k => by simp only [scarfjointref05_Made.j1]; rw [if_pos (decide_eq_true h8), if_pos c0, if_pos hlt, if_pos c2, t1, ew]) hr), h⟩
  ·obtain ⟨g, r, hr, h⟩ := fin j acc ha hj2 (by omega) hok
   refine ⟨g, r, Ev.step (fun k => by simp only [scarfjointref05_Made.l0]; rw [if_pos hlt, decide_eq_false h8]) hr, h⟩
theorem made_ev (xn : List Int) (xe : List S95) (hl : xn.length ≤ 1000000) (hm : xe.length ≤ 1000000) (hx : ∀ x ∈ xn, okB x) (hy : ∀ e ∈ xe, okB3 e) :
  ∃ g r, Ev (fun k => scarfjointref05_Made.f k xn xe) (g, r) ∧ validE g r = 0 ∧ g.length ≤ 8 ∧ g.length ≤ xn.length ∧ r.length ≤ 10 ∧ r.length ≤ xe.length := by
 unfold scarfjointref05_Made.f
 exact made_l0 xn xe hl hm hx hy xn.length 0 [] (by omega) (by simp) (by omega) (by simp)
end Go.Proofs.Ytillofiphkmjjaa.Pl

/- scarfjointref11.Made (19), walked by hand: what it returns is a valid cospan. -/
namespace Go.Proofs.Ytillofiphkmjjaa.X
open Go.RowKit Go.Proofs.YtillofiphkmjjaaW.PrintWords Go.Proofs.YtillofiphkmjjaaW.PrintLast Go.Proofs.YtillofiphkmjjaaW.PrintMore Go.Proofs.Ytillofiphkmjjaa.Pl
set_option linter.unusedVariables false
set_option linter.unusedSimpArgs false
theorem rowsD {g : List Int} {r : List S94} {Y0 Y1 : Option Addr} {y0 y1 : Nat} {W : World} {Q : World → Prop} (h : Two (VrW (Kd.int .i64) (.slice Y0 g.length y0) g) (Two (VrW k94 (.slice Y1 r.length y1) r) Q) W) : Row (Kd.int .i64) W Y0 y0 g ∧ Row k94 W Y1 y1 r := by
 obtain ⟨⟨A, c, e, h0⟩⟩ := h.l.r
 obtain ⟨⟨B, d, f, h1⟩⟩ := h.r.l.r
 cases e
 cases f
 exact ⟨h0, h1⟩
set_option maxHeartbeats 4000000 in
set_option maxRecDepth 100000 in
theorem Made_calls (A0 : Option Addr) (c0 : Nat) (xn0 : List Int) (A1 : Option Addr) (c1 : Nat) (xe0 : List S95) (A2 : Option Addr) (c2 : Nat) (xn1 : List Int) (A3 : Option Addr) (c3 : Nat) (xe1 : List S95) (A4 : Option Addr) (c4 : Nat) (xn2 : List Int) (A5 : Option Addr) (c5 : Nat) (xe2 : List S95) (w : World)
  (R0 : Row (Kd.int .u8) w A0 c0 xn0) (R1 : Row k95 w A1 c1 xe0) (R2 : Row (Kd.int .u8) w A2 c2 xn1) (R3 : Row k95 w A3 c3 xe1) (R4 : Row (Kd.int .u8) w A4 c4 xn2) (R5 : Row k95 w A5 c5 xe2)
  (h0 : ∀ x ∈ xn0, okB x) (l0 : xn0.length ≤ 1000000) (h1 : ∀ x ∈ xe0, okB3 x) (l1 : xe0.length ≤ 1000000) (h2 : ∀ x ∈ xn1, okB x) (l2 : xn1.length ≤ 1000000) (h3 : ∀ x ∈ xe1, okB3 x) (l3 : xe1.length ≤ 1000000) (h4 : ∀ x ∈ xn2, okB x) (l4 : xn2.length ≤ 1000000) (h5 : ∀ x ∈ xe2, okB3 x) (l5 : xe2.length ≤ 1000000) :
  Calls Try.prog 19 #[.agg #[.slice A0 xn0.length c0, .slice A1 xe0.length c1, .slice A2 xn1.length c2, .slice A3 xe1.length c3, .slice A4 xn2.length c4, .slice A5 xe2.length c5]] w fun e w' => ∃ (s0 : List Int) (s1 : List S94) (s2 : List Int) (s3 : List S94) (s4 : List Int) (s5 : List S94) (s6 : List Int) (s7 : List Int) (s8 : List Int) (s9 : List Int) (v0 v1 v2 v3 v4 v5 v6 v7 v8 v9 : Value), e = .returned (.agg #[v0, v1, v2, v3, v4, v5, v6, v7, v8, v9]) ∧ Vr (Kd.int .i64) w' v0 s0 ∧ Vr k94 w' v1 s1 ∧ Vr (Kd.int .i64) w' v2 s2 ∧ Vr k94 w' v3 s3 ∧ Vr (Kd.int .i64) w' v4 s4 ∧ Vr k94 w' v5 s5 ∧ Vr (Kd.int .i64) w' v6 s6 ∧ Vr (Kd.int .i64) w' v7 s7 ∧ Vr (Kd.int .i64) w' v8 s8 ∧ Vr (Kd.int .i64) w' v9 s9 ∧ Below w.heap.size w w' ∧ mvalid s0 s1 s4 s5 s6 s7 = 0 ∧ mvalid s2 s3 s4 s5 s8 s9 = 0 ∧ s0.length ≤ xn1.length ∧ s1.length ≤ xe1.length ∧ s2.length ≤ xn2.length ∧ s3.length ≤ xe2.length := by
 have hu25 := Try.underlying25
 have hu27 := Try.underlying27
 have hu29 := Try.underlying29
 have hu43 := Try.underlying43
 have hu44 := Try.underlying44
 have hu46 := Try.underlying46
 have H0 := Aside0.mk (And.intro h0 (And.intro h1 (And.intro h2 (And.intro h3 (And.intro h4 h5)))))
 have L0 := Aside0.mk (And.intro l0 (And.intro l1 (And.intro l2 (And.intro l3 (And.intro l4 l5)))))
 clear h0 h1 h2 h3 h4 h5 l0 l1 l2 l3 l4 l5
 go_enter Try.func19, Try.ntmps19
 go_upto_region 1 with fail
 obtain ⟨w1, hv, BX, B2, hb⟩ := nw2 w 46 #[.slice A0 xn0.length c0, .slice A1 xe0.length c1, .slice A2 xn1.length c2, .slice A3 xe1.length c3, .slice A4 xn2.length c4, .slice A5 xe2.length c5] 29 #[.slice none 0 0, .slice none 0 0, .slice none 0 0, .slice none 0 0, .slice none 0 0, .slice none 0 0, .slice none 0 0, .slice none 0 0, .slice none 0 0, .slice none 0 0]
 rw [← hv]
 have S0 : Since w w1 := ⟨hb⟩
 have SB := Since.refl w1
 have n2 : w.heap.size ≤ w.heap.size + 1 := Nat.le_succ _
 clear hv hb
 generalize w.heap.size + 1 = g2 at *
 obtain ⟨_, _, _, _, _, _⟩ := BX.q6
 go_wp2_with fail
 obtain ⟨g, r, ⟨K0, hK0⟩, vd, z1, z2, z3, z4⟩ := made_ev xn0 xe0 L0.out.1 L0.out.2.1 H0.out.1 H0.out.2.1
 replace vd := Aside0.mk vd
 refine (scarfjointref05_Made.calls K0 _ _ xn0 _ _ xe0 g r _ (R0.below S0.get).at_ R0.cap (R1.below S0.get).at_ R1.cap (hK0 _ (Nat.le_refl _))).mono ?_
 rintro e w2 ⟨y0, y1, rfl, q0, q1, hb⟩
 clear hK0 z1 z2 z3 z4
 obtain ⟨Y0, y0, rfl, Q0⟩ := (Vr.of_R q0).get
 obtain ⟨Y1, y1, rfl, Q1⟩ := (Vr.of_R q1).get
 have RS := cV ⟨_, _, rfl, Q0⟩ (cV ⟨_, _, rfl, Q1⟩ ⟨trivial⟩ : Two _ TrueW w2)
 clear q0 q1 Q0 Q1
 replace SB := SB.step hb
 clear hb
 go_upto_region 2 with fail
 have hle : w1.heap.size ≤ w2.heap.size := SB.get.size
 obtain ⟨w3, hv, BS, hb⟩ := nw1 w2 29 #[.slice none 0 0, .slice none 0 0, .slice none 0 0, .slice none 0 0, .slice Y0 g.length y0, .slice Y1 r.length y1, .slice none 0 0, .slice none 0 0, .slice none 0 0, .slice none 0 0]
 rw [← hv]
 clear hv
 replace RS := mo hb RS
 replace SB := SB.step hb
 clear hb
 generalize w2.heap.size = g3 at *
 obtain ⟨_, _, _, _, _, _⟩ := (BX.below SB.get).q6
 obtain ⟨_, _, _, _, _, _, _, _, _, _⟩ := BS.q10
 go_wp2_with fail
 obtain ⟨DN, DE⟩ := rowsD RS
 refine (Over_calls _ _ g _ _ r _ _ xn1 _ _ xe1 _ DN DE (R2.below (S0.step SB.get).get) (R3.below (S0.step SB.get).get) vd.out H0.out.2.2.1 H0.out.2.2.2.1).mono ?_
 rintro e w5 ⟨gn1, ge1, mn1, me1, v0, v1, v2, v3, rfl, r0, r1, r2, r3, hb, mv1, -, a1, -, b1⟩
 replace mv1 := Aside0.mk mv1
 replace a1 := Aside0.mk a1
 replace b1 := Aside0.mk b1
 clear DN DE
 obtain ⟨B1_0, B1_0_, rfl, -⟩ := r0.get
 obtain ⟨B1_1, B1_1_, rfl, -⟩ := r1.get
 obtain ⟨B1_2, B1_2_, rfl, -⟩ := r2.get
 obtain ⟨B1_3, B1_3_, rfl, -⟩ := r3.get
 replace RS := mo hb RS
 replace BS := BS.below hb
 replace SB := SB.step hb
 clear hb
 replace RS := cV r0 (cV r1 (cV r2 (cV r3 (RS))))
 clear r0 r1 r2 r3
 go_upto_region 3 with (first | ((with_reducible refine gate_store (t := 25) (p := 16) (v := .tmp 14) rfl ?_); refine wpl_store rfl rfl 25 (.tmp 16) (.tmp 14) rfl g3 0 29 [.slice none 0 0, .slice none 0 0, .slice none 0 0, .slice none 0 0, .slice Y0 g.length y0, .slice Y1 r.length y1, .slice none 0 0, .slice none 0 0, .slice none 0 0, .slice none 0 0] [.slice B1_0 gn1.length B1_0_, .slice B1_1 ge1.length B1_1_] rfl rfl (by kernel_rfl) ⟨⟨_, _, _, rfl⟩, ⟨_, _, _, rfl⟩, trivial⟩ BS ⟨⟨_, _, _, rfl⟩, ⟨_, _, _, rfl⟩, ⟨_, _, _, rfl⟩, ⟨_, _, _, rfl⟩, ⟨_, _, _, rfl⟩, ⟨_, _, _, rfl⟩, ⟨_, _, _, rfl⟩, ⟨_, _, _, rfl⟩, ⟨_, _, _, rfl⟩, ⟨_, _, _, rfl⟩, trivial⟩ (Nat.le_of_ble_eq_true rfl) RS SB hle ?_; clear RS SB BS; intro w5a RS BS SB; replace BS : Blk w5a g3 29 #[.slice B1_0 gn1.length B1_0_, .slice B1_1 ge1.length B1_1_, .slice none 0 0, .slice none 0 0, .slice Y0 g.length y0, .slice Y1 r.length y1, .slice none 0 0, .slice none 0 0, .slice none 0 0, .slice none 0 0] := BS; obtain ⟨_, _, _, _, _, _, _, _, _, _⟩ := BS.q10; skip) | ((with_reducible refine gate_store (t := 27) (p := 17) (v := .tmp 15) rfl ?_); refine wpl_store rfl rfl 27 (.tmp 17) (.tmp 15) rfl g3 6 29 [.slice B1_0 gn1.length B1_0_, .slice B1_1 ge1.length B1_1_, .slice none 0 0, .slice none 0 0, .slice Y0 g.length y0, .slice Y1 r.length y1, .slice none 0 0, .slice none 0 0, .slice none 0 0, .slice none 0 0] [.slice B1_2 mn1.length B1_2_, .slice B1_3 me1.length B1_3_] rfl rfl (by kernel_rfl) ⟨⟨_, _, _, rfl⟩, ⟨_, _, _, rfl⟩, trivial⟩ BS ⟨⟨_, _, _, rfl⟩, ⟨_, _, _, rfl⟩, ⟨_, _, _, rfl⟩, ⟨_, _, _, rfl⟩, ⟨_, _, _, rfl⟩, ⟨_, _, _, rfl⟩, ⟨_, _, _, rfl⟩, ⟨_, _, _, rfl⟩, ⟨_, _, _, rfl⟩, ⟨_, _, _, rfl⟩, trivial⟩ (Nat.le_of_ble_eq_true rfl) RS SB hle ?_; clear RS SB BS; intro w5b RS BS SB; replace BS : Blk w5b g3 29 #[.slice B1_0 gn1.length B1_0_, .slice B1_1 ge1.length B1_1_, .slice none 0 0, .slice none 0 0, .slice Y0 g.length y0, .slice Y1 r.length y1, .slice B1_2 mn1.length B1_2_, .slice B1_3 me1.length B1_3_, .slice none 0 0, .slice none 0 0] := BS; obtain ⟨_, _, _, _, _, _, _, _, _, _⟩ := BS.q10; skip))
 obtain ⟨_, _, _, _, _, _⟩ := (BX.below SB.get).q6
 obtain ⟨_, _, _, _, _, _, _, _, _, _⟩ := BS.q10
 go_wp2_with fail
 obtain ⟨DN, DE⟩ := rowsD RS.r.r.r.r
 refine (Over_calls _ _ g _ _ r _ _ xn2 _ _ xe2 _ DN DE (R4.below (S0.step SB.get).get) (R5.below (S0.step SB.get).get) vd.out H0.out.2.2.2.2.1 H0.out.2.2.2.2.2).mono ?_
 rintro e w6 ⟨gn2, ge2, mn2, me2, v0, v1, v2, v3, rfl, r0, r1, r2, r3, hb, mv2, -, a2, -, b2⟩
 replace mv2 := Aside0.mk mv2
 replace a2 := Aside0.mk a2
 replace b2 := Aside0.mk b2
 clear DN DE
 obtain ⟨B2_0, B2_0_, rfl, -⟩ := r0.get
 obtain ⟨B2_1, B2_1_, rfl, -⟩ := r1.get
 obtain ⟨B2_2, B2_2_, rfl, -⟩ := r2.get
 obtain ⟨B2_3, B2_3_, rfl, -⟩ := r3.get
 replace RS := mo hb RS
 replace BS := BS.below hb
 replace SB := SB.step hb
 clear hb
 replace RS := cV r0 (cV r1 (cV r2 (cV r3 (RS))))
 clear r0 r1 r2 r3
 go_upto_region 4 with (first | ((with_reducible refine gate_store (t := 25) (p := 26) (v := .tmp 24) rfl ?_); refine wpl_store rfl rfl 25 (.tmp 26) (.tmp 24) rfl g3 2 29 [.slice B1_0 gn1.length B1_0_, .slice B1_1 ge1.length B1_1_, .slice none 0 0, .slice none 0 0, .slice Y0 g.length y0, .slice Y1 r.length y1, .slice B1_2 mn1.length B1_2_, .slice B1_3 me1.length B1_3_, .slice none 0 0, .slice none 0 0] [.slice B2_0 gn2.length B2_0_, .slice B2_1 ge2.length B2_1_] rfl rfl (by kernel_rfl) ⟨⟨_, _, _, rfl⟩, ⟨_, _, _, rfl⟩, trivial⟩ BS ⟨⟨_, _, _, rfl⟩, ⟨_, _, _, rfl⟩, ⟨_, _, _, rfl⟩, ⟨_, _, _, rfl⟩, ⟨_, _, _, rfl⟩, ⟨_, _, _, rfl⟩, ⟨_, _, _, rfl⟩, ⟨_, _, _, rfl⟩, ⟨_, _, _, rfl⟩, ⟨_, _, _, rfl⟩, trivial⟩ (Nat.le_of_ble_eq_true rfl) RS SB hle ?_; clear RS SB BS; intro w6a RS BS SB; replace BS : Blk w6a g3 29 #[.slice B1_0 gn1.length B1_0_, .slice B1_1 ge1.length B1_1_, .slice B2_0 gn2.length B2_0_, .slice B2_1 ge2.length B2_1_, .slice Y0 g.length y0, .slice Y1 r.length y1, .slice B1_2 mn1.length B1_2_, .slice B1_3 me1.length B1_3_, .slice none 0 0, .slice none 0 0] := BS; obtain ⟨_, _, _, _, _, _, _, _, _, _⟩ := BS.q10; skip) | ((with_reducible refine gate_store (t := 27) (p := 27) (v := .tmp 25) rfl ?_); refine wpl_store rfl rfl 27 (.tmp 27) (.tmp 25) rfl g3 8 29 [.slice B1_0 gn1.length B1_0_, .slice B1_1 ge1.length B1_1_, .slice B2_0 gn2.length B2_0_, .slice B2_1 ge2.length B2_1_, .slice Y0 g.length y0, .slice Y1 r.length y1, .slice B1_2 mn1.length B1_2_, .slice B1_3 me1.length B1_3_, .slice none 0 0, .slice none 0 0] [.slice B2_2 mn2.length B2_2_, .slice B2_3 me2.length B2_3_] rfl rfl (by kernel_rfl) ⟨⟨_, _, _, rfl⟩, ⟨_, _, _, rfl⟩, trivial⟩ BS ⟨⟨_, _, _, rfl⟩, ⟨_, _, _, rfl⟩, ⟨_, _, _, rfl⟩, ⟨_, _, _, rfl⟩, ⟨_, _, _, rfl⟩, ⟨_, _, _, rfl⟩, ⟨_, _, _, rfl⟩, ⟨_, _, _, rfl⟩, ⟨_, _, _, rfl⟩, ⟨_, _, _, rfl⟩, trivial⟩ (Nat.le_of_ble_eq_true rfl) RS SB hle ?_; clear RS SB BS; intro w6b RS BS SB; replace BS : Blk w6b g3 29 #[.slice B1_0 gn1.length B1_0_, .slice B1_1 ge1.length B1_1_, .slice B2_0 gn2.length B2_0_, .slice B2_1 ge2.length B2_1_, .slice Y0 g.length y0, .slice Y1 r.length y1, .slice B1_2 mn1.length B1_2_, .slice B1_3 me1.length B1_3_, .slice B2_2 mn2.length B2_2_, .slice B2_3 me2.length B2_3_] := BS; obtain ⟨_, _, _, _, _, _, _, _, _, _⟩ := BS.q10; skip))
 replace B2 := B2.below SB.get
 replace SB := S0.step SB.get
 obtain ⟨_, _, _, _, _, _, _, _, _, _⟩ := BS.q10
 go_wp2_with (first | ((with_reducible refine gate_store (t := 29) (p := 2) (v := .tmp 28) rfl ?_); refine wpl_store rfl rfl 29 (.tmp 2) (.tmp 28) rfl g2 0 29 [.slice none 0 0, .slice none 0 0, .slice none 0 0, .slice none 0 0, .slice none 0 0, .slice none 0 0, .slice none 0 0, .slice none 0 0, .slice none 0 0, .slice none 0 0] [.slice B1_0 gn1.length B1_0_, .slice B1_1 ge1.length B1_1_, .slice B2_0 gn2.length B2_0_, .slice B2_1 ge2.length B2_1_, .slice Y0 g.length y0, .slice Y1 r.length y1, .slice B1_2 mn1.length B1_2_, .slice B1_3 me1.length B1_3_, .slice B2_2 mn2.length B2_2_, .slice B2_3 me2.length B2_3_] rfl rfl (by kernel_rfl) ⟨⟨_, _, _, rfl⟩, ⟨_, _, _, rfl⟩, ⟨_, _, _, rfl⟩, ⟨_, _, _, rfl⟩, ⟨_, _, _, rfl⟩, ⟨_, _, _, rfl⟩, ⟨_, _, _, rfl⟩, ⟨_, _, _, rfl⟩, ⟨_, _, _, rfl⟩, ⟨_, _, _, rfl⟩, trivial⟩ B2 ⟨⟨_, _, _, rfl⟩, ⟨_, _, _, rfl⟩, ⟨_, _, _, rfl⟩, ⟨_, _, _, rfl⟩, ⟨_, _, _, rfl⟩, ⟨_, _, _, rfl⟩, ⟨_, _, _, rfl⟩, ⟨_, _, _, rfl⟩, ⟨_, _, _, rfl⟩, ⟨_, _, _, rfl⟩, trivial⟩ (Nat.le_of_ble_eq_true rfl) RS SB n2 ?_; clear RS SB B2; intro wz RS B2 SB; replace B2 : Blk wz g2 29 #[.slice B1_0 gn1.length B1_0_, .slice B1_1 ge1.length B1_1_, .slice B2_0 gn2.length B2_0_, .slice B2_1 ge2.length B2_1_, .slice Y0 g.length y0, .slice Y1 r.length y1, .slice B1_2 mn1.length B1_2_, .slice B1_3 me1.length B1_3_, .slice B2_2 mn2.length B2_2_, .slice B2_3 me2.length B2_3_] := B2; skip))
 rcases RS with ⟨⟨c0⟩, ⟨⟨c1⟩, ⟨⟨c2⟩, ⟨⟨c3⟩, ⟨⟨d0⟩, ⟨⟨d1⟩, ⟨⟨d2⟩, ⟨⟨d3⟩, ⟨⟨e0⟩, ⟨⟨e1⟩, -⟩⟩⟩⟩⟩⟩⟩⟩⟩⟩
 refine bodyPost_ret (results_single rfl (.cell g2 29 _ (0, 0) _ rfl B2.get Try.underlying29 rfl (by kernel_rfl) .nil)) rfl ?_
 exact ⟨_, _, _, _, _, _, _, _, _, _, _, _, _, _, _, _, _, _, _, _, rfl, d0, d1, c0, c1, e0, e1, d2, d3, c2, c3, SB.get, mv1.out, mv2.out, a1.out, b1.out, a2.out, b2.out⟩
end Go.Proofs.Ytillofiphkmjjaa.X

namespace Go.Proofs.Ytillofiphkmjjaa.X
open Go.RowKit Go.Proofs.YtillofiphkmjjaaW.PrintWords Go.Proofs.YtillofiphkmjjaaW.PrintLast Go.Proofs.YtillofiphkmjjaaW.PrintMore
open Go.Proofs.YtillofiphkmjjaaW.PrintWords renaming blk_drewN → bN, blk_drew → bD, blk_alloc → bA, below_alloc → wA, pw_below_drewN → wN, below_drew1 → wD, blk_below → bB, below_step → wS, blk_at → bT, blk_grown → bG
open Go.Proofs.YtillofiphkmjjaaW.PrintWords.Kd renaming R_alloc → rA, R_drewN → rN, R_drew → rD, R_below → rB, R_grown → rG, C_below → cB, C_alloc → cA, C_drewN → cN, C_drew → cD
attribute [local go_sem] max2_int min2_int max_two min_two max_three min_three max_four min_four
set_option linter.unusedVariables false
set_option linter.unusedSimpArgs false
/-! ### scarfjointlaw11_few: function 18 -/
def scarfjointlaw11_few.f (l0_0 : List Int) (l0_1 : List (S95)) (l0_2 : List Int) (l0_3 : List (S95)) (l0_4 : List Int) (l0_5 : List (S95)) : Option (Bool) := if (l0_0.length : Int) ≤ 4 then (if (l0_1.length : Int) ≤ 4 then (if (l0_2.length : Int) ≤ 4 then (if (l0_3.length : Int) ≤ 4 then (if (l0_4.length : Int) ≤ 4 then (some (decide ((l0_5.length : Int) ≤ 4))) else (some false)) else (some false)) else (some false)) else (some false)) else (some false)
set_option maxHeartbeats 8000000 in
set_option maxRecDepth 100000 in
theorem scarfjointlaw11_few.calls (A0_0 : Option Addr) (c0_0 : Nat) (l0_0 : List Int) (A0_1 : Option Addr) (c0_1 : Nat) (l0_1 : List (S95)) (A0_2 : Option Addr) (c0_2 : Nat) (l0_2 : List Int) (A0_3 : Option Addr) (c0_3 : Nat) (l0_3 : List (S95)) (A0_4 : Option Addr) (c0_4 : Nat) (l0_4 : List Int) (A0_5 : Option Addr) (c0_5 : Nat) (l0_5 : List (S95)) (r : Bool) (w : World) (hr0_0 : Kd.C (Kd.int .u8) w A0_0 l0_0.length l0_0) (hc0_0 : l0_0.length ≤ c0_0) (hr0_1 : Kd.C k95 w A0_1 l0_1.length l0_1) (hc0_1 : l0_1.length ≤ c0_1) (hr0_2 : Kd.C (Kd.int .u8) w A0_2 l0_2.length l0_2) (hc0_2 : l0_2.length ≤ c0_2) (hr0_3 : Kd.C k95 w A0_3 l0_3.length l0_3) (hc0_3 : l0_3.length ≤ c0_3) (hr0_4 : Kd.C (Kd.int .u8) w A0_4 l0_4.length l0_4) (hc0_4 : l0_4.length ≤ c0_4) (hr0_5 : Kd.C k95 w A0_5 l0_5.length l0_5) (hc0_5 : l0_5.length ≤ c0_5) (h : scarfjointlaw11_few.f l0_0 l0_1 l0_2 l0_3 l0_4 l0_5 = some r) :
  Calls Try.prog 18 #[.agg #[.slice A0_0 l0_0.length c0_0, .slice A0_1 l0_1.length c0_1, .slice A0_2 l0_2.length c0_2, .slice A0_3 l0_3.length c0_3, .slice A0_4 l0_4.length c0_4, .slice A0_5 l0_5.length c0_5]] w fun e w' => e = .returned (.bool r) ∧ Below w.heap.size w w' := by
 have hu46 := Try.underlying46
 have HR0_0 := Aside0.mk hr0_0
 have HC0_0 := Aside0.mk hc0_0
 clear hr0_0 hc0_0
 have HR0_1 := Aside0.mk hr0_1
 have HC0_1 := Aside0.mk hc0_1
 clear hr0_1 hc0_1
 have HR0_2 := Aside0.mk hr0_2
 have HC0_2 := Aside0.mk hc0_2
 clear hr0_2 hc0_2
 have HR0_3 := Aside0.mk hr0_3
 have HC0_3 := Aside0.mk hc0_3
 clear hr0_3 hc0_3
 have HR0_4 := Aside0.mk hr0_4
 have HC0_4 := Aside0.mk hc0_4
 clear hr0_4 hc0_4
 have HR0_5 := Aside0.mk hr0_5
 have HC0_5 := Aside0.mk hc0_5
 clear hr0_5 hc0_5
 have HB := Aside0.mk (Below.refl w.heap.size w)
 have H : (if (l0_0.length : Int) ≤ 4 then (if (l0_1.length : Int) ≤ 4 then (if (l0_2.length : Int) ≤ 4 then (if (l0_3.length : Int) ≤ 4 then (if (l0_4.length : Int) ≤ 4 then (some (decide ((l0_5.length : Int) ≤ 4))) else (some false)) else (some false)) else (some false)) else (some false)) else (some false)) = some r := h
 clear h
 by_cases c2 : (l0_0.length : Int) ≤ 4
 ·rw [if_pos c2] at H
  have c2b0 : decide ((l0_0.length : Int) ≤ 4) = true := decide_eq_true c2
  have c2b1 : decide (l0_0.length ≤ 4) = true := decide_eq_true (by omega)
  clear c2
  by_cases c3 : (l0_1.length : Int) ≤ 4
  ·rw [if_pos c3] at H
   have c3b0 : decide ((l0_1.length : Int) ≤ 4) = true := decide_eq_true c3
   have c3b1 : decide (l0_1.length ≤ 4) = true := decide_eq_true (by omega)
   clear c3
   by_cases c4 : (l0_2.length : Int) ≤ 4
   ·rw [if_pos c4] at H
    have c4b0 : decide ((l0_2.length : Int) ≤ 4) = true := decide_eq_true c4
    have c4b1 : decide (l0_2.length ≤ 4) = true := decide_eq_true (by omega)
    clear c4
    by_cases c5 : (l0_3.length : Int) ≤ 4
    ·rw [if_pos c5] at H
     have c5b0 : decide ((l0_3.length : Int) ≤ 4) = true := decide_eq_true c5
     have c5b1 : decide (l0_3.length ≤ 4) = true := decide_eq_true (by omega)
     clear c5
     by_cases c6 : (l0_4.length : Int) ≤ 4
     ·rw [if_pos c6] at H
      have c6b0 : decide ((l0_4.length : Int) ≤ 4) = true := decide_eq_true c6
      have c6b1 : decide (l0_4.length ≤ 4) = true := decide_eq_true (by omega)
      clear c6
      obtain rfl := Option.some.inj H
      go_enter Try.func18, Try.ntmps18
      go_wp2_with (first | ((with_reducible refine gate_dst (N := 1) rfl ?_); (try (refine gate_guard (by rfl) ?_; dsimp only)); refine box_event ?hg (N := 1) ?hd (cs := #[.slice A0_0 l0_0.length c0_0, .slice A0_1 l0_1.length c0_1, .slice A0_2 l0_2.length c0_2, .slice A0_3 l0_3.length c0_3, .slice A0_4 l0_4.length c0_4, .slice A0_5 l0_5.length c0_5]) (t := 46) ?hr ?_; (case hd => rfl); (case hg => rfl); (case hr => first | (go_simp; done) | (go_simp; rfl)); intro Q01 hg w7 hbox hb; have Q00 := Aside0.mk (hbox); have Q03 := Aside0.mk ((by rw [hg]; exact (below_size hB) : w.heap.size ≤ Q01)); have Q02 := Aside0.mk ((by rw [hg]; exact (below_size hB) : w.heap.size ≤ Q01)); replace HB := uH HB hb; clear hb hbox hg; have Q04 : w7.cell? ⟨Q01, 0, none⟩ = some (.slice A0_0 l0_0.length c0_0) := bC Q00 0; have Q05 : w7.cell? ⟨Q01, 1, none⟩ = some (.slice A0_1 l0_1.length c0_1) := bC Q00 1; have Q06 : w7.cell? ⟨Q01, 2, none⟩ = some (.slice A0_2 l0_2.length c0_2) := bC Q00 2; have Q07 : w7.cell? ⟨Q01, 3, none⟩ = some (.slice A0_3 l0_3.length c0_3) := bC Q00 3; have Q08 : w7.cell? ⟨Q01, 4, none⟩ = some (.slice A0_4 l0_4.length c0_4) := bC Q00 4; have Q09 : w7.cell? ⟨Q01, 5, none⟩ = some (.slice A0_5 l0_5.length c0_5) := bC Q00 5; have Q0a := blk_frozen Q00.out 0; have Q0b := blk_frozen Q00.out 1; have Q0c := blk_frozen Q00.out 2; have Q0d := blk_frozen Q00.out 3; have Q0e := blk_frozen Q00.out 4; have Q0f := blk_frozen Q00.out 5))
      go_ret
      exact ⟨by first | rfl | (simp [errW_none, errW_some] <;> rfl) | (simp [*, errW_none, errW_some] <;> rfl), by repeat (first | (with_reducible first | exact HB.out | apply wA | apply wN | apply wD | refine below_set ?_ Q02.out) | exact HB.out)⟩
     ·rw [if_neg c6] at H
      have c6b0 : decide ((l0_4.length : Int) ≤ 4) = false := decide_eq_false c6
      have c6b1 : decide (l0_4.length ≤ 4) = false := decide_eq_false (by omega)
      clear c6
      obtain rfl := Option.some.inj H
      go_enter Try.func18, Try.ntmps18
      go_wp2_with (first | ((with_reducible refine gate_dst (N := 1) rfl ?_); (try (refine gate_guard (by rfl) ?_; dsimp only)); refine box_event ?hg (N := 1) ?hd (cs := #[.slice A0_0 l0_0.length c0_0, .slice A0_1 l0_1.length c0_1, .slice A0_2 l0_2.length c0_2, .slice A0_3 l0_3.length c0_3, .slice A0_4 l0_4.length c0_4, .slice A0_5 l0_5.length c0_5]) (t := 46) ?hr ?_; (case hd => rfl); (case hg => rfl); (case hr => first | (go_simp; done) | (go_simp; rfl)); intro Q01 hg w9 hbox hb; have Q00 := Aside0.mk (hbox); have Q03 := Aside0.mk ((by rw [hg]; exact (below_size hB) : w.heap.size ≤ Q01)); have Q02 := Aside0.mk ((by rw [hg]; exact (below_size hB) : w.heap.size ≤ Q01)); replace HB := uH HB hb; clear hb hbox hg; have Q0g : w9.cell? ⟨Q01, 0, none⟩ = some (.slice A0_0 l0_0.length c0_0) := bC Q00 0; have Q0h : w9.cell? ⟨Q01, 1, none⟩ = some (.slice A0_1 l0_1.length c0_1) := bC Q00 1; have Q0i : w9.cell? ⟨Q01, 2, none⟩ = some (.slice A0_2 l0_2.length c0_2) := bC Q00 2; have Q0j : w9.cell? ⟨Q01, 3, none⟩ = some (.slice A0_3 l0_3.length c0_3) := bC Q00 3; have Q0k : w9.cell? ⟨Q01, 4, none⟩ = some (.slice A0_4 l0_4.length c0_4) := bC Q00 4; have Q0l : w9.cell? ⟨Q01, 5, none⟩ = some (.slice A0_5 l0_5.length c0_5) := bC Q00 5; have Q0m := blk_frozen Q00.out 0; have Q0n := blk_frozen Q00.out 1; have Q0o := blk_frozen Q00.out 2; have Q0p := blk_frozen Q00.out 3; have Q0q := blk_frozen Q00.out 4; have Q0r := blk_frozen Q00.out 5))
      go_ret
      exact ⟨by first | rfl | (simp [errW_none, errW_some] <;> rfl) | (simp [*, errW_none, errW_some] <;> rfl), by repeat (first | (with_reducible first | exact HB.out | apply wA | apply wN | apply wD | refine below_set ?_ Q02.out) | exact HB.out)⟩
    ·rw [if_neg c5] at H
     have c5b0 : decide ((l0_3.length : Int) ≤ 4) = false := decide_eq_false c5
     have c5b1 : decide (l0_3.length ≤ 4) = false := decide_eq_false (by omega)
     clear c5
     obtain rfl := Option.some.inj H
     go_enter Try.func18, Try.ntmps18
     go_wp2_with (first | ((with_reducible refine gate_dst (N := 1) rfl ?_); (try (refine gate_guard (by rfl) ?_; dsimp only)); refine box_event ?hg (N := 1) ?hd (cs := #[.slice A0_0 l0_0.length c0_0, .slice A0_1 l0_1.length c0_1, .slice A0_2 l0_2.length c0_2, .slice A0_3 l0_3.length c0_3, .slice A0_4 l0_4.length c0_4, .slice A0_5 l0_5.length c0_5]) (t := 46) ?hr ?_; (case hd => rfl); (case hg => rfl); (case hr => first | (go_simp; done) | (go_simp; rfl)); intro Q01 hg w11 hbox hb; have Q00 := Aside0.mk (hbox); have Q03 := Aside0.mk ((by rw [hg]; exact (below_size hB) : w.heap.size ≤ Q01)); have Q02 := Aside0.mk ((by rw [hg]; exact (below_size hB) : w.heap.size ≤ Q01)); replace HB := uH HB hb; clear hb hbox hg; have Q0s : w11.cell? ⟨Q01, 0, none⟩ = some (.slice A0_0 l0_0.length c0_0) := bC Q00 0; have Q0t : w11.cell? ⟨Q01, 1, none⟩ = some (.slice A0_1 l0_1.length c0_1) := bC Q00 1; have Q0u : w11.cell? ⟨Q01, 2, none⟩ = some (.slice A0_2 l0_2.length c0_2) := bC Q00 2; have Q0v : w11.cell? ⟨Q01, 3, none⟩ = some (.slice A0_3 l0_3.length c0_3) := bC Q00 3; have Q0w : w11.cell? ⟨Q01, 4, none⟩ = some (.slice A0_4 l0_4.length c0_4) := bC Q00 4; have Q0x : w11.cell? ⟨Q01, 5, none⟩ = some (.slice A0_5 l0_5.length c0_5) := bC Q00 5; have Q0y := blk_frozen Q00.out 0; have Q0z := blk_frozen Q00.out 1; have Q10 := blk_frozen Q00.out 2; have Q11 := blk_frozen Q00.out 3; have Q12 := blk_frozen Q00.out 4; have Q13 := blk_frozen Q00.out 5))
     go_ret
     exact ⟨by first | rfl | (simp [errW_none, errW_some] <;> rfl) | (simp [*, errW_none, errW_some] <;> rfl), by repeat (first | (with_reducible first | exact HB.out | apply wA | apply wN | apply wD | refine below_set ?_ Q02.out) | exact HB.out)⟩
   ·rw [if_neg c4] at H
    have c4b0 : decide ((l0_2.length : Int) ≤ 4) = false := decide_eq_false c4
    have c4b1 : decide (l0_2.length ≤ 4) = false := decide_eq_false (by omega)
    clear c4
    obtain rfl := Option.some.inj H
    go_enter Try.func18, Try.ntmps18
    go_wp2_with (first | ((with_reducible refine gate_dst (N := 1) rfl ?_); (try (refine gate_guard (by rfl) ?_; dsimp only)); refine box_event ?hg (N := 1) ?hd (cs := #[.slice A0_0 l0_0.length c0_0, .slice A0_1 l0_1.length c0_1, .slice A0_2 l0_2.length c0_2, .slice A0_3 l0_3.length c0_3, .slice A0_4 l0_4.length c0_4, .slice A0_5 l0_5.length c0_5]) (t := 46) ?hr ?_; (case hd => rfl); (case hg => rfl); (case hr => first | (go_simp; done) | (go_simp; rfl)); intro Q01 hg w13 hbox hb; have Q00 := Aside0.mk (hbox); have Q03 := Aside0.mk ((by rw [hg]; exact (below_size hB) : w.heap.size ≤ Q01)); have Q02 := Aside0.mk ((by rw [hg]; exact (below_size hB) : w.heap.size ≤ Q01)); replace HB := uH HB hb; clear hb hbox hg; have Q14 : w13.cell? ⟨Q01, 0, none⟩ = some (.slice A0_0 l0_0.length c0_0) := bC Q00 0; have Q15 : w13.cell? ⟨Q01, 1, none⟩ = some (.slice A0_1 l0_1.length c0_1) := bC Q00 1; have Q16 : w13.cell? ⟨Q01, 2, none⟩ = some (.slice A0_2 l0_2.length c0_2) := bC Q00 2; have Q17 : w13.cell? ⟨Q01, 3, none⟩ = some (.slice A0_3 l0_3.length c0_3) := bC Q00 3; have Q18 : w13.cell? ⟨Q01, 4, none⟩ = some (.slice A0_4 l0_4.length c0_4) := bC Q00 4; have Q19 : w13.cell? ⟨Q01, 5, none⟩ = some (.slice A0_5 l0_5.length c0_5) := bC Q00 5; have Q1a := blk_frozen Q00.out 0; have Q1b := blk_frozen Q00.out 1; have Q1c := blk_frozen Q00.out 2; have Q1d := blk_frozen Q00.out 3; have Q1e := blk_frozen Q00.out 4; have Q1f := blk_frozen Q00.out 5))
    go_ret
    exact ⟨by first | rfl | (simp [errW_none, errW_some] <;> rfl) | (simp [*, errW_none, errW_some] <;> rfl), by repeat (first | (with_reducible first | exact HB.out | apply wA | apply wN | apply wD | refine below_set ?_ Q02.out) | exact HB.out)⟩
  ·rw [if_neg c3] at H
   have c3b0 : decide ((l0_1.length : Int) ≤ 4) = false := decide_eq_false c3
   have c3b1 : decide (l0_1.length ≤ 4) = false := decide_eq_false (by omega)
   clear c3
   obtain rfl := Option.some.inj H
   go_enter Try.func18, Try.ntmps18
   go_wp2_with (first | ((with_reducible refine gate_dst (N := 1) rfl ?_); (try (refine gate_guard (by rfl) ?_; dsimp only)); refine box_event ?hg (N := 1) ?hd (cs := #[.slice A0_0 l0_0.length c0_0, .slice A0_1 l0_1.length c0_1, .slice A0_2 l0_2.length c0_2, .slice A0_3 l0_3.length c0_3, .slice A0_4 l0_4.length c0_4, .slice A0_5 l0_5.length c0_5]) (t := 46) ?hr ?_; (case hd => rfl); (case hg => rfl); (case hr => first | (go_simp; done) | (go_simp; rfl)); intro Q01 hg w15 hbox hb; have Q00 := Aside0.mk (hbox); have Q03 := Aside0.mk ((by rw [hg]; exact (below_size hB) : w.heap.size ≤ Q01)); have Q02 := Aside0.mk ((by rw [hg]; exact (below_size hB) : w.heap.size ≤ Q01)); replace HB := uH HB hb; clear hb hbox hg; have Q1g : w15.cell? ⟨Q01, 0, none⟩ = some (.slice A0_0 l0_0.length c0_0) := bC Q00 0; have Q1h : w15.cell? ⟨Q01, 1, none⟩ = some (.slice A0_1 l0_1.length c0_1) := bC Q00 1; have Q1i : w15.cell? ⟨Q01, 2, none⟩ = some (.slice A0_2 l0_2.length c0_2) := bC Q00 2; have Q1j : w15.cell? ⟨Q01, 3, none⟩ = some (.slice A0_3 l0_3.length c0_3) := bC Q00 3; have Q1k : w15.cell? ⟨Q01, 4, none⟩ = some (.slice A0_4 l0_4.length c0_4) := bC Q00 4; have Q1l : w15.cell? ⟨Q01, 5, none⟩ = some (.slice A0_5 l0_5.length c0_5) := bC Q00 5; have Q1m := blk_frozen Q00.out 0; have Q1n := blk_frozen Q00.out 1; have Q1o := blk_frozen Q00.out 2; have Q1p := blk_frozen Q00.out 3; have Q1q := blk_frozen Q00.out 4; have Q1r := blk_frozen Q00.out 5))
   go_ret
   exact ⟨by first | rfl | (simp [errW_none, errW_some] <;> rfl) | (simp [*, errW_none, errW_some] <;> rfl), by repeat (first | (with_reducible first | exact HB.out | apply wA | apply wN | apply wD | refine below_set ?_ Q02.out) | exact HB.out)⟩
 ·rw [if_neg c2] at H
  have c2b0 : decide ((l0_0.length : Int) ≤ 4) = false := decide_eq_false c2
  have c2b1 : decide (l0_0.length ≤ 4) = false := decide_eq_false (by omega)
  clear c2
  obtain rfl := Option.some.inj H
  go_enter Try.func18, Try.ntmps18
  go_wp2_with (first | ((with_reducible refine gate_dst (N := 1) rfl ?_); (try (refine gate_guard (by rfl) ?_; dsimp only)); refine box_event ?hg (N := 1) ?hd (cs := #[.slice A0_0 l0_0.length c0_0, .slice A0_1 l0_1.length c0_1, .slice A0_2 l0_2.length c0_2, .slice A0_3 l0_3.length c0_3, .slice A0_4 l0_4.length c0_4, .slice A0_5 l0_5.length c0_5]) (t := 46) ?hr ?_; (case hd => rfl); (case hg => rfl); (case hr => first | (go_simp; done) | (go_simp; rfl)); intro Q01 hg w17 hbox hb; have Q00 := Aside0.mk (hbox); have Q03 := Aside0.mk ((by rw [hg]; exact (below_size hB) : w.heap.size ≤ Q01)); have Q02 := Aside0.mk ((by rw [hg]; exact (below_size hB) : w.heap.size ≤ Q01)); replace HB := uH HB hb; clear hb hbox hg; have Q1s : w17.cell? ⟨Q01, 0, none⟩ = some (.slice A0_0 l0_0.length c0_0) := bC Q00 0; have Q1t : w17.cell? ⟨Q01, 1, none⟩ = some (.slice A0_1 l0_1.length c0_1) := bC Q00 1; have Q1u : w17.cell? ⟨Q01, 2, none⟩ = some (.slice A0_2 l0_2.length c0_2) := bC Q00 2; have Q1v : w17.cell? ⟨Q01, 3, none⟩ = some (.slice A0_3 l0_3.length c0_3) := bC Q00 3; have Q1w : w17.cell? ⟨Q01, 4, none⟩ = some (.slice A0_4 l0_4.length c0_4) := bC Q00 4; have Q1x : w17.cell? ⟨Q01, 5, none⟩ = some (.slice A0_5 l0_5.length c0_5) := bC Q00 5; have Q1y := blk_frozen Q00.out 0; have Q1z := blk_frozen Q00.out 1; have Q20 := blk_frozen Q00.out 2; have Q21 := blk_frozen Q00.out 3; have Q22 := blk_frozen Q00.out 4; have Q23 := blk_frozen Q00.out 5))
  go_ret
  exact ⟨by first | rfl | (simp [errW_none, errW_some] <;> rfl) | (simp [*, errW_none, errW_some] <;> rfl), by repeat (first | (with_reducible first | exact HB.out | apply wA | apply wN | apply wD | refine below_set ?_ Q02.out) | exact HB.out)⟩
end Go.Proofs.Ytillofiphkmjjaa.X

/- Plain laws: the mediating morphism of a cone; the exchanged pullback. -/
namespace Go.Proofs.Ytillofiphkmjjaa.Pl
open Go.RowKit Go.Proofs.YtillofiphkmjjaaW.PrintWords Go.Proofs.Ytillofiphkmjjaa.X
set_option linter.unusedVariables false
abbrev pl2 (P : List S79) (h k : List Int) : List Int := List.zipWith (plc 0 P) h k
theorem meets_some (P : List S79) : ∀ (h k : List Int), h.length = k.length → (∀ j : Nat, j < h.length → (⟨rd h j, rd k j⟩ : S79) ∈ P) → meets P h k = some (pl2 P h k) := by
 intro h
 induction h with
 | nil => intro k hk _; cases k with
  | nil => rfl
  | cons => simp at hk
 | cons x r ih =>
  intro k hk hm
  cases k with
  | nil => simp at hk
  | cons y s =>
   have h0 : (⟨x, y⟩ : S79) ∈ P := hm 0 (by simp)
   have ih' := ih s (by simpa using hk) (fun j hj => by
    have := hm (j + 1) (by simp; omega)
    rwa [rd_cons_succ, rd_cons_succ] at this)
   obtain ⟨p0, -⟩ := plc_mem h0
   unfold meets
   rw [if_neg (by omega), ih']
   rfl
theorem rd_pl2 (P : List S79) (h k : List Int) (i : Int) (h0 : 0 ≤ i) (h1 : i < (h.length : Int)) (e : h.length = k.length) : rd (pl2 P h k) i = plc 0 P (rd h i) (rd k i) := by
 obtain ⟨j, rfl⟩ : ∃ j : Nat, i = (j : Int) := ⟨i.toNat, by omega⟩
 have hj : j < h.length := by omega
 rw [rd_get _ _ (by rw [List.length_zipWith]; omega), rd_get _ _ hj, rd_get _ _ (by omega), List.getElem_zipWith]
theorem pl2_len (P : List S79) (h k : List Int) (e : h.length = k.length) : (pl2 P h k).length = h.length := by rw [List.length_zipWith, ← e, Nat.min_self]
section
variable {x0 : List Int} {x1 : List S94} {x2 : List Int} {x3 : List S94} {x4 : List Int} {x5 : List S94} {x6 x7 x8 x9 : List Int} {y0 : List Int} {y1 : List S94} {h0 h1 k0 k1 : List Int}
theorem med_valid (m1 : mvalid x0 x1 x4 x5 x6 x7 = 0) (m2 : mvalid x2 x3 x4 x5 x8 x9 = 0) (hP : (rows x8 0 x6).length ≤ 40) (hQ : (rows x9 0 x7).length ≤ 80) (hh : mvalid y0 y1 x0 x1 h0 h1 = 0) (hk : mvalid y0 y1 x2 x3 k0 k1 = 0)
  (cn : ∀ j : Nat, j < h0.length → (⟨rd h0 j, rd k0 j⟩ : S79) ∈ rows x8 0 x6) (ce : ∀ j : Nat, j < h1.length → (⟨rd h1 j, rd k1 j⟩ : S79) ∈ rows x9 0 x7) :
  mvalid y0 y1 ((rows x8 0 x6).map (fun p => rd x0 p.f0)) ((rows x9 0 x7).map (edg x1 x3 (rows x8 0 x6))) (pl2 (rows x8 0 x6) h0 k0) (pl2 (rows x9 0 x7) h1 k1) = 0 := by
 obtain ⟨vy, -, a1, a2, a3, a4⟩ := mvalid_iff.mp hh
 obtain ⟨-, -, b1, b2, b3, b4⟩ := mvalid_iff.mp hk
 have e0 : h0.length = k0.length := by omega
 have e1 : h1.length = k1.length := by omega
 refine mvalid_iff.mpr ⟨vy, pb_validE m1 m2 hP hQ, by rw [pl2_len _ _ _ e0, a1], by rw [pl2_len _ _ _ e1, a2], fun j hj => ?_, fun j hj => ?_⟩
 ·rw [pl2_len _ _ _ e0] at hj
  rw [rd_pl2 _ _ _ _ (by omega) (by omega) e0]
  obtain ⟨p0, p1, p2, -⟩ := plc_mem (cn j hj)
  rw [List.length_map, rd_map79 _ _ _ p0 p1, p2]
  exact ⟨p0, p1, (a3 j hj).2.2⟩
 ·rw [pl2_len _ _ _ e1] at hj
  rw [rd_pl2 _ _ _ _ (by omega) (by omega) e1]
  obtain ⟨p0, p1, p2, p3⟩ := plc_mem (ce j hj)
  obtain ⟨-, -, t1, t2, t3⟩ := a4 j hj
  obtain ⟨-, -, -, u2, u3⟩ := b4 j (by omega)
  obtain ⟨-, f1, f2, f3, f4⟩ := edge_facts vy (j : Int) (by omega) (by omega)
  rw [List.length_map, rd_map94 _ _ _ p0 p1]
  unfold edg
  rw [p2, p3]
  refine ⟨p0, p1, t1, ?_, ?_⟩
  ·rw [rd_pl2 _ _ _ _ f1 (by omega) e0, t2, u2]
  ·rw [rd_pl2 _ _ _ _ f3 (by omega) e0, t3, u3]
theorem swap_mem {p : S79} {f g : List Int} : p ∈ rows f 0 g ↔ (⟨p.f1, p.f0⟩ : S79) ∈ rows g 0 f := by
 rw [rows_mem, rows_mem]
 constructor
 ·rintro ⟨a, b, c, d, e⟩; exact ⟨c, d, a, b, e.symm⟩
 ·rintro ⟨a, b, c, d, e⟩; exact ⟨c, d, a, b, e.symm⟩
theorem swap_len (f g : List Int) : (rows f 0 g).length = (rows g 0 f).length := by
 have h : ∀ (f g : List Int), (rows f 0 g).length ≤ (rows g 0 f).length := by
  intro f g
  have d : ((rows f 0 g).map (fun p : S79 => (⟨p.f1, p.f0⟩ : S79))).Nodup := by
   rw [List.nodup_iff_pairwise_ne, List.pairwise_map]
   refine (List.nodup_iff_pairwise_ne.mp (rows_nodup f g 0)).imp (fun {a b} hab e => hab ?_)
   obtain ⟨a0, a1⟩ := a
   obtain ⟨b0, b1⟩ := b
   simp only [S79.mk.injEq] at e ⊢
   exact ⟨e.2, e.1⟩
  have := List.Nodup.length_le_of_subset d (l₂ := rows g 0 f) (fun p hp => by
   obtain ⟨q, hq, rfl⟩ := List.mem_map.mp hp
   exact swap_mem.mp hq)
  rwa [List.length_map] at this
 exact Nat.le_antisymm (h f g) (h g f)
theorem zip_map (P : List S79) (F : Int → Int → Int) : List.zipWith F (P.map S79.f1) (P.map S79.f0) = P.map (fun p => F p.f1 p.f0) := by
 induction P with
 | nil => rfl
 | cons p r ih => simp [ih]
theorem swap_nodup (f g : List Int) : (pl2 (rows g 0 f) ((rows f 0 g).map S79.f1) ((rows f 0 g).map S79.f0)).Nodup := by
 unfold pl2
 rw [zip_map, List.nodup_iff_pairwise_ne, List.pairwise_map]
 refine (List.nodup_iff_pairwise_ne.mp (rows_nodup f g 0)).imp_of_mem (fun {a b} ha hb hab e => hab ?_)
 obtain ⟨-, -, a2, a3⟩ := plc_mem (swap_mem.mp ha)
 obtain ⟨-, -, b2, b3⟩ := plc_mem (swap_mem.mp hb)
 rw [e] at a2 a3
 obtain ⟨a0, a1⟩ := a
 obtain ⟨b0, b1⟩ := b
 simp only [S79.mk.injEq]
 exact ⟨a3.symm.trans b3, a2.symm.trans b2⟩
/-- The exchanged pullback: what the law's calls answer. -/
theorem exch (m1 : mvalid x0 x1 x4 x5 x6 x7 = 0) (m2 : mvalid x2 x3 x4 x5 x8 x9 = 0) (l0 : x0.length ≤ 4) (l1 : x1.length ≤ 4) (l2 : x2.length ≤ 4) (l3 : x3.length ≤ 4) :
  ∃ (k : Nat) (r1 : List Int) (r2 : List S94) (r3 r4 r5 r6 m0 m1 : List Int) (P Q : List S79) (n : List Int) (m : List S94), pullback_Of.f k x2 x3 x0 x1 x4 x5 x8 x9 x6 x7 = some (r1, r2, r3, r4, r5, r6, 0) ∧
   medF k x0 x1 x2 x3 x4 x5 x6 x7 x8 x9 r1 r2 r5 r6 r3 r4 = some (m0, m1, 0) ∧ pullback_of.f k x0 x1 x2 x3 x4 x5 x6 x7 x8 x9 = some (P, Q, n, m, 0) ∧
   mvalid r1 r2 n m m0 m1 = 0 ∧ nd m0 = (m0.length : Int) ∧ nd m1 = (m1.length : Int) ∧ m0.length = n.length ∧ m1.length = m.length ∧ m0.length ≤ 1000000 ∧ m1.length ≤ 1000000 := by
 obtain ⟨v1, v4, a1, a2, a3, a4⟩ := mvalid_iff.mp m1
 obtain ⟨v2, -, b1, b2, b3, b4⟩ := mvalid_iff.mp m2
 have hP : (rows x8 0 x6).length ≤ 40 := Nat.le_trans (rows_len x8 x6 0) (Nat.le_trans (Nat.mul_le_mul (show x6.length ≤ 4 by omega) (show x8.length ≤ 4 by omega)) (by decide))
 have hQ : (rows x9 0 x7).length ≤ 80 := Nat.le_trans (rows_len x9 x7 0) (Nat.le_trans (Nat.mul_le_mul (show x7.length ≤ 4 by omega) (show x9.length ≤ 4 by omega)) (by decide))
 have eP := swap_len x6 x8
 have eQ := swap_len x7 x9
 have hP' : (rows x6 0 x8).length ≤ 40 := by omega
 have hQ' : (rows x7 0 x9).length ≤ 80 := by omega
 have g1 : giv x0 x1 x2 x3 x4 x5 x6 x7 x8 x9 = 0 := by unfold giv; rw [if_pos m1]; exact m2
 have g2 : giv x2 x3 x0 x1 x4 x5 x8 x9 x6 x7 = 0 := by unfold giv; rw [if_pos m2]; exact m1
 have e1 : ofR x0 x1 x2 x3 x4 x5 x6 x7 x8 x9 = (rows x8 0 x6, rows x9 0 x7, (rows x8 0 x6).map (fun p => rd x0 p.f0), (rows x9 0 x7).map (edg x1 x3 (rows x8 0 x6)), 0) := by unfold ofR; rw [if_pos g1, if_neg (by omega)]
 have e2 : ofR x2 x3 x0 x1 x4 x5 x8 x9 x6 x7 = (rows x6 0 x8, rows x7 0 x9, (rows x6 0 x8).map (fun p => rd x2 p.f0), (rows x7 0 x9).map (edg x3 x1 (rows x6 0 x8)), 0) := by unfold ofR; rw [if_pos g2, if_neg (by omega)]
 have e3 : OfR x2 x3 x0 x1 x4 x5 x8 x9 x6 x7 = ((rows x6 0 x8).map (fun p => rd x2 p.f0), (rows x7 0 x9).map (edg x3 x1 (rows x6 0 x8)), (rows x6 0 x8).map S79.f0, (rows x7 0 x9).map S79.f0, (rows x6 0 x8).map S79.f1, (rows x7 0 x9).map S79.f1, 0) := by
  unfold OfR
  rw [e2]
  rfl
 have hL := pb_left m2 m1 hP' hQ'
 have hR := pb_right m2 m1 hP' hQ'
 have cn : ∀ j : Nat, j < ((rows x6 0 x8).map S79.f1).length → (⟨rd ((rows x6 0 x8).map S79.f1) j, rd ((rows x6 0 x8).map S79.f0) j⟩ : S79) ∈ rows x8 0 x6 := fun j hj => by
  rw [List.length_map] at hj
  rw [rd_map79 _ _ _ (by omega) (by omega), rd_map79 _ _ _ (by omega) (by omega)]
  exact swap_mem.mp (rd79_mem _ _ (by omega) (by omega))
 have ce : ∀ j : Nat, j < ((rows x7 0 x9).map S79.f1).length → (⟨rd ((rows x7 0 x9).map S79.f1) j, rd ((rows x7 0 x9).map S79.f0) j⟩ : S79) ∈ rows x9 0 x7 := fun j hj => by
  rw [List.length_map] at hj
  rw [rd_map79 _ _ _ (by omega) (by omega), rd_map79 _ _ _ (by omega) (by omega)]
  exact swap_mem.mp (rd79_mem _ _ (by omega) (by omega))
 have e4 : medR x0 x1 x2 x3 x4 x5 x6 x7 x8 x9 ((rows x6 0 x8).map (fun p => rd x2 p.f0)) ((rows x7 0 x9).map (edg x3 x1 (rows x6 0 x8))) ((rows x6 0 x8).map S79.f1) ((rows x7 0 x9).map S79.f1) ((rows x6 0 x8).map S79.f0) ((rows x7 0 x9).map S79.f0) = (pl2 (rows x8 0 x6) ((rows x6 0 x8).map S79.f1) ((rows x6 0 x8).map S79.f0), pl2 (rows x9 0 x7) ((rows x7 0 x9).map S79.f1) ((rows x7 0 x9).map S79.f0), 0) := by
  unfold medR
  rw [e1]
  simp only [if_true, if_pos hL, if_pos hR]
  unfold fine
  rw [meets_some _ _ _ (by simp) cn, meets_some _ _ _ (by simp) ce]
 have hv := med_valid m1 m2 hP hQ hR hL cn ce
 obtain ⟨K0, hO⟩ := gOf_ev x2 x3 x0 x1 x4 x5 x8 x9 x6 x7
 obtain ⟨K1, hM⟩ := gmed_ev x0 x1 x2 x3 x4 x5 x6 x7 x8 x9 ((rows x6 0 x8).map (fun p => rd x2 p.f0)) ((rows x7 0 x9).map (edg x3 x1 (rows x6 0 x8))) ((rows x6 0 x8).map S79.f1) ((rows x7 0 x9).map S79.f1) ((rows x6 0 x8).map S79.f0) ((rows x7 0 x9).map S79.f0)
 obtain ⟨K2, ho⟩ := gof_ev x0 x1 x2 x3 x4 x5 x6 x7 x8 x9
 have q1 : (pl2 (rows x8 0 x6) ((rows x6 0 x8).map S79.f1) ((rows x6 0 x8).map S79.f0)).length = (rows x6 0 x8).length := by rw [pl2_len _ _ _ (by simp), List.length_map]
 have q2 : (pl2 (rows x9 0 x7) ((rows x7 0 x9).map S79.f1) ((rows x7 0 x9).map S79.f0)).length = (rows x7 0 x9).length := by rw [pl2_len _ _ _ (by simp), List.length_map]
 exact ⟨K0 + K1 + K2, _, _, _, _, _, _, _, _, _, _, _, _, (hO _ (by omega)).trans (congrArg some e3), (hM _ (by omega)).trans (congrArg some e4), (ho _ (by omega)).trans (congrArg some e1), hv, nd_nodup (swap_nodup _ _), nd_nodup (swap_nodup _ _), by rw [q1, List.length_map]; omega, by rw [q2, List.length_map]; omega, by omega, by omega⟩
end
end Go.Proofs.Ytillofiphkmjjaa.Pl

/- The law PullbackExchanged, walked by hand, and its plain law: it answers true. -/
namespace Go.Proofs.Ytillofiphkmjjaa.X
open Go.RowKit Go.Proofs.YtillofiphkmjjaaW.PrintWords Go.Proofs.YtillofiphkmjjaaW.PrintLast Go.Proofs.YtillofiphkmjjaaW.PrintMore Go.Proofs.Ytillofiphkmjjaa.Pl
set_option linter.unusedVariables false
set_option linter.unusedSimpArgs false
theorem few_calls (A0 : Option Addr) (c0 : Nat) (xn0 : List Int) (A1 : Option Addr) (c1 : Nat) (xe0 : List S95) (A2 : Option Addr) (c2 : Nat) (xn1 : List Int) (A3 : Option Addr) (c3 : Nat) (xe1 : List S95) (A4 : Option Addr) (c4 : Nat) (xn2 : List Int) (A5 : Option Addr) (c5 : Nat) (xe2 : List S95) (w : World)
  (R0 : Row (Kd.int .u8) w A0 c0 xn0) (R1 : Row k95 w A1 c1 xe0) (R2 : Row (Kd.int .u8) w A2 c2 xn1) (R3 : Row k95 w A3 c3 xe1) (R4 : Row (Kd.int .u8) w A4 c4 xn2) (R5 : Row k95 w A5 c5 xe2) :
  Calls Try.prog 18 #[.agg #[.slice A0 xn0.length c0, .slice A1 xe0.length c1, .slice A2 xn1.length c2, .slice A3 xe1.length c3, .slice A4 xn2.length c4, .slice A5 xe2.length c5]] w fun e w' => ∃ b : Bool, e = .returned (.bool b) ∧ (b = true → xn0.length ≤ 4 ∧ xe0.length ≤ 4 ∧ xn1.length ≤ 4 ∧ xe1.length ≤ 4 ∧ xn2.length ≤ 4 ∧ xe2.length ≤ 4) ∧ Below w.heap.size w w' := by
 obtain ⟨b, hb⟩ : ∃ b : Bool, b = decide (xn0.length ≤ 4 ∧ xe0.length ≤ 4 ∧ xn1.length ≤ 4 ∧ xe1.length ≤ 4 ∧ xn2.length ≤ 4 ∧ xe2.length ≤ 4) := ⟨_, rfl⟩
 have h : scarfjointlaw11_few.f xn0 xe0 xn1 xe1 xn2 xe2 = some b := by
  subst hb
  unfold scarfjointlaw11_few.f
  have e : ∀ n : Nat, ((n : Int) ≤ 4) = (n ≤ 4) := fun n => propext (by omega)
  simp only [e]
  by_cases q0 : xn0.length ≤ 4 <;> by_cases q1 : xe0.length ≤ 4 <;> by_cases q2 : xn1.length ≤ 4 <;> by_cases q3 : xe1.length ≤ 4 <;> by_cases q4 : xn2.length ≤ 4 <;> by_cases q5 : xe2.length ≤ 4 <;> simp [q0, q1, q2, q3, q4, q5]
 refine (scarfjointlaw11_few.calls _ _ xn0 _ _ xe0 _ _ xn1 _ _ xe1 _ _ xn2 _ _ xe2 b _ R0.at_ R0.cap R1.at_ R1.cap R2.at_ R2.cap R3.at_ R3.cap R4.at_ R4.cap R5.at_ R5.cap h).mono ?_
 rintro e w' ⟨rfl, hw⟩
 exact ⟨b, rfl, fun hb' => by rw [hb] at hb'; simpa using hb', hw⟩
set_option maxHeartbeats 4000000 in
set_option maxRecDepth 100000 in
theorem law4 (A0 : Option Addr) (c0 : Nat) (xn0 : List Int) (A1 : Option Addr) (c1 : Nat) (xe0 : List S95) (A2 : Option Addr) (c2 : Nat) (xn1 : List Int) (A3 : Option Addr) (c3 : Nat) (xe1 : List S95) (A4 : Option Addr) (c4 : Nat) (xn2 : List Int) (A5 : Option Addr) (c5 : Nat) (xe2 : List S95) (w : World)
  (R0 : Row (Kd.int .u8) w A0 c0 xn0) (R1 : Row k95 w A1 c1 xe0) (R2 : Row (Kd.int .u8) w A2 c2 xn1) (R3 : Row k95 w A3 c3 xe1) (R4 : Row (Kd.int .u8) w A4 c4 xn2) (R5 : Row k95 w A5 c5 xe2)
  (h0 : ∀ x ∈ xn0, okB x) (h1 : ∀ x ∈ xe0, okB3 x) (h2 : ∀ x ∈ xn1, okB x) (h3 : ∀ x ∈ xe1, okB3 x) (h4 : ∀ x ∈ xn2, okB x) (h5 : ∀ x ∈ xe2, okB3 x) :
  Calls Try.prog 4 #[.agg #[.slice A0 xn0.length c0, .slice A1 xe0.length c1, .slice A2 xn1.length c2, .slice A3 xe1.length c3, .slice A4 xn2.length c4, .slice A5 xe2.length c5]] w fun e w' => e = .returned (.bool true) ∧ Below w.heap.size w w' := by
 have H0 := Aside0.mk (And.intro h0 (And.intro h1 (And.intro h2 (And.intro h3 (And.intro h4 h5)))))
 clear h0 h1 h2 h3 h4 h5
 have hu25 := Try.underlying25
 have hu27 := Try.underlying27
 have hu29 := Try.underlying29
 have hu43 := Try.underlying43
 have hu44 := Try.underlying44
 have hu46 := Try.underlying46
 have SB := Since.refl w
 have RS := cR R0 (cR R1 (cR R2 (cR R3 (cR R4 (cR R5 (cE SB))))))
 clear SB R0 R1 R2 R3 R4 R5
 go_enter Try.func4, Try.ntmps4
 go_upto_region 1 with fail
 obtain ⟨v0, hv, BD, hb⟩ := nw1 w 46 #[.slice A0 xn0.length c0, .slice A1 xe0.length c1, .slice A2 xn1.length c2, .slice A3 xe1.length c3, .slice A4 xn2.length c4, .slice A5 xe2.length c5]
 rw [← hv]
 clear hv
 replace RS := mo hb RS
 clear hb
 replace RS := cK BD (RS)
 clear BD
 rcases (id RS) with ⟨⟨BD⟩, -⟩
 obtain ⟨_, _, _, _, _, _⟩ := BD.q6
 go_wp2_with fail
 refine (awake_calls _).mono ?_
 rintro e v1 ⟨rfl, hb⟩
 replace hb := bS (w := v0) hb
 replace RS := mo hb RS
 clear hb
 rcases (id RS) with ⟨⟨BD⟩, -⟩
 obtain ⟨_, _, _, _, _, _⟩ := BD.q6
 go_wp2_with fail
 rcases (id RS) with ⟨-, ⟨⟨R0⟩, ⟨⟨R1⟩, ⟨⟨R2⟩, ⟨⟨R3⟩, ⟨⟨R4⟩, ⟨⟨R5⟩, -⟩⟩⟩⟩⟩⟩⟩
 refine (few_calls _ _ xn0 _ _ xe0 _ _ xn1 _ _ xe1 _ _ xn2 _ _ xe2 _ R0 R1 R2 R3 R4 R5).mono ?_
 rintro e v2 ⟨b, rfl, hb_, hb⟩
 clear R0 R1 R2 R3 R4 R5
 replace hb := bS (w := v1) hb
 replace RS := mo hb RS
 clear hb
 rcases (id RS) with ⟨⟨BD⟩, -⟩
 obtain ⟨_, _, _, _, _, _⟩ := BD.q6
 cases b with
 | false =>
  go_wp2_with fail
  refine (awake_calls _).mono ?_
  rintro e v3 ⟨rfl, hb⟩
  replace hb := bS (w := v2) hb
  replace RS := mo hb RS
  clear hb
  rcases (id RS) with ⟨-, ⟨-, ⟨-, ⟨-, ⟨-, ⟨-, ⟨-, ⟨SB⟩⟩⟩⟩⟩⟩⟩⟩
  go_wp2_with fail
  try go_wp2_with fail
  go_ret
  exact ⟨rfl, SB.get⟩
 | true =>
 replace hb_ := Aside0.mk (hb_ rfl)
 go_wp2_with fail
 rcases (id RS) with ⟨-, ⟨⟨R0⟩, ⟨⟨R1⟩, ⟨⟨R2⟩, ⟨⟨R3⟩, ⟨⟨R4⟩, ⟨⟨R5⟩, -⟩⟩⟩⟩⟩⟩⟩
 refine (Made_calls _ _ xn0 _ _ xe0 _ _ xn1 _ _ xe1 _ _ xn2 _ _ xe2 _ R0 R1 R2 R3 R4 R5 H0.out.1 (by have := hb_.out; omega) H0.out.2.1 (by have := hb_.out; omega) H0.out.2.2.1 (by have := hb_.out; omega) H0.out.2.2.2.1 (by have := hb_.out; omega) H0.out.2.2.2.2.1 (by have := hb_.out; omega) H0.out.2.2.2.2.2 (by have := hb_.out; omega)).mono ?_
 rintro e v4 ⟨s0, s1, s2, s3, s4, s5, s6, s7, s8, s9, y0, y1, y2, y3, y4, y5, y6, y7, y8, y9, rfl, q0, q1, q2, q3, q4, q5, q6, q7, q8, q9, hb, mv1, mv2, n0, n1, n2, n3⟩
 clear R0 R1 R2 R3 R4 R5
 replace hb := bS (w := v2) hb
 replace RS := mo hb RS
 clear hb
 have hf4 := hb_.out
 have m0 : s0.length ≤ 4 := by omega
 have m1 : s1.length ≤ 4 := by omega
 have m2 : s2.length ≤ 4 := by omega
 have m3 : s3.length ≤ 4 := by omega
 clear n0 n1 n2 n3 hf4
 have MV := Aside0.mk (And.intro mv1 (And.intro mv2 (And.intro m0 (And.intro m1 (And.intro m2 m3)))))
 clear mv1 mv2 m0 m1 m2 m3
 obtain ⟨G0, g0, rfl, S0⟩ := q0.get
 obtain ⟨G1, g1, rfl, S1⟩ := q1.get
 obtain ⟨G2, g2, rfl, S2⟩ := q2.get
 obtain ⟨G3, g3, rfl, S3⟩ := q3.get
 obtain ⟨G4, g4, rfl, S4⟩ := q4.get
 obtain ⟨G5, g5, rfl, S5⟩ := q5.get
 obtain ⟨G6, g6, rfl, S6⟩ := q6.get
 obtain ⟨G7, g7, rfl, S7⟩ := q7.get
 obtain ⟨G8, g8, rfl, S8⟩ := q8.get
 obtain ⟨G9, g9, rfl, S9⟩ := q9.get
 replace RS := cR S0 (cR S1 (cR S2 (cR S3 (cR S4 (cR S5 (cR S6 (cR S7 (cR S8 (cR S9 (RS))))))))))
 clear S0 S1 S2 S3 S4 S5 S6 S7 S8 S9
 go_upto_region 4 with fail
 obtain ⟨v5, hv, BS, hb⟩ := nw1 v4 29 #[.slice G0 s0.length g0, .slice G1 s1.length g1, .slice G2 s2.length g2, .slice G3 s3.length g3, .slice G4 s4.length g4, .slice G5 s5.length g5, .slice G6 s6.length g6, .slice G7 s7.length g7, .slice G8 s8.length g8, .slice G9 s9.length g9]
 rw [← hv]
 clear hv
 replace RS := mo hb RS
 clear hb
 replace RS := cK BS (RS)
 clear BS
 rcases (id RS) with ⟨⟨BS⟩, ⟨-, ⟨-, ⟨-, ⟨-, ⟨-, ⟨-, ⟨-, ⟨-, ⟨-, ⟨-, ⟨⟨BD⟩, -⟩⟩⟩⟩⟩⟩⟩⟩⟩⟩⟩⟩
 obtain ⟨_, _, _, _, _, _, _, _, _, _⟩ := BS.q10
 obtain ⟨_, _, _, _, _, _⟩ := BD.q6
 obtain ⟨k, r1, r2, r3, r4, r5, r6, m0, m1, P, Q, n, m, hO, hM, ho, hv, n1, n2, l1, l2, l3, l4⟩ := exch MV.out.1 MV.out.2.1 MV.out.2.2.1 MV.out.2.2.2.1 MV.out.2.2.2.2.1 MV.out.2.2.2.2.2
 have hO_ := Aside0.mk hO
 have hM_ := Aside0.mk hM
 have ho_ := Aside0.mk ho
 have hv_ := Aside0.mk hv
 have n1_ := Aside0.mk n1
 have n2_ := Aside0.mk n2
 have l1_ := Aside0.mk l1
 have l2_ := Aside0.mk l2
 have l3_ := Aside0.mk l3
 have l4_ := Aside0.mk l4
 clear hO hM ho hv n1 n2 l1 l2 l3 l4
 go_wp2_with fail
 rcases (id RS) with ⟨-, ⟨⟨S0⟩, ⟨⟨S1⟩, ⟨⟨S2⟩, ⟨⟨S3⟩, ⟨⟨S4⟩, ⟨⟨S5⟩, ⟨⟨S6⟩, ⟨⟨S7⟩, ⟨⟨S8⟩, ⟨⟨S9⟩, -⟩⟩⟩⟩⟩⟩⟩⟩⟩⟩⟩
 refine (Of_calls k _ _ s2 _ _ s3 _ _ s0 _ _ s1 _ _ s4 _ _ s5 _ _ s8 _ _ s9 _ _ s6 _ _ s7 _ S2 S3 S0 S1 S4 S5 S8 S9 S6 S7 r1 r2 r3 r4 r5 r6 0 hO_.out).mono ?_
 rintro e v6 ⟨y0, y1, y2, y3, y4, y5, rfl, q0, q1, q2, q3, q4, q5, hb⟩
 clear S0 S1 S2 S3 S4 S5 S6 S7 S8 S9
 replace hb := bS (w := v5) hb
 replace RS := mo hb RS
 clear hb
 obtain ⟨P0, p0, rfl, Q0⟩ := q0.get
 obtain ⟨P1, p1, rfl, Q1⟩ := q1.get
 obtain ⟨P2, p2, rfl, Q2⟩ := q2.get
 obtain ⟨P3, p3, rfl, Q3⟩ := q3.get
 obtain ⟨P4, p4, rfl, Q4⟩ := q4.get
 obtain ⟨P5, p5, rfl, Q5⟩ := q5.get
 replace RS := cR Q0 (cR Q1 (cR Q2 (cR Q3 (cR Q4 (cR Q5 (RS))))))
 clear Q0 Q1 Q2 Q3 Q4 Q5
 go_upto_region 5 with fail
 obtain ⟨v7, hv, BA, BP, BQ, hb⟩ := nw3 v6 25 #[.slice P0 r1.length p0, .slice P1 r2.length p1] 27 #[.slice P2 r3.length p2, .slice P3 r4.length p3] 27 #[.slice P4 r5.length p4, .slice P5 r6.length p5]
 rw [← hv]
 clear hv
 replace RS := mo hb RS
 clear hb
 replace RS := cK BA (cK BP (cK BQ (RS)))
 clear BA BP BQ
 rcases (id RS) with ⟨⟨BA⟩, ⟨⟨BP⟩, ⟨⟨BQ⟩, ⟨-, ⟨-, ⟨-, ⟨-, ⟨-, ⟨-, ⟨⟨BS⟩, ⟨-, ⟨-, ⟨-, ⟨-, ⟨-, ⟨-, ⟨-, ⟨-, ⟨-, ⟨-, ⟨⟨BD⟩, -⟩⟩⟩⟩⟩⟩⟩⟩⟩⟩⟩⟩⟩⟩⟩⟩⟩⟩⟩⟩⟩
 obtain ⟨_, _⟩ := BA.q2
 obtain ⟨_, _⟩ := BP.q2
 obtain ⟨_, _⟩ := BQ.q2
 obtain ⟨_, _, _, _, _, _, _, _, _, _⟩ := BS.q10
 obtain ⟨_, _, _, _, _, _⟩ := BD.q6
 go_wp2_with fail
 rcases (id RS) with ⟨-, ⟨-, ⟨-, ⟨⟨Q0⟩, ⟨⟨Q1⟩, ⟨⟨Q2⟩, ⟨⟨Q3⟩, ⟨⟨Q4⟩, ⟨⟨Q5⟩, ⟨-, ⟨⟨S0⟩, ⟨⟨S1⟩, ⟨⟨S2⟩, ⟨⟨S3⟩, ⟨⟨S4⟩, ⟨⟨S5⟩, ⟨⟨S6⟩, ⟨⟨S7⟩, ⟨⟨S8⟩, ⟨⟨S9⟩, -⟩⟩⟩⟩⟩⟩⟩⟩⟩⟩⟩⟩⟩⟩⟩⟩⟩⟩⟩⟩
 refine (Check_b k _ _ s0 _ _ s1 _ _ s2 _ _ s3 _ _ s4 _ _ s5 _ _ s6 _ _ s7 _ _ s8 _ _ s9 _ _ r1 _ _ r2 _ _ r5 _ _ r6 _ _ r3 _ _ r4 _ S0 S1 S2 S3 S4 S5 S6 S7 S8 S9 Q0 Q1 Q4 Q5 Q2 Q3 m0 m1 P Q n m true true true true true hM_.out ho_.out (decide_eq_true hv_.out) (fun _ => decide_eq_true n1_.out) (fun _ => decide_eq_true n2_.out) (decide_eq_true hv_.out) (fun _ => decide_eq_true (by have h1 := n1_.out; have h2 := l1_.out; omega)) (fun _ => decide_eq_true (by have h1 := n2_.out; have h2 := l2_.out; omega)) ⟨fun _ => l3_.out, fun _ => l4_.out⟩ true rfl).mono ?_
 rintro e v8 ⟨rfl, hb⟩
 clear S0 S1 S2 S3 S4 S5 S6 S7 S8 S9 Q0 Q1 Q2 Q3 Q4 Q5
 replace hb := bS (w := v7) hb
 replace RS := mo hb RS
 clear hb
 rcases (id RS) with ⟨-, ⟨-, ⟨-, ⟨-, ⟨-, ⟨-, ⟨-, ⟨-, ⟨-, ⟨-, ⟨-, ⟨-, ⟨-, ⟨-, ⟨-, ⟨-, ⟨-, ⟨-, ⟨-, ⟨-, ⟨-, ⟨-, ⟨-, ⟨-, ⟨-, ⟨-, ⟨-, ⟨SB⟩⟩⟩⟩⟩⟩⟩⟩⟩⟩⟩⟩⟩⟩⟩⟩⟩⟩⟩⟩⟩⟩⟩⟩⟩⟩⟩⟩
 go_wp2_with fail
 try go_wp2_with fail
 go_ret
 exact ⟨rfl, SB.get⟩
end Go.Proofs.Ytillofiphkmjjaa.X

/- The law PullbackExchanged at a draft: the walk, its facts apart. -/
namespace Go.Proofs.Ytillofiphkmjjaa.Pure
open Go.RowKit Go.Proofs.YtillofiphkmjjaaW.PrintWords Go.Proofs.Ytillofiphkmjjaa.X Go.Proofs.Ytillofiphkmjjaa.Pl
set_option linter.unusedVariables false
theorem PullbackExchanged_walk (A0 : Option Addr) (c0 : Nat) (xn0 : List Int) (A1 : Option Addr) (c1 : Nat) (xe0 : List S95) (A2 : Option Addr) (c2 : Nat) (xn1 : List Int) (A3 : Option Addr) (c3 : Nat) (xe1 : List S95) (A4 : Option Addr) (c4 : Nat) (xn2 : List Int) (A5 : Option Addr) (c5 : Nat) (xe2 : List S95) (w : World)
  (r0 : Kd.C (Kd.int .u8) w A0 xn0.length xn0) (l0 : xn0.length ≤ c0) (r1 : Kd.C k95 w A1 xe0.length xe0) (l1 : xe0.length ≤ c1) (r2 : Kd.C (Kd.int .u8) w A2 xn1.length xn1) (l2 : xn1.length ≤ c2) (r3 : Kd.C k95 w A3 xe1.length xe1) (l3 : xe1.length ≤ c3) (r4 : Kd.C (Kd.int .u8) w A4 xn2.length xn2) (l4 : xn2.length ≤ c4) (r5 : Kd.C k95 w A5 xe2.length xe2) (l5 : xe2.length ≤ c5) (g0 : ((∀ y ∈ xn0, okB y) ∧ (∀ y ∈ xe0, okB3 y)) ∧ ((∀ y ∈ xn1, okB y) ∧ (∀ y ∈ xe1, okB3 y)) ∧ (∀ y ∈ xn2, okB y) ∧ (∀ y ∈ xe2, okB3 y)) :
  Calls Try.prog 4 #[.agg #[.slice A0 xn0.length c0, .slice A1 xe0.length c1, .slice A2 xn1.length c2, .slice A3 xe1.length c3, .slice A4 xn2.length c4, .slice A5 xe2.length c5]] w fun e w' => e = .returned (.bool true) ∧ Below w.heap.size w w' :=
 law4 A0 c0 xn0 A1 c1 xe0 A2 c2 xn1 A3 c3 xe1 A4 c4 xn2 A5 c5 xe2 w ⟨l0, r0⟩ ⟨l1, r1⟩ ⟨l2, r2⟩ ⟨l3, r3⟩ ⟨l4, r4⟩ ⟨l5, r5⟩ g0.1.1 g0.1.2 g0.2.1.1 g0.2.1.2 g0.2.2.1 g0.2.2.2
end Go.Proofs.Ytillofiphkmjjaa.Pure

/- The seat's own argument types, by 'Opens'. -/
namespace Go.Proofs.Ytillofiphkmjjaa.Open
open Go.ChangeShapes Go.WideShapes Go.Deep Go.RowKit Go.Proofs.YtillofiphkmjjaaW.PrintWords Go.Proofs.Ytillofiphkmjjaa.X
set_option linter.unusedVariables false
section
variable {P : Program} {α β γ δ ε : Type}
theorem opens_true {t : TypeId} {d : Kd α} {g : α → Prop} (h : Opens P t d g) : Opens P t d (fun _ => True) := by
  intro H enc w spare held fuel cs x hx
  obtain ⟨a, hk, _⟩ := h hx
  exact ⟨a, hk, trivial⟩
theorem cut4 {σ : Type} (cs : List σ) (a b c : Nat) : cs = cs.take a ++ ((cs.drop a).take b ++ ((cs.drop (a + b)).take c ++ cs.drop (a + b + c))) := by
  have e1 : cs.drop (a + b) = (cs.drop a).drop b := by rw [List.drop_drop]
  have e2 : cs.drop (a + b + c) = ((cs.drop a).drop b).drop c := by rw [List.drop_drop, List.drop_drop, Nat.add_assoc]
  rw [e1, e2, List.take_append_drop, List.take_append_drop, List.take_append_drop]
theorem cut5 {σ : Type} (cs : List σ) (a b c d : Nat) : cs = cs.take a ++ ((cs.drop a).take b ++ ((cs.drop (a + b)).take c ++ ((cs.drop (a + b + c)).take d ++ cs.drop (a + b + c + d)))) := by
  have e2 : cs.drop (a + b + c + d) = (cs.drop (a + b + c)).drop d := by rw [List.drop_drop]
  rw [e2, List.take_append_drop]
  exact cut4 cs a b c
theorem opens_struct4 {t : TypeId} {f0 f1 f2 f3 : Field} {d0 : Kd α} {d1 : Kd β} {d2 : Kd γ} {d3 : Kd δ} {g0 : α → Prop} {g1 : β → Prop} {g2 : γ → Prop} {g3 : δ → Prop} (ht : P.underlying t = some (.struct #[f0, f1, f2, f3])) (h0 : f0.offset = 0) (h1 : f1.offset = P.cellsOf f0.type) (h2 : f2.offset = P.cellsOf f0.type + P.cellsOf f1.type) (h3 : f3.offset = P.cellsOf f0.type + P.cellsOf f1.type + P.cellsOf f2.type)
    (hs : P.cellsOf t = P.cellsOf f0.type + P.cellsOf f1.type + P.cellsOf f2.type + P.cellsOf f3.type) (o0 : Opens P f0.type d0 g0) (o1 : Opens P f1.type d1 g1) (o2 : Opens P f2.type d2 g2) (o3 : Opens P f3.type d3 g3) : Opens P t (Kd.pair d0 (Kd.pair d1 (Kd.pair d2 d3))) (fun _ => True) := by
  intro H enc w spare held fuel cs x h
  obtain ⟨xs, n, _, _, hl, hlen, hf⟩ := DataW.trod_struct ht h
  match xs, hlen with
  | [y0, y1, y2, y3], _ =>
    obtain ⟨a0, k0, -⟩ := o0 (hf 0 f0 rfl)
    obtain ⟨a1, k1, -⟩ := o1 (hf 1 f1 rfl)
    obtain ⟨a2, k2, -⟩ := o2 (hf 2 f2 rfl)
    obtain ⟨a3, k3, -⟩ := o3 (hf 3 f3 rfl)
    refine ⟨(a0, a1, a2, a3), ⟨_, _, ?_, k0, _, _, rfl, k1, _, _, rfl, k2, k3⟩, trivial⟩
    rw [h0, h1, h2, h3, List.drop_zero, List.take_of_length_le (l := cs.drop (_ + _ + _)) (by rw [List.length_drop]; omega)]
    exact cut4 _ _ _ _
theorem opens_struct5 {t : TypeId} {f0 f1 f2 f3 f4 : Field} {d0 : Kd α} {d1 : Kd β} {d2 : Kd γ} {d3 : Kd δ} {d4 : Kd ε} {g0 : α → Prop} {g1 : β → Prop} {g2 : γ → Prop} {g3 : δ → Prop} {g4 : ε → Prop} (ht : P.underlying t = some (.struct #[f0, f1, f2, f3, f4])) (h0 : f0.offset = 0) (h1 : f1.offset = P.cellsOf f0.type) (h2 : f2.offset = P.cellsOf f0.type + P.cellsOf f1.type) (h3 : f3.offset = P.cellsOf f0.type + P.cellsOf f1.type + P.cellsOf f2.type) (h4 : f4.offset = P.cellsOf f0.type + P.cellsOf f1.type + P.cellsOf f2.type + P.cellsOf f3.type)
    (hs : P.cellsOf t = P.cellsOf f0.type + P.cellsOf f1.type + P.cellsOf f2.type + P.cellsOf f3.type + P.cellsOf f4.type) (o0 : Opens P f0.type d0 g0) (o1 : Opens P f1.type d1 g1) (o2 : Opens P f2.type d2 g2) (o3 : Opens P f3.type d3 g3) (o4 : Opens P f4.type d4 g4) : Opens P t (Kd.pair d0 (Kd.pair d1 (Kd.pair d2 (Kd.pair d3 d4)))) (fun _ => True) := by
  intro H enc w spare held fuel cs x h
  obtain ⟨xs, n, _, _, hl, hlen, hf⟩ := DataW.trod_struct ht h
  match xs, hlen with
  | [y0, y1, y2, y3, y4], _ =>
    obtain ⟨a0, k0, -⟩ := o0 (hf 0 f0 rfl)
    obtain ⟨a1, k1, -⟩ := o1 (hf 1 f1 rfl)
    obtain ⟨a2, k2, -⟩ := o2 (hf 2 f2 rfl)
    obtain ⟨a3, k3, -⟩ := o3 (hf 3 f3 rfl)
    obtain ⟨a4, k4, -⟩ := o4 (hf 4 f4 rfl)
    refine ⟨(a0, a1, a2, a3, a4), ⟨_, _, ?_, k0, _, _, rfl, k1, _, _, rfl, k2, _, _, rfl, k3, k4⟩, trivial⟩
    rw [h0, h1, h2, h3, h4, List.drop_zero, List.take_of_length_le (l := cs.drop (_ + _ + _ + _)) (by rw [List.length_drop]; omega)]
    exact cut5 _ _ _ _ _
end
abbrev okInt (n : Int) : Prop := (Lit.int .i64 n).wf = true
theorem open22 : Opens Try.prog 22 (Kd.slice 3 (Kd.int .i64)) (fun l => ∀ x ∈ l, okInt x) := opens_slice Try.underlying22 (opens_int Try.underlying3) (by kernel_rfl)
theorem open94 : Opens Try.prog 94 k94 (fun e : S94 => okInt e.f0 ∧ okInt e.f1 ∧ okInt e.f2) :=
  opens_iso (opens_struct3 Try.underlying94 rfl (by kernel_rfl) (by kernel_rfl) (by kernel_rfl) (opens_int Try.underlying3) (opens_int Try.underlying3) (opens_int Try.underlying3)) _ (fun p => ⟨p.1, p.2.1, p.2.2⟩) (fun _ => rfl)
theorem open23 : Opens Try.prog 23 (Kd.slice 94 k94) (fun l => ∀ e ∈ l, okInt e.f0 ∧ okInt e.f1 ∧ okInt e.f2) := opens_slice Try.underlying23 open94 (by kernel_rfl)
theorem open25 : Opens Try.prog 25 k25 (fun g : S25 => (∀ x ∈ g.f0, okInt x) ∧ ∀ e ∈ g.f1, okInt e.f0 ∧ okInt e.f1 ∧ okInt e.f2) :=
  opens_iso (opens_struct2 Try.underlying25 rfl (by kernel_rfl) (by kernel_rfl) open22 open23) _ (fun p => ⟨p.1, p.2⟩) (fun _ => rfl)
theorem open27 : Opens Try.prog 27 k27 (fun g : S27 => (∀ x ∈ g.f0, okInt x) ∧ ∀ x ∈ g.f1, okInt x) :=
  opens_iso (opens_struct2 Try.underlying27 rfl (by kernel_rfl) (by kernel_rfl) open22 open22) _ (fun p => ⟨p.1, p.2⟩) (fun _ => rfl)
structure S66 where
  f0 : List Int
  f1 : List S94
  f2 : List Int
  f3 : List S94
  f4 : List Int
  f5 : List Int
  f6 : List Int
  f7 : List Int
def k66 : Kd S66 := Kd.iso (Kd.pair k25 (Kd.pair k25 (Kd.pair k27 k27))) (fun x : S66 => ((⟨x.f0, x.f1⟩ : S25), (⟨x.f2, x.f3⟩ : S25), (⟨x.f4, x.f5⟩ : S27), (⟨x.f6, x.f7⟩ : S27)))
theorem k66_open {w : World} {x : S66} {cs : List Value} (h : k66.K w x cs) : ∃ A0 c0 A1 c1 A2 c2 A3 c3 A4 c4 A5 c5 A6 c6 A7 c7, cs = [.slice A0 x.f0.length c0, .slice A1 x.f1.length c1, .slice A2 x.f2.length c2, .slice A3 x.f3.length c3, .slice A4 x.f4.length c4, .slice A5 x.f5.length c5, .slice A6 x.f6.length c6, .slice A7 x.f7.length c7] ∧ x.f0.length ≤ c0 ∧ (Kd.int .i64).C w A0 x.f0.length x.f0 ∧ x.f1.length ≤ c1 ∧ k94.C w A1 x.f1.length x.f1 ∧ x.f2.length ≤ c2 ∧ (Kd.int .i64).C w A2 x.f2.length x.f2 ∧ x.f3.length ≤ c3 ∧ k94.C w A3 x.f3.length x.f3 ∧ x.f4.length ≤ c4 ∧ (Kd.int .i64).C w A4 x.f4.length x.f4 ∧ x.f5.length ≤ c5 ∧ (Kd.int .i64).C w A5 x.f5.length x.f5 ∧ x.f6.length ≤ c6 ∧ (Kd.int .i64).C w A6 x.f6.length x.f6 ∧ x.f7.length ≤ c7 ∧ (Kd.int .i64).C w A7 x.f7.length x.f7 := by
  obtain ⟨_, _, rfl, h0, ⟨_, _, rfl, h1, ⟨_, _, rfl, h2, h3⟩⟩⟩ := h
  obtain ⟨A0, c0, A1, c1, rfl, l0, g0, l1, g1⟩ := k25_open h0
  obtain ⟨A2, c2, A3, c3, rfl, l2, g2, l3, g3⟩ := k25_open h1
  obtain ⟨A4, c4, A5, c5, rfl, l4, g4, l5, g5⟩ := k27_open h2
  obtain ⟨A6, c6, A7, c7, rfl, l6, g6, l7, g7⟩ := k27_open h3
  exact ⟨A0, c0, A1, c1, A2, c2, A3, c3, A4, c4, A5, c5, A6, c6, A7, c7, rfl, l0, g0, l1, g1, l2, g2, l3, g3, l4, g4, l5, g5, l6, g6, l7, g7⟩
theorem open66 : Opens Try.prog 66 k66 (fun _ => True) :=
  opens_true (opens_iso (opens_struct4 Try.underlying66 rfl (by kernel_rfl) (by kernel_rfl) (by kernel_rfl) (by kernel_rfl) open25 open25 open27 open27) _ (fun p => (⟨p.1.f0, p.1.f1, p.2.1.f0, p.2.1.f1, p.2.2.1.f0, p.2.2.1.f1, p.2.2.2.f0, p.2.2.2.f1⟩ : S66)) (fun _ => rfl))
structure S29 where
  f0 : List Int
  f1 : List S94
  f2 : List Int
  f3 : List S94
  f4 : List Int
  f5 : List S94
  f6 : List Int
  f7 : List Int
  f8 : List Int
  f9 : List Int
def k29 : Kd S29 := Kd.iso (Kd.pair k25 (Kd.pair k25 (Kd.pair k25 (Kd.pair k27 k27)))) (fun x : S29 => ((⟨x.f0, x.f1⟩ : S25), (⟨x.f2, x.f3⟩ : S25), (⟨x.f4, x.f5⟩ : S25), (⟨x.f6, x.f7⟩ : S27), (⟨x.f8, x.f9⟩ : S27)))
theorem k29_open {w : World} {x : S29} {cs : List Value} (h : k29.K w x cs) : ∃ A0 c0 A1 c1 A2 c2 A3 c3 A4 c4 A5 c5 A6 c6 A7 c7 A8 c8 A9 c9, cs = [.slice A0 x.f0.length c0, .slice A1 x.f1.length c1, .slice A2 x.f2.length c2, .slice A3 x.f3.length c3, .slice A4 x.f4.length c4, .slice A5 x.f5.length c5, .slice A6 x.f6.length c6, .slice A7 x.f7.length c7, .slice A8 x.f8.length c8, .slice A9 x.f9.length c9] ∧ x.f0.length ≤ c0 ∧ (Kd.int .i64).C w A0 x.f0.length x.f0 ∧ x.f1.length ≤ c1 ∧ k94.C w A1 x.f1.length x.f1 ∧ x.f2.length ≤ c2 ∧ (Kd.int .i64).C w A2 x.f2.length x.f2 ∧ x.f3.length ≤ c3 ∧ k94.C w A3 x.f3.length x.f3 ∧ x.f4.length ≤ c4 ∧ (Kd.int .i64).C w A4 x.f4.length x.f4 ∧ x.f5.length ≤ c5 ∧ k94.C w A5 x.f5.length x.f5 ∧ x.f6.length ≤ c6 ∧ (Kd.int .i64).C w A6 x.f6.length x.f6 ∧ x.f7.length ≤ c7 ∧ (Kd.int .i64).C w A7 x.f7.length x.f7 ∧ x.f8.length ≤ c8 ∧ (Kd.int .i64).C w A8 x.f8.length x.f8 ∧ x.f9.length ≤ c9 ∧ (Kd.int .i64).C w A9 x.f9.length x.f9 := by
  obtain ⟨_, _, rfl, h0, ⟨_, _, rfl, h1, ⟨_, _, rfl, h2, ⟨_, _, rfl, h3, h4⟩⟩⟩⟩ := h
  obtain ⟨A0, c0, A1, c1, rfl, l0, g0, l1, g1⟩ := k25_open h0
  obtain ⟨A2, c2, A3, c3, rfl, l2, g2, l3, g3⟩ := k25_open h1
  obtain ⟨A4, c4, A5, c5, rfl, l4, g4, l5, g5⟩ := k25_open h2
  obtain ⟨A6, c6, A7, c7, rfl, l6, g6, l7, g7⟩ := k27_open h3
  obtain ⟨A8, c8, A9, c9, rfl, l8, g8, l9, g9⟩ := k27_open h4
  exact ⟨A0, c0, A1, c1, A2, c2, A3, c3, A4, c4, A5, c5, A6, c6, A7, c7, A8, c8, A9, c9, rfl, l0, g0, l1, g1, l2, g2, l3, g3, l4, g4, l5, g5, l6, g6, l7, g7, l8, g8, l9, g9⟩
theorem open29 : Opens Try.prog 29 k29 (fun _ => True) :=
  opens_true (opens_iso (opens_struct5 Try.underlying29 rfl (by kernel_rfl) (by kernel_rfl) (by kernel_rfl) (by kernel_rfl) (by kernel_rfl) open25 open25 open25 open27 open27) _ (fun p => (⟨p.1.f0, p.1.f1, p.2.1.f0, p.2.1.f1, p.2.2.1.f0, p.2.2.1.f1, p.2.2.2.1.f0, p.2.2.2.1.f1, p.2.2.2.2.f0, p.2.2.2.2.f1⟩ : S29)) (fun _ => rfl))
structure S31 where
  f0 : List Int
  f1 : List S94
  f2 : List Int
  f3 : List Int
  f4 : List Int
  f5 : List Int
def k31 : Kd S31 := Kd.iso (Kd.pair k25 (Kd.pair k27 k27)) (fun x : S31 => ((⟨x.f0, x.f1⟩ : S25), (⟨x.f2, x.f3⟩ : S27), (⟨x.f4, x.f5⟩ : S27)))
theorem k31_open {w : World} {x : S31} {cs : List Value} (h : k31.K w x cs) : ∃ A0 c0 A1 c1 A2 c2 A3 c3 A4 c4 A5 c5, cs = [.slice A0 x.f0.length c0, .slice A1 x.f1.length c1, .slice A2 x.f2.length c2, .slice A3 x.f3.length c3, .slice A4 x.f4.length c4, .slice A5 x.f5.length c5] ∧ x.f0.length ≤ c0 ∧ (Kd.int .i64).C w A0 x.f0.length x.f0 ∧ x.f1.length ≤ c1 ∧ k94.C w A1 x.f1.length x.f1 ∧ x.f2.length ≤ c2 ∧ (Kd.int .i64).C w A2 x.f2.length x.f2 ∧ x.f3.length ≤ c3 ∧ (Kd.int .i64).C w A3 x.f3.length x.f3 ∧ x.f4.length ≤ c4 ∧ (Kd.int .i64).C w A4 x.f4.length x.f4 ∧ x.f5.length ≤ c5 ∧ (Kd.int .i64).C w A5 x.f5.length x.f5 := by
  obtain ⟨_, _, rfl, h0, ⟨_, _, rfl, h1, h2⟩⟩ := h
  obtain ⟨A0, c0, A1, c1, rfl, l0, g0, l1, g1⟩ := k25_open h0
  obtain ⟨A2, c2, A3, c3, rfl, l2, g2, l3, g3⟩ := k27_open h1
  obtain ⟨A4, c4, A5, c5, rfl, l4, g4, l5, g5⟩ := k27_open h2
  exact ⟨A0, c0, A1, c1, A2, c2, A3, c3, A4, c4, A5, c5, rfl, l0, g0, l1, g1, l2, g2, l3, g3, l4, g4, l5, g5⟩
theorem open31 : Opens Try.prog 31 k31 (fun _ => True) :=
  opens_true (opens_iso (opens_struct3 Try.underlying31 rfl (by kernel_rfl) (by kernel_rfl) (by kernel_rfl) open25 open27 open27) _ (fun p => (⟨p.1.f0, p.1.f1, p.2.1.f0, p.2.1.f1, p.2.2.f0, p.2.2.f1⟩ : S31)) (fun _ => rfl))
end Go.Proofs.Ytillofiphkmjjaa.Open

/- Drafts as arguments, by 'Opens': bytes, arrays of three bytes. -/
namespace Go.Proofs.Ytillofiphkmjjaa.Open
open Go.ChangeShapes Go.WideShapes Go.Deep Go.RowKit Go.Proofs.YtillofiphkmjjaaW.PrintWords Go.Proofs.Ytillofiphkmjjaa.X Go.Proofs.Ytillofiphkmjjaa.Pl
set_option linter.unusedVariables false
section
variable {P : Program} {α : Type}
theorem opens_imp {t : TypeId} {d : Kd α} {g g' : α → Prop} (h : Opens P t d g) (hi : ∀ a, g a → g' a) : Opens P t d g' := by
  intro H enc w spare held fuel cs x hx
  obtain ⟨a, hk, hg⟩ := h hx
  exact ⟨a, hk, hi a hg⟩
theorem opens_array3 {t e : TypeId} {d : Kd α} {g : α → Prop} (ht : P.underlying t = some (.array 3 e)) (he : P.cellsOf e = 1) (hs : P.cellsOf t = 3) (o : Opens P e d g) : Opens P t (Kd.pair d (Kd.pair d d)) (fun x => g x.1 ∧ g x.2.1 ∧ g x.2.2) := by
  intro H enc w spare held fuel cs x h
  obtain ⟨xs, n, _, _, hl, hlen, hf⟩ := DataW.trod_array ht h
  rw [he] at hf
  rw [hs] at hl
  match cs, hl with
  | [c0, c1, c2], _ =>
    match xs, hlen with
    | [y0, y1, y2], _ =>
      obtain ⟨a0, q0, g0⟩ := o (hf 0 (by decide))
      obtain ⟨a1, q1, g1⟩ := o (hf 1 (by decide))
      obtain ⟨a2, q2, g2⟩ := o (hf 2 (by decide))
      exact ⟨(a0, a1, a2), ⟨[c0], [c1, c2], rfl, q0, ⟨[c1], [c2], rfl, q1, q2⟩⟩, g0, g1, g2⟩
end
theorem open5 : Opens Try.prog 5 (Kd.int .u8) okB := opens_imp (opens_int Try.underlying5) (fun n h => bounds_u8 h)
theorem open40 : Opens Try.prog 40 (Kd.slice 5 (Kd.int .u8)) (fun l => ∀ x ∈ l, okB x) := opens_slice Try.underlying40 open5 (by kernel_rfl)
theorem open95 : Opens Try.prog 95 k95 okB3 := opens_imp (opens_iso (opens_array3 Try.underlying95 (by kernel_rfl) (by kernel_rfl) open5) (fun x : S95 => (x.f0, x.f1, x.f2)) (fun p => ⟨p.1, p.2.1, p.2.2⟩) (fun _ => rfl)) (fun _ h => h)
theorem open41 : Opens Try.prog 41 (Kd.slice 95 k95) (fun l => ∀ x ∈ l, okB3 x) := opens_slice Try.underlying41 open95 (by kernel_rfl)
structure S44 where
  f0 : List Int
  f1 : List S95
def k44 : Kd S44 := Kd.iso (Kd.pair (Kd.slice 5 (Kd.int .u8)) (Kd.slice 95 k95)) (fun x : S44 => (x.f0, x.f1))
theorem k44_open {w : World} {x : S44} {cs : List Value} (h : k44.K w x cs) : ∃ A0 c0 A1 c1, cs = [.slice A0 x.f0.length c0, .slice A1 x.f1.length c1] ∧ x.f0.length ≤ c0 ∧ (Kd.int .u8).C w A0 x.f0.length x.f0 ∧ x.f1.length ≤ c1 ∧ k95.C w A1 x.f1.length x.f1 := by
  obtain ⟨_, _, rfl, ⟨A0, c0, rfl, l0, g0⟩, ⟨A1, c1, rfl, l1, g1⟩⟩ := h
  exact ⟨A0, c0, A1, c1, rfl, l0, g0, l1, g1⟩
def ok44 (x : S44) : Prop := (∀ y ∈ x.f0, okB y) ∧ ∀ y ∈ x.f1, okB3 y
theorem open44 : Opens Try.prog 44 k44 ok44 := opens_iso (opens_struct2 Try.underlying44 rfl (by kernel_rfl) (by kernel_rfl) open40 open41) (fun x : S44 => (x.f0, x.f1)) (fun p => ⟨p.1, p.2⟩) (fun _ => rfl)
theorem open43 : Opens Try.prog 43 k44 ok44 := opens_iso (opens_struct2 Try.underlying43 rfl (by kernel_rfl) (by kernel_rfl) open40 open41) (fun x : S44 => (x.f0, x.f1)) (fun p => ⟨p.1, p.2⟩) (fun _ => rfl)
structure S46 where
  f0 : List Int
  f1 : List S95
  f2 : List Int
  f3 : List S95
  f4 : List Int
  f5 : List S95
def k46 : Kd S46 := Kd.iso (Kd.pair k44 (Kd.pair k44 k44)) (fun x : S46 => ((⟨x.f0, x.f1⟩ : S44), (⟨x.f2, x.f3⟩ : S44), (⟨x.f4, x.f5⟩ : S44)))
theorem k46_open {w : World} {x : S46} {cs : List Value} (h : k46.K w x cs) : ∃ A0 c0 A1 c1 A2 c2 A3 c3 A4 c4 A5 c5, cs = [.slice A0 x.f0.length c0, .slice A1 x.f1.length c1, .slice A2 x.f2.length c2, .slice A3 x.f3.length c3, .slice A4 x.f4.length c4, .slice A5 x.f5.length c5] ∧ x.f0.length ≤ c0 ∧ (Kd.int .u8).C w A0 x.f0.length x.f0 ∧ x.f1.length ≤ c1 ∧ k95.C w A1 x.f1.length x.f1 ∧ x.f2.length ≤ c2 ∧ (Kd.int .u8).C w A2 x.f2.length x.f2 ∧ x.f3.length ≤ c3 ∧ k95.C w A3 x.f3.length x.f3 ∧ x.f4.length ≤ c4 ∧ (Kd.int .u8).C w A4 x.f4.length x.f4 ∧ x.f5.length ≤ c5 ∧ k95.C w A5 x.f5.length x.f5 := by
  obtain ⟨_, _, rfl, h0, ⟨_, _, rfl, h1, h2⟩⟩ := h
  obtain ⟨A0, c0, A1, c1, rfl, l0, g0, l1, g1⟩ := k44_open h0
  obtain ⟨A2, c2, A3, c3, rfl, l2, g2, l3, g3⟩ := k44_open h1
  obtain ⟨A4, c4, A5, c5, rfl, l4, g4, l5, g5⟩ := k44_open h2
  exact ⟨A0, c0, A1, c1, A2, c2, A3, c3, A4, c4, A5, c5, rfl, l0, g0, l1, g1, l2, g2, l3, g3, l4, g4, l5, g5⟩
def ok46 (x : S46) : Prop := ((∀ y ∈ x.f0, okB y) ∧ ∀ y ∈ x.f1, okB3 y) ∧ ((∀ y ∈ x.f2, okB y) ∧ ∀ y ∈ x.f3, okB3 y) ∧ (∀ y ∈ x.f4, okB y) ∧ ∀ y ∈ x.f5, okB3 y
theorem open46 : Opens Try.prog 46 k46 ok46 :=
  opens_imp (opens_iso (opens_struct3 Try.underlying46 rfl (by kernel_rfl) (by kernel_rfl) (by kernel_rfl) open43 open44 open44) (fun x : S46 => ((⟨x.f0, x.f1⟩ : S44), (⟨x.f2, x.f3⟩ : S44), (⟨x.f4, x.f5⟩ : S44))) (fun p => (⟨p.1.f0, p.1.f1, p.2.1.f0, p.2.1.f1, p.2.2.f0, p.2.2.f1⟩ : S46)) (fun _ => rfl)) (fun _ h => h)
end Go.Proofs.Ytillofiphkmjjaa.Open


namespace Go.Proofs.Ytillofiphkmjjaa.pullbackExchanged
open Go.ChangeShapes Go.WideShapes Go.ChangeAt Go.RowKit
open Go.ChangeMaps (open_string shut_string)
open Go.Proofs.YtillofiphkmjjaaW.PrintWords Go.Proofs.Ytillofiphkmjjaa.X
set_option linter.unusedVariables false
theorem own : ownKnob Try.prog.godebug = none := by kernel_rfl
theorem laidOut : laidOutB Try.prog = true := by kernel_rfl
set_option maxRecDepth 100000 in
theorem lifted (os : Os) (started : os.Started) (H : Type) (enc : TypeId × Value → H) :
    ReturnsInHanded {} Try.checked os 4 .any (Rows.pullbackExchangedSpec.pre6 enc Try.prog Try.f4 Rows.pullbackExchangedRow.domain false) (Rows.pullbackExchangedSpec.post enc Try.prog Try.f4 false true false false) := by
  refine returnsInHanded_of_change_sized (C := Try.checked) own started (by kernel_rfl) Try.func4
    (ChangeSpec.witness6 (enc := enc) (C := Try.checked) false ⟨#[], #[.agg #[.slice none 0 0, .slice none 0 0, .slice none 0 0, .slice none 0 0, .slice none 0 0, .slice none 0 0]], []⟩ 8 (by kernel_rfl) (by kernel_rfl) (by kernel_rfl) (by kernel_rfl)) ?_
  intro W base args ds gs before hval0 hW hcnd hsz0 _
  clear hsz0
  have hval : ∀ (j : Nat) t v, Try.f4.params[j]? = some t → args[j]? = some v → Value.okWide Try.prog W .any base t v := hval0
  have hW' := hW
  obtain ⟨p, q, hA0, hV, rfl, hfz, hnd⟩ := hW
  have hA : DataW.TrodAll enc Try.prog W 0 (fun _ => true) true Try.f4.params.toList args.toList ds p := hA0
  rw [Try.params4] at hA hval
  obtain ⟨v0, vs0, d0, ds0, p0, q0, hargs, rfl, rfl, h0, r0⟩ := trodAll_cons hA
  obtain ⟨rfl, rfl, rfl⟩ := trodAll_nil r0
  obtain rfl : args = #[v0] := by cases args; simp_all
  obtain ⟨rfl, rfl⟩ := trodVars_none hV
  have k0 := h0
  have lt0 : ∀ x ∈ p0, x.block < W.heap.size := by obtain ⟨m, hm⟩ := k0; exact DataW.trod_lt m _ _ _ hm
  obtain ⟨cs0, rfl, hz0⟩ := okWide_struct Try.underlying46 (hval 0 46 v0 rfl rfl)
  obtain ⟨m0, hm0⟩ := h0
  obtain ⟨x0, K0, g0⟩ := Open.open46 hm0
  replace K0 : Open.k46.K W x0 cs0.toList := K0
  obtain ⟨A0_0, c0_0, A0_1, c0_1, A0_2, c0_2, A0_3, c0_3, A0_4, c0_4, A0_5, c0_5, e0, hc0_0, hr0_0, hc0_1, hr0_1, hc0_2, hr0_2, hc0_3, hr0_3, hc0_4, hr0_4, hc0_5, hr0_5⟩ := Open.k46_open K0
  obtain rfl : cs0 = #[.slice A0_0 x0.f0.length c0_0, .slice A0_1 x0.f1.length c0_1, .slice A0_2 x0.f2.length c0_2, .slice A0_3 x0.f3.length c0_3, .slice A0_4 x0.f4.length c0_4, .slice A0_5 x0.f5.length c0_5] := by apply Array.toList_inj.mp; rw [e0]
  clear hA0 hval0
  refine (Pure.PullbackExchanged_walk _ _ x0.f0 _ _ x0.f1 _ _ x0.f2 _ _ x0.f3 _ _ x0.f4 _ _ x0.f5 W hr0_0 hc0_0 hr0_1 hc0_1 hr0_2 hc0_2 hr0_3 hc0_3 hr0_4 hc0_4 hr0_5 hc0_5 g0).mono fun e W' ⟨he, bel⟩ => ?_
  subst he
  exact ⟨_, rfl, _, _, _, [], _, [], hW', trodAll_mk1 (shut_bool Try.underlying4 _), (trodAll_cons_mk (Below.trod laidOut (by kernel_rfl) (of_decide_eq_true (by kernel_rfl)) k0 bel lt0) trodAll_mk0), rfl, bel.frame _, fun h => by cases h⟩
theorem over : Rows.pullbackExchangedRow.holds Try.pinned (OpenSpec.ofChange Rows.pullbackExchangedSpec) :=
  OpenClaim.holds_of_wide 4 Try.f4 rfl rfl rfl rfl rfl rfl rfl ⟨rfl, rfl, rfl, rfl, rfl⟩ rfl rfl rfl rfl rfl (by kernel_rfl) Try.func4 (by kernel_rfl)
    (of_decide_eq_true (by kernel_rfl)) (by unfold Func.isWrapper; first | (rw [if_pos (by decide +kernel)]; kernel_rfl) | (rw [if_neg (by decide +kernel)]; exact ⟨rfl, rfl⟩))
    (fun os started H enc _ => lifted os started H enc)
theorem proved : Rows.PullbackExchangedSaid := over
#print axioms proved
end Go.Proofs.Ytillofiphkmjjaa.pullbackExchanged
namespace Go.Proofs.Ytillofiphkmjjaa
/-- The row, under a short name, for the claim. -/
theorem pullbackExchanged_holds : Rows.PullbackExchangedSaid := pullbackExchanged.proved
end Go.Proofs.Ytillofiphkmjjaa
