/- The law GraphUnion returns true at every input, and its arguments read afterwards as they read before. No condition. -/
import Derived.Test.YtmbnibonggbjgaaZGraphUnion4
import Derived.Test.YtmbnibonggbjgaaRows
namespace Go.Proofs.Ytmbnibonggbjgaa.X
open Go.RowKit Go.Proofs.YtmbnibonggbjgaaW.PrintWords Go.Proofs.YtmbnibonggbjgaaW.PrintLast Go.Proofs.YtmbnibonggbjgaaW.PrintMore
open Go.Proofs.YtmbnibonggbjgaaW.PrintWords renaming blk_drewN → bN, blk_drew → bD, blk_alloc → bA, below_alloc → wA, pw_below_drewN → wN, below_drew1 → wD, blk_below → bB, below_step → wS, blk_at → bT, blk_grown → bG
open Go.Proofs.YtmbnibonggbjgaaW.PrintWords.Kd renaming R_alloc → rA, R_drewN → rN, R_drew → rD, R_below → rB, R_grown → rG, C_below → cB, C_alloc → cA, C_drewN → cN, C_drew → cD
attribute [local go_sem] max2_int min2_int max_two min_two max_three min_three max_four min_four
set_option linter.unusedVariables false
set_option linter.unusedSimpArgs false
/-! ### scarfjointref05_kind: function 47 -/
def scarfjointref05_kind.f (a0 : Int) : Option (Bool) := if a0 ≥ 0 then (some (decide (a0 ≤ 99))) else (some false)
set_option maxHeartbeats 8000000 in
set_option maxRecDepth 100000 in
theorem scarfjointref05_kind.calls (a0 : Int) (r : Bool) (w : World) (h : scarfjointref05_kind.f a0 = some r) :
  Calls Try.prog 47 #[.int .i64 a0] w fun e w' => e = .returned (.bool r) ∧ Drawn0 w w' := by
 have H : (if a0 ≥ 0 then (some (decide (a0 ≤ 99))) else (some false)) = some r := h
 clear h
 by_cases c2 : a0 ≥ 0
 ·rw [if_pos c2] at H
  have c2b0 : decide (0 ≤ a0) = true := decide_eq_true c2
  clear c2
  obtain rfl := Option.some.inj H
  go_enter Try.func47, Try.ntmps47
  go_wp2
  go_ret
  exact ⟨by first | rfl | (simp; done) | (simp [*]; done), by repeat (first | exact Drawn0.refl _ | apply Drawn0.step)⟩
 ·rw [if_neg c2] at H
  have c2b0 : decide (0 ≤ a0) = false := decide_eq_false c2
  clear c2
  obtain rfl := Option.some.inj H
  go_enter Try.func47, Try.ntmps47
  go_wp2
  go_ret
  exact ⟨by first | rfl | (simp; done) | (simp [*]; done), by repeat (first | exact Drawn0.refl _ | apply Drawn0.step)⟩
end Go.Proofs.Ytmbnibonggbjgaa.X

namespace Go.Proofs.Ytmbnibonggbjgaa.X
open Go.RowKit Go.Proofs.YtmbnibonggbjgaaW.PrintWords Go.Proofs.YtmbnibonggbjgaaW.PrintLast Go.Proofs.YtmbnibonggbjgaaW.PrintMore
open Go.Proofs.YtmbnibonggbjgaaW.PrintWords renaming blk_drewN → bN, blk_drew → bD, blk_alloc → bA, below_alloc → wA, pw_below_drewN → wN, below_drew1 → wD, blk_below → bB, below_step → wS, blk_at → bT, blk_grown → bG
open Go.Proofs.YtmbnibonggbjgaaW.PrintWords.Kd renaming R_alloc → rA, R_drewN → rN, R_drew → rD, R_below → rB, R_grown → rG, C_below → cB, C_alloc → cA, C_drewN → cN, C_drew → cD
attribute [local go_sem] max2_int min2_int max_two min_two max_three min_three max_four min_four
set_option linter.unusedVariables false
set_option linter.unusedSimpArgs false
/-! ### scarfjointref05_right: function 53 -/
def scarfjointref05_right.f (a0_0 : Int) (a0_1 : Int) (a0_2 : Int) (a1 : Int) : Option (Bool) := (scarfjointref05_kind.f a0_0).bind fun t102 => (if t102 = true then (if a0_1 ≥ 0 then (if a0_1 < a1 then (if a0_2 ≥ 0 then (some (decide (a0_2 < a1))) else (some false)) else (some false)) else (some false)) else (some false))
set_option maxHeartbeats 8000000 in
set_option maxRecDepth 100000 in
theorem scarfjointref05_right.calls (a0_0 : Int) (a0_1 : Int) (a0_2 : Int) (a1 : Int) (r : Bool) (w : World) (h : scarfjointref05_right.f a0_0 a0_1 a0_2 a1 = some r) :
  Calls Try.prog 53 #[.agg #[.int .i64 a0_0, .int .i64 a0_1, .int .i64 a0_2], .int .i64 a1] w fun e w' => e = .returned (.bool r) ∧ Below w.heap.size w w' := by
 have hu38 := Try.underlying38
 have HB := Aside0.mk (Below.refl w.heap.size w)
 have H : ((scarfjointref05_kind.f a0_0).bind fun t102 => (if t102 = true then (if a0_1 ≥ 0 then (if a0_1 < a1 then (if a0_2 ≥ 0 then (some (decide (a0_2 < a1))) else (some false)) else (some false)) else (some false)) else (some false))) = some r := h
 clear h
 replace H := Option.bind_eq_some_iff.mp H
 obtain ⟨t102, A30, H⟩ := H
 replace H : (if t102 = true then (if a0_1 ≥ 0 then (if a0_1 < a1 then (if a0_2 ≥ 0 then (some (decide (a0_2 < a1))) else (some false)) else (some false)) else (some false)) else (some false)) = some r := H
 have A3 := Aside0.mk A30
 clear A30
 by_cases c4 : t102 = true
 ·subst c4
  have H1 : (if a0_1 ≥ 0 then (if a0_1 < a1 then (if a0_2 ≥ 0 then (some (decide (a0_2 < a1))) else (some false)) else (some false)) else (some false)) = some r := by rw [if_pos rfl] at H; exact H
  clear H
  have H := H1
  clear H1
  by_cases c5 : a0_1 ≥ 0
  ·rw [if_pos c5] at H
   have c5b0 : decide (0 ≤ a0_1) = true := decide_eq_true c5
   clear c5
   by_cases c6 : a0_1 < a1
   ·rw [if_pos c6] at H
    have c6b0 : decide (a0_1 < a1) = true := decide_eq_true c6
    clear c6
    by_cases c7 : a0_2 ≥ 0
    ·rw [if_pos c7] at H
     have c7b0 : decide (0 ≤ a0_2) = true := decide_eq_true c7
     clear c7
     obtain rfl := Option.some.inj H
     go_enter Try.func53, Try.ntmps53
     go_wp2_with (first | ((with_reducible refine gate_dst (N := 2) rfl ?_); refine box_event ?hg (N := 2) ?hd (cs := #[.int .i64 a0_0, .int .i64 a0_1, .int .i64 a0_2]) (t := 38) ?hr ?_; (case hd => rfl); (case hg => rfl); (case hr => first | (go_simp; done) | (go_simp; rfl)); intro Q01 hg w8 hbox hb; have Q00 := Aside0.mk (hbox); have Q03 := Aside0.mk ((by rw [hg]; exact (below_size hB) : w.heap.size ≤ Q01)); have Q02 := Aside0.mk ((by rw [hg]; exact (below_size hB) : w.heap.size ≤ Q01)); replace HB := uH HB hb; clear hb hbox hg; have Q04 : w8.cell? ⟨Q01, 0, none⟩ = some (.int .i64 a0_0) := (blk_cell Q00.out 0).trans rfl; have Q05 : w8.cell? ⟨Q01, 1, none⟩ = some (.int .i64 a0_1) := (blk_cell Q00.out 1).trans rfl; have Q06 : w8.cell? ⟨Q01, 2, none⟩ = some (.int .i64 a0_2) := (blk_cell Q00.out 2).trans rfl; have Q07 := blk_frozen Q00.out 0; have Q08 := blk_frozen Q00.out 1; have Q09 := blk_frozen Q00.out 2) | ((with_reducible refine gate_callee (f := 47) rfl ?_); refine goesL_ (some 7) rfl rfl Try.func47 (by kernel_rfl) rfl #[.int .i64 a0_0] rfl aM ?_; (with_reducible refine (scarfjointref05_kind.calls a0_0 true _ A3.out).mono ?_); rintro e w' ⟨rfl, ⟨nd, rfl⟩⟩; refine ⟨_, rfl, ?_⟩))
     go_ret
     exact ⟨by first | rfl | (simp [errW_none, errW_some] <;> rfl) | (simp [*, errW_none, errW_some] <;> rfl), by repeat (first | (with_reducible first | exact HB.out | apply wA | apply wN | apply wD | refine below_set ?_ Q02.out) | exact HB.out)⟩
    ·rw [if_neg c7] at H
     have c7b0 : decide (0 ≤ a0_2) = false := decide_eq_false c7
     clear c7
     obtain rfl := Option.some.inj H
     go_enter Try.func53, Try.ntmps53
     go_wp2_with (first | ((with_reducible refine gate_dst (N := 2) rfl ?_); refine box_event ?hg (N := 2) ?hd (cs := #[.int .i64 a0_0, .int .i64 a0_1, .int .i64 a0_2]) (t := 38) ?hr ?_; (case hd => rfl); (case hg => rfl); (case hr => first | (go_simp; done) | (go_simp; rfl)); intro Q01 hg w10 hbox hb; have Q00 := Aside0.mk (hbox); have Q03 := Aside0.mk ((by rw [hg]; exact (below_size hB) : w.heap.size ≤ Q01)); have Q02 := Aside0.mk ((by rw [hg]; exact (below_size hB) : w.heap.size ≤ Q01)); replace HB := uH HB hb; clear hb hbox hg; have Q0a : w10.cell? ⟨Q01, 0, none⟩ = some (.int .i64 a0_0) := (blk_cell Q00.out 0).trans rfl; have Q0b : w10.cell? ⟨Q01, 1, none⟩ = some (.int .i64 a0_1) := (blk_cell Q00.out 1).trans rfl; have Q0c : w10.cell? ⟨Q01, 2, none⟩ = some (.int .i64 a0_2) := (blk_cell Q00.out 2).trans rfl; have Q0d := blk_frozen Q00.out 0; have Q0e := blk_frozen Q00.out 1; have Q0f := blk_frozen Q00.out 2) | ((with_reducible refine gate_callee (f := 47) rfl ?_); refine goesL_ (some 7) rfl rfl Try.func47 (by kernel_rfl) rfl #[.int .i64 a0_0] rfl aM ?_; (with_reducible refine (scarfjointref05_kind.calls a0_0 true _ A3.out).mono ?_); rintro e w' ⟨rfl, ⟨nd, rfl⟩⟩; refine ⟨_, rfl, ?_⟩))
     go_ret
     exact ⟨by first | rfl | (simp [errW_none, errW_some] <;> rfl) | (simp [*, errW_none, errW_some] <;> rfl), by repeat (first | (with_reducible first | exact HB.out | apply wA | apply wN | apply wD | refine below_set ?_ Q02.out) | exact HB.out)⟩
   ·rw [if_neg c6] at H
    have c6b0 : decide (a0_1 < a1) = false := decide_eq_false c6
    clear c6
    obtain rfl := Option.some.inj H
    go_enter Try.func53, Try.ntmps53
    go_wp2_with (first | ((with_reducible refine gate_dst (N := 2) rfl ?_); refine box_event ?hg (N := 2) ?hd (cs := #[.int .i64 a0_0, .int .i64 a0_1, .int .i64 a0_2]) (t := 38) ?hr ?_; (case hd => rfl); (case hg => rfl); (case hr => first | (go_simp; done) | (go_simp; rfl)); intro Q01 hg w12 hbox hb; have Q00 := Aside0.mk (hbox); have Q03 := Aside0.mk ((by rw [hg]; exact (below_size hB) : w.heap.size ≤ Q01)); have Q02 := Aside0.mk ((by rw [hg]; exact (below_size hB) : w.heap.size ≤ Q01)); replace HB := uH HB hb; clear hb hbox hg; have Q0g : w12.cell? ⟨Q01, 0, none⟩ = some (.int .i64 a0_0) := (blk_cell Q00.out 0).trans rfl; have Q0h : w12.cell? ⟨Q01, 1, none⟩ = some (.int .i64 a0_1) := (blk_cell Q00.out 1).trans rfl; have Q0i : w12.cell? ⟨Q01, 2, none⟩ = some (.int .i64 a0_2) := (blk_cell Q00.out 2).trans rfl; have Q0j := blk_frozen Q00.out 0; have Q0k := blk_frozen Q00.out 1; have Q0l := blk_frozen Q00.out 2) | ((with_reducible refine gate_callee (f := 47) rfl ?_); refine goesL_ (some 7) rfl rfl Try.func47 (by kernel_rfl) rfl #[.int .i64 a0_0] rfl aM ?_; (with_reducible refine (scarfjointref05_kind.calls a0_0 true _ A3.out).mono ?_); rintro e w' ⟨rfl, ⟨nd, rfl⟩⟩; refine ⟨_, rfl, ?_⟩))
    go_ret
    exact ⟨by first | rfl | (simp [errW_none, errW_some] <;> rfl) | (simp [*, errW_none, errW_some] <;> rfl), by repeat (first | (with_reducible first | exact HB.out | apply wA | apply wN | apply wD | refine below_set ?_ Q02.out) | exact HB.out)⟩
  ·rw [if_neg c5] at H
   have c5b0 : decide (0 ≤ a0_1) = false := decide_eq_false c5
   clear c5
   obtain rfl := Option.some.inj H
   go_enter Try.func53, Try.ntmps53
   go_wp2_with (first | ((with_reducible refine gate_dst (N := 2) rfl ?_); refine box_event ?hg (N := 2) ?hd (cs := #[.int .i64 a0_0, .int .i64 a0_1, .int .i64 a0_2]) (t := 38) ?hr ?_; (case hd => rfl); (case hg => rfl); (case hr => first | (go_simp; done) | (go_simp; rfl)); intro Q01 hg w14 hbox hb; have Q00 := Aside0.mk (hbox); have Q03 := Aside0.mk ((by rw [hg]; exact (below_size hB) : w.heap.size ≤ Q01)); have Q02 := Aside0.mk ((by rw [hg]; exact (below_size hB) : w.heap.size ≤ Q01)); replace HB := uH HB hb; clear hb hbox hg; have Q0m : w14.cell? ⟨Q01, 0, none⟩ = some (.int .i64 a0_0) := (blk_cell Q00.out 0).trans rfl; have Q0n : w14.cell? ⟨Q01, 1, none⟩ = some (.int .i64 a0_1) := (blk_cell Q00.out 1).trans rfl; have Q0o : w14.cell? ⟨Q01, 2, none⟩ = some (.int .i64 a0_2) := (blk_cell Q00.out 2).trans rfl; have Q0p := blk_frozen Q00.out 0; have Q0q := blk_frozen Q00.out 1; have Q0r := blk_frozen Q00.out 2) | ((with_reducible refine gate_callee (f := 47) rfl ?_); refine goesL_ (some 7) rfl rfl Try.func47 (by kernel_rfl) rfl #[.int .i64 a0_0] rfl aM ?_; (with_reducible refine (scarfjointref05_kind.calls a0_0 true _ A3.out).mono ?_); rintro e w' ⟨rfl, ⟨nd, rfl⟩⟩; refine ⟨_, rfl, ?_⟩))
   go_ret
   exact ⟨by first | rfl | (simp [errW_none, errW_some] <;> rfl) | (simp [*, errW_none, errW_some] <;> rfl), by repeat (first | (with_reducible first | exact HB.out | apply wA | apply wN | apply wD | refine below_set ?_ Q02.out) | exact HB.out)⟩
 ·replace c4 := Bool.eq_false_iff.mpr c4
  subst c4
  have H1 : (some false) = some r := by rw [if_neg (show ¬ (false = true) by decide)] at H; exact H
  clear H
  have H := H1
  clear H1
  obtain rfl := Option.some.inj H
  go_enter Try.func53, Try.ntmps53
  go_wp2_with (first | ((with_reducible refine gate_dst (N := 2) rfl ?_); refine box_event ?hg (N := 2) ?hd (cs := #[.int .i64 a0_0, .int .i64 a0_1, .int .i64 a0_2]) (t := 38) ?hr ?_; (case hd => rfl); (case hg => rfl); (case hr => first | (go_simp; done) | (go_simp; rfl)); intro Q01 hg w16 hbox hb; have Q00 := Aside0.mk (hbox); have Q03 := Aside0.mk ((by rw [hg]; exact (below_size hB) : w.heap.size ≤ Q01)); have Q02 := Aside0.mk ((by rw [hg]; exact (below_size hB) : w.heap.size ≤ Q01)); replace HB := uH HB hb; clear hb hbox hg; have Q0s : w16.cell? ⟨Q01, 0, none⟩ = some (.int .i64 a0_0) := (blk_cell Q00.out 0).trans rfl; have Q0t : w16.cell? ⟨Q01, 1, none⟩ = some (.int .i64 a0_1) := (blk_cell Q00.out 1).trans rfl; have Q0u : w16.cell? ⟨Q01, 2, none⟩ = some (.int .i64 a0_2) := (blk_cell Q00.out 2).trans rfl; have Q0v := blk_frozen Q00.out 0; have Q0w := blk_frozen Q00.out 1; have Q0x := blk_frozen Q00.out 2) | ((with_reducible refine gate_callee (f := 47) rfl ?_); refine goesL_ (some 7) rfl rfl Try.func47 (by kernel_rfl) rfl #[.int .i64 a0_0] rfl aM ?_; (with_reducible refine (scarfjointref05_kind.calls a0_0 false _ A3.out).mono ?_); rintro e w' ⟨rfl, ⟨nd, rfl⟩⟩; refine ⟨_, rfl, ?_⟩))
  go_ret
  exact ⟨by first | rfl | (simp [errW_none, errW_some] <;> rfl) | (simp [*, errW_none, errW_some] <;> rfl), by repeat (first | (with_reducible first | exact HB.out | apply wA | apply wN | apply wD | refine below_set ?_ Q02.out) | exact HB.out)⟩
end Go.Proofs.Ytmbnibonggbjgaa.X

namespace Go.Proofs.Ytmbnibonggbjgaa.X
open Go.RowKit Go.Proofs.YtmbnibonggbjgaaW.PrintWords Go.Proofs.YtmbnibonggbjgaaW.PrintLast Go.Proofs.YtmbnibonggbjgaaW.PrintMore
open Go.Proofs.YtmbnibonggbjgaaW.PrintWords renaming blk_drewN → bN, blk_drew → bD, blk_alloc → bA, below_alloc → wA, pw_below_drewN → wN, below_drew1 → wD, blk_below → bB, below_step → wS, blk_at → bT, blk_grown → bG
open Go.Proofs.YtmbnibonggbjgaaW.PrintWords.Kd renaming R_alloc → rA, R_drewN → rN, R_drew → rD, R_below → rB, R_grown → rG, C_below → cB, C_alloc → cA, C_drewN → cN, C_drew → cD
attribute [local go_sem] max2_int min2_int max_two min_two max_three min_three max_four min_four
set_option linter.unusedVariables false
set_option linter.unusedSimpArgs false
/-! ### scarfjointref05_Valid: function 27 -/
mutual
def scarfjointref05_Valid.j0 : Nat → Bool → List Int → List (S38) → Option (Int)
 | 0, _, _, _ => none
 | k + 1, x14, x102000, x102001 => if x14 = true then (some 3) else (scarfjointref05_Valid.l0 k 0 x102000 x102001)
def scarfjointref05_Valid.l0 : Nat → Int → List Int → List (S38) → Option (Int)
 | 0, _, _, _ => none
 | k + 1, x3, x102000, x102001 => if x3 < (x102000.length : Int) then (if 0 ≤ x3 then ((scarfjointref05_kind.f (rd x102000 x3)).bind fun t103 => (if t103 = true then (scarfjointref05_Valid.l0 k (wrap64 (x3 + 1)) x102000 x102001) else (some 6))) else (none)) else (scarfjointref05_Valid.l1 k 0 x102000 x102001)
def scarfjointref05_Valid.l1 : Nat → Int → List Int → List (S38) → Option (Int)
 | 0, _, _, _ => none
 | k + 1, x4, x102000, x102001 => if x4 < (x102001.length : Int) then (if 0 ≤ x4 then ((scarfjointref05_right.f ((rd_T38 x102001 x4).f0) ((rd_T38 x102001 x4).f1) ((rd_T38 x102001 x4).f2) (x102000.length : Int)).bind fun t105 => (if t105 = true then (scarfjointref05_Valid.l1 k (wrap64 (x4 + 1)) x102000 x102001) else (some 6))) else (none)) else (some 0)
end
def scarfjointref05_Valid.f (k : Nat) (l0_0 : List Int) (l0_1 : List (S38)) : Option (Int) := if (l0_0.length : Int) > 40 then (scarfjointref05_Valid.j0 k true l0_0 l0_1) else (scarfjointref05_Valid.j0 k (decide ((l0_1.length : Int) > 80)) l0_0 l0_1)
theorem scarfjointref05_Valid.mono_l : ∀ k, (∀ y0 y1 y2, LeO (scarfjointref05_Valid.j0 k y0 y1 y2) (scarfjointref05_Valid.j0 (k + 1) y0 y1 y2)) ∧ (∀ y0 y1 y2, LeO (scarfjointref05_Valid.l0 k y0 y1 y2) (scarfjointref05_Valid.l0 (k + 1) y0 y1 y2)) ∧ (∀ y0 y1 y2, LeO (scarfjointref05_Valid.l1 k y0 y1 y2) (scarfjointref05_Valid.l1 (k + 1) y0 y1 y2))
 | 0 => ⟨fun _ _ _ r h => by simp [scarfjointref05_Valid.j0] at h, fun _ _ _ r h => by simp [scarfjointref05_Valid.l0] at h, fun _ _ _ r h => by simp [scarfjointref05_Valid.l1] at h⟩
 | k + 1 => by
  obtain ⟨ih0, ih1, ih2⟩ := scarfjointref05_Valid.mono_l k
  refine ⟨?_, ?_, ?_⟩
  ·intro y0 y1 y2
   unfold scarfjointref05_Valid.j0
   repeat' first
   | (with_reducible exact ih0 _ _ _)
   | (with_reducible exact ih1 _ _ _)
   | (with_reducible exact ih2 _ _ _)
   | (with_reducible exact LeO.refl _)
   | (with_reducible exact LeO.none _)
   | (with_reducible refine LeO.ite ?_ ?_)
   | (with_reducible refine LeO.bind ?_ (fun _ => ?_))
   | exact ih0 _ _ _
   | exact ih1 _ _ _
   | exact ih2 _ _ _
   | exact LeO.none _
   | refine LeO.ite ?_ ?_
   | refine LeO.bind ?_ (fun _ => ?_)
  ·intro y0 y1 y2
   unfold scarfjointref05_Valid.l0
   repeat' first
   | (with_reducible exact ih0 _ _ _)
   | (with_reducible exact ih1 _ _ _)
   | (with_reducible exact ih2 _ _ _)
   | (with_reducible exact LeO.refl _)
   | (with_reducible exact LeO.none _)
   | (with_reducible refine LeO.ite ?_ ?_)
   | (with_reducible refine LeO.bind ?_ (fun _ => ?_))
   | exact ih0 _ _ _
   | exact ih1 _ _ _
   | exact ih2 _ _ _
   | exact LeO.none _
   | refine LeO.ite ?_ ?_
   | refine LeO.bind ?_ (fun _ => ?_)
  ·intro y0 y1 y2
   unfold scarfjointref05_Valid.l1
   repeat' first
   | (with_reducible exact ih0 _ _ _)
   | (with_reducible exact ih1 _ _ _)
   | (with_reducible exact ih2 _ _ _)
   | (with_reducible exact LeO.refl _)
   | (with_reducible exact LeO.none _)
   | (with_reducible refine LeO.ite ?_ ?_)
   | (with_reducible refine LeO.bind ?_ (fun _ => ?_))
   | exact ih0 _ _ _
   | exact ih1 _ _ _
   | exact ih2 _ _ _
   | exact LeO.none _
   | refine LeO.ite ?_ ?_
   | refine LeO.bind ?_ (fun _ => ?_)
theorem scarfjointref05_Valid.mono : ∀ a0 a1 k, LeO (scarfjointref05_Valid.f k a0 a1) (scarfjointref05_Valid.f (k + 1) a0 a1) := by
 intro a0 a1 k
 obtain ⟨ih0, ih1, ih2⟩ := scarfjointref05_Valid.mono_l k
 unfold scarfjointref05_Valid.f
 repeat' first
   | (with_reducible exact ih0 _ _ _)
   | (with_reducible exact ih1 _ _ _)
   | (with_reducible exact ih2 _ _ _)
   | (with_reducible exact LeO.refl _)
   | (with_reducible exact LeO.none _)
   | (with_reducible refine LeO.ite ?_ ?_)
   | (with_reducible refine LeO.bind ?_ (fun _ => ?_))
   | exact ih0 _ _ _
   | exact ih1 _ _ _
   | exact ih2 _ _ _
   | exact LeO.none _
   | refine LeO.ite ?_ ?_
   | refine LeO.bind ?_ (fun _ => ?_)
def scarfjointref05_Valid.T11 : Bool × List (List Nat × List Nat) := (true, [([], []), ([0], [0]), ([], []), ([1, 2], [1, 2]), ([3], [3]), ([], []), ([5], [5]), ([6], [6]), ([4, 7], [4, 7]), ([8], [8])])
def scarfjointref05_Valid.B11 : List Nat := [0, 1, 0, 7, 15, 0, 32, 96, 255, 511]
theorem scarfjointref05_Valid.tab11 : rtab .any (opsOf Try.f27 11) = scarfjointref05_Valid.T11 := by kernel_rfl
theorem scarfjointref05_Valid.bits11 : waitsOk scarfjointref05_Valid.T11.2 scarfjointref05_Valid.B11 = true := by kernel_rfl
set_option maxHeartbeats 8000000 in
set_option maxRecDepth 100000 in
theorem scarfjointref05_Valid.calls (k : Nat) (A0_0 : Option Addr) (c0_0 : Nat) (l0_0 : List Int) (A0_1 : Option Addr) (c0_1 : Nat) (l0_1 : List (S38)) (r : Int) (w : World) (hr0_0 : Kd.C (Kd.int .i64) w A0_0 l0_0.length l0_0) (hc0_0 : l0_0.length ≤ c0_0) (hr0_1 : Kd.C k38 w A0_1 l0_1.length l0_1) (hc0_1 : l0_1.length ≤ c0_1) (h : scarfjointref05_Valid.f k l0_0 l0_1 = some r) :
  Calls Try.prog 27 #[.agg #[.slice A0_0 l0_0.length c0_0, .slice A0_1 l0_1.length c0_1]] w fun e w' => e = .returned (.int .i64 r) ∧ Below w.heap.size w w' := by
 have hu25 := Try.underlying25
 have hu38 := Try.underlying38
 have HR0_0 := Aside0.mk hr0_0
 have HC0_0 := Aside0.mk hc0_0
 clear hr0_0 hc0_0
 have HR0_1 := Aside0.mk hr0_1
 have HC0_1 := Aside0.mk hc0_1
 clear hr0_1 hc0_1
 have HB := Aside0.mk (Below.refl w.heap.size w)
 have H : (if (l0_0.length : Int) > 40 then (scarfjointref05_Valid.j0 k true l0_0 l0_1) else (scarfjointref05_Valid.j0 k (decide ((l0_1.length : Int) > 80)) l0_0 l0_1)) = some r := h
 clear h
 have HC2 := Aside0.mk H
 clear H
 go_enter Try.func27, Try.ntmps27
 go_upto_region 1 with (first | ((with_reducible refine gate_dst (N := 1) rfl ?_); (try (refine gate_guard (by rfl) ?_; dsimp only)); refine box_event ?hg (N := 1) ?hd (cs := #[.slice A0_0 l0_0.length c0_0, .slice A0_1 l0_1.length c0_1]) (t := 25) ?hr ?_; (case hd => rfl); (case hg => rfl); (case hr => first | (go_simp; done) | (go_simp; rfl)); intro Q01 hg w3 hbox hb; have Q00 := Aside0.mk (hbox); have Q0n := Aside0.mk ((by rw [hg]; exact (below_size hB) : w.heap.size ≤ Q01)); have Q02 := Aside0.mk ((by rw [hg]; exact (below_size hB) : w.heap.size ≤ Q01)); replace HB := uH HB hb; clear hb hbox hg))
 (try simp only [Act.put, List.setIfInBounds_toArray, List.set_cons_zero, List.set_cons_succ])
 go_cut [14] (fun v14 wc => ∃ (kq : Nat) (x14_1 : Bool), v14 = .bool x14_1 ∧ Aside0 (scarfjointref05_Valid.j0 kq x14_1 l0_0 l0_1 = some r) ∧ Aside0 (kq ≤ k) ∧ Aside0 (wc.heap[Q01]? = some (.cells #[(.slice A0_0 l0_0.length c0_0), (.slice A0_1 l0_1.length c0_1)] 25 (0, 0))) ∧ Aside0 (Below w.heap.size w wc))
 case first =>
  have H := HC2.out
  clear HC2
  by_cases c4 : (l0_0.length : Int) > 40
  ·rw [if_pos c4] at H
   have c4b0 : decide (40 < (l0_0.length : Int)) = true := decide_eq_true c4
   have c4b1 : decide (40 < l0_0.length) = true := decide_eq_true (by omega)
   clear c4
   (first | rw [c4b0] | (simp only [i64_w, i32_w]; rw [c4b0]) | skip)
   have H' := Aside0.mk H
   clear H
   have Q03 : w3.cell? ⟨Q01, 0, none⟩ = some (.slice A0_0 l0_0.length c0_0) := (blk_cell Q00.out 0).trans rfl
   have Q04 : w3.cell? ⟨Q01, 1, none⟩ = some (.slice A0_1 l0_1.length c0_1) := (blk_cell Q00.out 1).trans rfl
   have Q05 := blk_frozen Q00.out 0
   have Q06 := blk_frozen Q00.out 1
   go_wp2
   go_meet
   case rel => exact ⟨_, (true), rS, H', ⟨by first | omega | exact Nat.le_refl _⟩, ⟨pB Q00⟩, ⟨pH HB⟩⟩
  ·rw [if_neg c4] at H
   have c4b0 : decide (40 < (l0_0.length : Int)) = false := decide_eq_false c4
   have c4b1 : decide (40 < l0_0.length) = false := decide_eq_false (by omega)
   clear c4
   (first | rw [c4b0] | (simp only [i64_w, i32_w]; rw [c4b0]) | skip)
   have H' := Aside0.mk H
   clear H
   have Q07 : w3.cell? ⟨Q01, 0, none⟩ = some (.slice A0_0 l0_0.length c0_0) := (blk_cell Q00.out 0).trans rfl
   have Q08 : w3.cell? ⟨Q01, 1, none⟩ = some (.slice A0_1 l0_1.length c0_1) := (blk_cell Q00.out 1).trans rfl
   have Q09 := blk_frozen Q00.out 0
   have Q0a := blk_frozen Q00.out 1
   go_wp2
   go_meet
   case rel => exact ⟨_, (decide ((l0_1.length : Int) > 80)), rS, H', ⟨by first | omega | exact Nat.le_refl _⟩, ⟨pB Q00⟩, ⟨pH HB⟩⟩
 case rest =>
  clear HC2
  try clear c2; try clear p2; try clear c4; try clear c4b0; try clear c4b1; try clear Q03; try clear Q04; try clear Q07; try clear Q08; try clear Q05; try clear Q06; try clear Q09; try clear Q0a
  obtain ⟨kq, x14_1, rfl, HA, HJ1, Q00, HB⟩ := hcut
  cases kq with
  | zero => exact absurd HA.out (by simp [scarfjointref05_Valid.j0])
  | succ kj1 =>
   have H := HA.out
   clear HA
   simp only [scarfjointref05_Valid.j0] at H
   by_cases c7 : x14_1 = true
   ·subst c7
    have H1 : (some 3) = some r := by rw [if_pos rfl] at H; exact H
    clear H
    have H := H1
    clear H1
    obtain rfl := Option.some.inj H
    go_wp2
    go_ret
    exact ⟨by first | rfl | (simp [errW_none, errW_some] <;> rfl) | (simp [*, errW_none, errW_some] <;> rfl), by repeat (first | (with_reducible first | exact HB.out | apply wA | apply wN | apply wD | refine below_set ?_ Q02.out) | exact HB.out)⟩
   ·replace c7 := Bool.eq_false_iff.mpr c7
    subst c7
    have H1 : (scarfjointref05_Valid.l0 kj1 0 l0_0 l0_1) = some r := by rw [if_neg (show ¬ (false = true) by decide)] at H; exact H
    clear H
    have H := H1
    clear H1
    have H' := Aside0.mk H
    clear H
    go_wp2
    go_loopg [3] kj1 (fun kq v3 w' => ∃ (x3_2 : Int), v3 = .int .i64 x3_2 ∧ Aside0 (scarfjointref05_Valid.l0 kq x3_2 l0_0 l0_1 = some r) ∧ Aside0 (kq ≤ kj1) ∧ Aside0 (w'.heap[Q01]? = some (.cells #[(.slice A0_0 l0_0.length c0_0), (.slice A0_1 l0_1.length c0_1)] 25 (0, 0))) ∧ Aside0 (Below w.heap.size w w'))
    case atStart => exact ⟨(0), rS, H', ⟨Nat.le_refl _⟩, ⟨pB Q00⟩, ⟨pH HB⟩⟩
    case round =>
     clear H'
     try clear c2; try clear p2; try clear c4; try clear c4b0; try clear c4b1; try clear c7; try clear Q03; try clear Q04; try clear Q07; try clear Q08; try clear Q05; try clear Q06; try clear Q09; try clear Q0a; try clear p2
     obtain ⟨x3_2, rfl, HA, HK2, Q00, HB⟩ := hrel
     cases gk with
     | zero => exact absurd HA.out (by simp [scarfjointref05_Valid.l0])
     | succ k2 =>
      have H := HA.out
      clear HA
      simp only [scarfjointref05_Valid.l0] at H
      by_cases c8 : x3_2 < (l0_0.length : Int)
      ·rw [if_pos c8] at H
       have c8b0 : decide (x3_2 < (l0_0.length : Int)) = true := decide_eq_true c8
       clear c8
       by_cases c9 : 0 ≤ x3_2
       ·rw [if_pos c9] at H
        have c9b0 : decide (0 ≤ x3_2) = true := decide_eq_true c9
        clear c9
        replace H := Option.bind_eq_some_iff.mp H
        obtain ⟨t103, A100, H⟩ := H
        replace H : (if t103 = true then (scarfjointref05_Valid.l0 k2 (wrap64 (x3_2 + 1)) l0_0 l0_1) else (some 6)) = some r := H
        have A10 := Aside0.mk A100
        clear A100
        by_cases c11 : t103 = true
        ·subst c11
         have H1 : (scarfjointref05_Valid.l0 k2 (wrap64 (x3_2 + 1)) l0_0 l0_1) = some r := by rw [if_pos rfl] at H; exact H
         clear H
         have H := H1
         clear H1
         have H' := Aside0.mk H
         clear H
         have Q0b : wr.cell? ⟨Q01, 0, none⟩ = some (.slice A0_0 l0_0.length c0_0) := (blk_cell Q00.out 0).trans rfl
         have Q0c : wr.cell? ⟨Q01, 1, none⟩ = some (.slice A0_1 l0_1.length c0_1) := (blk_cell Q00.out 1).trans rfl
         have Q0d := blk_frozen Q00.out 0
         have Q0e := blk_frozen Q00.out 1
         have p102 : 0 ≤ (x3_2 : Int) := oT
         have q102 : x3_2 < (l0_0.length : Int) := oT
         obtain ⟨ad102, e102, hx102_0⟩ := Kd.at_int HR0_0.out x3_2 p102 q102
         cases e102
         replace hx102_0 := (HB.out.cell (World.block_lt_of_cell? w _ hx102_0)).trans hx102_0
         replace p102 := eq_true p102
         replace q102 := eq_true q102
         go_wp2_with (first | ((with_reducible refine gate_callee (f := 47) rfl ?_); refine goesL_ (some 27) rfl rfl Try.func47 (by kernel_rfl) rfl #[.int .i64 (rd l0_0 x3_2)] rfl aM ?_; (with_reducible refine (scarfjointref05_kind.calls (rd l0_0 x3_2) true _ A10.out).mono ?_); rintro e w' ⟨rfl, ⟨nd, rfl⟩⟩; refine ⟨_, rfl, ?_⟩))
         go_roundg k2
         case measure => have := HJ1.out; have := HK2.out; omega
         case rel => exact ⟨(wrap64 (x3_2 + 1)), rS, H', ⟨by have := HJ1.out; have := HK2.out; omega⟩, ⟨pB Q00⟩, ⟨pH HB⟩⟩
        ·replace c11 := Bool.eq_false_iff.mpr c11
         subst c11
         have H1 : (some 6) = some r := by rw [if_neg (show ¬ (false = true) by decide)] at H; exact H
         clear H
         have H := H1
         clear H1
         obtain rfl := Option.some.inj H
         have Q0f : wr.cell? ⟨Q01, 0, none⟩ = some (.slice A0_0 l0_0.length c0_0) := (blk_cell Q00.out 0).trans rfl
         have Q0g : wr.cell? ⟨Q01, 1, none⟩ = some (.slice A0_1 l0_1.length c0_1) := (blk_cell Q00.out 1).trans rfl
         have Q0h := blk_frozen Q00.out 0
         have Q0i := blk_frozen Q00.out 1
         have p102 : 0 ≤ (x3_2 : Int) := oT
         have q102 : x3_2 < (l0_0.length : Int) := oT
         obtain ⟨ad102, e102, hx102_0⟩ := Kd.at_int HR0_0.out x3_2 p102 q102
         cases e102
         replace hx102_0 := (HB.out.cell (World.block_lt_of_cell? w _ hx102_0)).trans hx102_0
         replace p102 := eq_true p102
         replace q102 := eq_true q102
         go_wp2_with (first | ((with_reducible refine gate_callee (f := 47) rfl ?_); refine goesL_ (some 27) rfl rfl Try.func47 (by kernel_rfl) rfl #[.int .i64 (rd l0_0 x3_2)] rfl aM ?_; (with_reducible refine (scarfjointref05_kind.calls (rd l0_0 x3_2) false _ A10.out).mono ?_); rintro e w' ⟨rfl, ⟨nd, rfl⟩⟩; refine ⟨_, rfl, ?_⟩))
         go_ret
         exact ⟨by first | rfl | (simp [errW_none, errW_some] <;> rfl) | (simp [*, errW_none, errW_some] <;> rfl), by repeat (first | (with_reducible first | exact HB.out | apply wA | apply wN | apply wD | refine below_set ?_ Q02.out) | exact HB.out)⟩
       ·rw [if_neg c9] at H
        exact absurd H (by simp)
      ·rw [if_neg c8] at H
       have c8b0 : decide (x3_2 < (l0_0.length : Int)) = false := decide_eq_false c8
       clear c8
       have H' := Aside0.mk H
       clear H
       have Q0j : wr.cell? ⟨Q01, 0, none⟩ = some (.slice A0_0 l0_0.length c0_0) := (blk_cell Q00.out 0).trans rfl
       have Q0k : wr.cell? ⟨Q01, 1, none⟩ = some (.slice A0_1 l0_1.length c0_1) := (blk_cell Q00.out 1).trans rfl
       have Q0l := blk_frozen Q00.out 0
       have Q0m := blk_frozen Q00.out 1
       go_wp2
       go_loopg [4] k2 (fun kq v4 w' => ∃ (x4_3 : Int), v4 = .int .i64 x4_3 ∧ Aside0 (scarfjointref05_Valid.l1 kq x4_3 l0_0 l0_1 = some r) ∧ Aside0 (kq ≤ k2) ∧ Aside0 (w'.heap[Q01]? = some (.cells #[(.slice A0_0 l0_0.length c0_0), (.slice A0_1 l0_1.length c0_1)] 25 (0, 0))) ∧ Aside0 (Below w.heap.size w w'))
       case atStart => exact ⟨(0), rS, H', ⟨Nat.le_refl _⟩, ⟨pB Q00⟩, ⟨pH HB⟩⟩
       case round =>
        clear H'
        try clear c1; try clear c2; try clear p2; try clear q2; try clear hx2; try clear c4; try clear c4b0; try clear c4b1; try clear p6; try clear c7; try clear c8; try clear c8b0; try clear c9; try clear c9b0; try clear c11; try clear Q0b; try clear Q0c; try clear Q0f; try clear Q0g; try clear Q0j; try clear Q0k; try clear Q03; try clear Q04; try clear Q07; try clear Q08; try clear Q0d; try clear Q0e; try clear Q0h; try clear Q0i; try clear Q0l; try clear Q0m; try clear Q05; try clear Q06; try clear Q09; try clear Q0a; try clear hx102_0; try clear p2; try clear p102; try clear q102
        obtain ⟨x4_3, rfl, HA, HK3, Q00, HB⟩ := hrel
        cases gk with
        | zero => exact absurd HA.out (by simp [scarfjointref05_Valid.l1])
        | succ k3 =>
         have H := HA.out
         clear HA
         simp only [scarfjointref05_Valid.l1] at H
         by_cases c15 : x4_3 < (l0_1.length : Int)
         ·rw [if_pos c15] at H
          have c15b0 : decide (x4_3 < (l0_1.length : Int)) = true := decide_eq_true c15
          clear c15
          by_cases c16 : 0 ≤ x4_3
          ·rw [if_pos c16] at H
           have c16b0 : decide (0 ≤ x4_3) = true := decide_eq_true c16
           clear c16
           replace H := Option.bind_eq_some_iff.mp H
           obtain ⟨t105, A170, H⟩ := H
           replace H : (if t105 = true then (scarfjointref05_Valid.l1 k3 (wrap64 (x4_3 + 1)) l0_0 l0_1) else (some 6)) = some r := H
           have A17 := Aside0.mk A170
           clear A170
           by_cases c18 : t105 = true
           ·subst c18
            have H1 : (scarfjointref05_Valid.l1 k3 (wrap64 (x4_3 + 1)) l0_0 l0_1) = some r := by rw [if_pos rfl] at H; exact H
            clear H
            have H := H1
            clear H1
            have H' := Aside0.mk H
            clear H
            have Q0o : wr.cell? ⟨Q01, 0, none⟩ = some (.slice A0_0 l0_0.length c0_0) := (blk_cell Q00.out 0).trans rfl
            have Q0p : wr.cell? ⟨Q01, 1, none⟩ = some (.slice A0_1 l0_1.length c0_1) := (blk_cell Q00.out 1).trans rfl
            have Q0q := blk_frozen Q00.out 0
            have Q0r := blk_frozen Q00.out 1
            try go_wp2
            replace Q00 := Aside0.mk (bD Q00.out)
            replace HB := Aside0.mk (wD HB.out)
            have p104 : 0 ≤ (x4_3 : Int) := oT
            have q104 : x4_3 < (l0_1.length : Int) := oT
            obtain ⟨ad104, e104, hx104_0, hx104_1, hx104_2⟩ := at_T38 HR0_1.out x4_3 p104 q104
            have hw104_2 := hx104_2
            have hw104_1 := hx104_1
            have hw104_0 := hx104_0
            cases e104
            replace hx104_0 := (HB.out.cell (World.block_lt_of_cell? w _ hx104_0)).trans hx104_0
            replace hx104_1 := (HB.out.cell (World.block_lt_of_cell? w _ hx104_1)).trans hx104_1
            replace hx104_2 := (HB.out.cell (World.block_lt_of_cell? w _ hx104_2)).trans hx104_2
            replace p104 := eq_true p104
            replace q104 := eq_true q104
            refine start_ (n := 10) (S := fun w' => w'.cell? ⟨Q01, 0, none⟩ = some (.slice A0_0 l0_0.length c0_0) ∧ w'.cell? ⟨Q01, 1, none⟩ = some (.slice (some ad104) l0_1.length c0_1) ∧ w'.cell? (ad104.add ((x4_3).toNat * 3)) = some (.int .i64 ((rd_T38 l0_1 x4_3).f0)) ∧ w'.cell? ⟨(ad104.add ((x4_3).toNat * 3)).block, (ad104.add ((x4_3).toNat * 3)).off + 1, none⟩ = some (.int .i64 ((rd_T38 l0_1 x4_3).f1)) ∧ w'.cell? ⟨(ad104.add ((x4_3).toNat * 3)).block, (ad104.add ((x4_3).toNat * 3)).off + 2, none⟩ = some (.int .i64 ((rd_T38 l0_1 x4_3).f2))) (ds := []) #[false, false, false, false, false, false, false, false, false, false] (by kernel_rfl) rfl rfl ⟨(blk_cell Q00.out 0).trans rfl, (blk_cell Q00.out 1).trans rfl, ((HB.out.cell (World.block_lt_of_cell? w _ hw104_0)).trans hw104_0), ((HB.out.cell (World.block_lt_of_cell? w _ hw104_1)).trans hw104_1), ((HB.out.cell (World.block_lt_of_cell? w _ hw104_2)).trans hw104_2)⟩ (fun hHeld => ?_); refine with_tabW scarfjointref05_Valid.tab11 scarfjointref05_Valid.bits11 (fun HT_ HW_ => ?_)
            generalize wr.drew = w20 at Q00 HB hx104_0 hx104_1 hx104_2 hHeld ⊢
            refine pure_ (i := 0) (N := some 36) (v := ?_) (a' := ?_) #[true, false, false, false, false, false, false, false, false, false] rfl rfl (any_of HT_.out (by kernel_rfl)) (fun _ _ _ h => h) (Or.inl ⟨by rfl, ?_⟩) ?_ ?_
            rotate_left
            ·intro w'
             go_simp
             with_reducible rfl
            rotate_left
            ·simp only [Act.put, List.setIfInBounds_toArray, List.set_cons_zero, List.set_cons_succ, i64_w, i32_w]
             rfl
            refine pure_ (i := 2) (N := some 38) (v := ?_) (a' := ?_) #[true, false, true, false, false, false, false, false, false, false] rfl rfl (any_of HT_.out (by kernel_rfl)) (fun _ _ _ h => h) (Or.inl ⟨by rfl, ?_⟩) ?_ ?_
            rotate_left
            ·intro w'
             go_simp
             with_reducible rfl
            rotate_left
            ·simp only [Act.put, List.setIfInBounds_toArray, List.set_cons_zero, List.set_cons_succ, i64_w, i32_w]
             rfl
            refine pure_ (i := 5) (N := some 41) (v := ?_) (a' := ?_) #[true, false, true, false, false, true, false, false, false, false] rfl rfl (any_of HT_.out (by kernel_rfl)) (fun _ _ _ h => h) (Or.inl ⟨by rfl, ?_⟩) ?_ ?_
            rotate_left
            ·intro w'
             go_simp
             with_reducible rfl
            rotate_left
            ·simp only [Act.put, List.setIfInBounds_toArray, List.set_cons_zero, List.set_cons_succ, i64_w, i32_w]
             rfl
            refine take_ (i := 1) (N := some 37) (v := ?_) (a' := ?_) #[true, true, true, false, false, true, false, false, false, false] rfl rfl (take_ofW HT_.out HW_.out (by kernel_rfl)) (fun _ _ _ h => h) (Or.inl ⟨by rfl, ?_⟩) hHeld ?_ ?_
            rotate_left
            ·rintro w' ⟨s0, s1, s2, s3, s4⟩
             go_simp
             with_reducible rfl
            rotate_left
            ·simp only [Act.put, List.setIfInBounds_toArray, List.set_cons_zero, List.set_cons_succ, i64_w, i32_w]
             rfl
            refine pure_ (i := 3) (N := some 39) (v := ?_) (a' := ?_) #[true, true, true, true, false, true, false, false, false, false] rfl rfl (any_of HT_.out (by kernel_rfl)) (fun _ _ _ h => h) (Or.inl ⟨by rfl, ?_⟩) ?_ ?_
            rotate_left
            ·intro w'
             go_simp
             with_reducible rfl
            rotate_left
            ·simp only [Act.put, List.setIfInBounds_toArray, List.set_cons_zero, List.set_cons_succ, i64_w, i32_w]
             rfl
            refine take_ (i := 4) (N := some 40) (v := ?_) (a' := ?_) #[true, true, true, true, true, true, false, false, false, false] rfl rfl (take_ofW HT_.out HW_.out (by kernel_rfl)) (fun _ _ _ h => h) (Or.inl ⟨by rfl, ?_⟩) hHeld ?_ ?_
            rotate_left
            ·rintro w' ⟨s0, s1, s2, s3, s4⟩
             go_simp
             with_reducible rfl
            rotate_left
            ·simp only [Act.put, List.setIfInBounds_toArray, List.set_cons_zero, List.set_cons_succ, i64_w, i32_w]
             rfl
            refine take_ (i := 6) (N := some 42) (v := ?_) (a' := ?_) #[true, true, true, true, true, true, true, false, false, false] rfl rfl (take_ofW HT_.out HW_.out (by kernel_rfl)) (fun _ _ _ h => h) (Or.inl ⟨by rfl, ?_⟩) hHeld ?_ ?_
            rotate_left
            ·rintro w' ⟨s0, s1, s2, s3, s4⟩
             go_simp
             with_reducible rfl
            rotate_left
            ·simp only [Act.put, List.setIfInBounds_toArray, List.set_cons_zero, List.set_cons_succ, i64_w, i32_w]
             rfl
            refine pure_ (i := 7) (N := some 43) (v := ?_) (a' := ?_) #[true, true, true, true, true, true, true, true, false, false] rfl rfl (any_of HT_.out (by kernel_rfl)) (fun _ _ _ h => h) (Or.inl ⟨by rfl, ?_⟩) ?_ ?_
            rotate_left
            ·intro w'
             go_simp
             with_reducible rfl
            rotate_left
            ·simp only [Act.put, List.setIfInBounds_toArray, List.set_cons_zero, List.set_cons_succ, i64_w, i32_w]
             rfl
            refine one_ (i := 8) (N := some 44) #[true, true, true, true, true, true, true, true, true, false] rfl rfl (one_of HT_.out (by kernel_rfl)) (by decide) (fun K hK => ?_)
            refine goes_ Try.func53 (by kernel_rfl) rfl #[.agg #[.int .i64 ((rd_T38 l0_1 x4_3).f0), .int .i64 ((rd_T38 l0_1 x4_3).f1), .int .i64 ((rd_T38 l0_1 x4_3).f2)], .int .i64 (l0_0.length : Int)] (by rfl) rfl rfl aM ?_
            with_reducible refine (scarfjointref05_right.calls ((rd_T38 l0_1 x4_3).f0) ((rd_T38 l0_1 x4_3).f1) ((rd_T38 l0_1 x4_3).f2) (l0_0.length : Int) true _ A17.out).mono ?_
            rintro e w21 ⟨rfl, hb⟩
            refine ⟨_, rfl, ?_⟩
            replace Q00 := uB Q00 hb
            replace HB := uH HB hb
            (try clear hb)
            (try clear hb2)
            (try clear hk)
            (try clear hi)
            refine hK.out _ _ ⟨(blk_cell Q00.out 0).trans rfl, (blk_cell Q00.out 1).trans rfl, ((HB.out.cell (World.block_lt_of_cell? w _ hw104_0)).trans hw104_0), ((HB.out.cell (World.block_lt_of_cell? w _ hw104_1)).trans hw104_1), ((HB.out.cell (World.block_lt_of_cell? w _ hw104_2)).trans hw104_2)⟩ (fun hHeld => ?_)
            clear hK K
            refine norm_ (a' := ?_) ?_ ?_
            rotate_left
            ·show Act.put _ (some 44) _ = _
             simp only [Act.put, List.setIfInBounds_toArray, List.set_cons_zero, List.set_cons_succ, i64_w, i32_w]
             rfl
            refine pure_ (i := 9) (N := some 45) (v := ?_) (a' := ?_) #[true, true, true, true, true, true, true, true, true, true] rfl rfl (any_of HT_.out (by kernel_rfl)) (fun _ _ _ h => h) (Or.inl ⟨by rfl, ?_⟩) ?_ ?_
            rotate_left
            ·intro w'
             go_simp
             with_reducible rfl
            rotate_left
            ·simp only [Act.put, List.setIfInBounds_toArray, List.set_cons_zero, List.set_cons_succ, i64_w, i32_w]
             rfl
            refine done_ (done_of HT_.out (by kernel_rfl)) ?_
            try go_wp2
            go_roundg k3
            case measure => have := HJ1.out; have := HK2.out; have := HK3.out; omega
            case rel => exact ⟨(wrap64 (x4_3 + 1)), rS, H', ⟨by have := HJ1.out; have := HK2.out; have := HK3.out; omega⟩, ⟨pB Q00⟩, ⟨pH HB⟩⟩
           ·replace c18 := Bool.eq_false_iff.mpr c18
            subst c18
            have H1 : (some 6) = some r := by rw [if_neg (show ¬ (false = true) by decide)] at H; exact H
            clear H
            have H := H1
            clear H1
            obtain rfl := Option.some.inj H
            have Q0s : wr.cell? ⟨Q01, 0, none⟩ = some (.slice A0_0 l0_0.length c0_0) := (blk_cell Q00.out 0).trans rfl
            have Q0t : wr.cell? ⟨Q01, 1, none⟩ = some (.slice A0_1 l0_1.length c0_1) := (blk_cell Q00.out 1).trans rfl
            have Q0u := blk_frozen Q00.out 0
            have Q0v := blk_frozen Q00.out 1
            try go_wp2
            replace Q00 := Aside0.mk (bD Q00.out)
            replace HB := Aside0.mk (wD HB.out)
            have p104 : 0 ≤ (x4_3 : Int) := oT
            have q104 : x4_3 < (l0_1.length : Int) := oT
            obtain ⟨ad104, e104, hx104_0, hx104_1, hx104_2⟩ := at_T38 HR0_1.out x4_3 p104 q104
            have hw104_2 := hx104_2
            have hw104_1 := hx104_1
            have hw104_0 := hx104_0
            cases e104
            replace hx104_0 := (HB.out.cell (World.block_lt_of_cell? w _ hx104_0)).trans hx104_0
            replace hx104_1 := (HB.out.cell (World.block_lt_of_cell? w _ hx104_1)).trans hx104_1
            replace hx104_2 := (HB.out.cell (World.block_lt_of_cell? w _ hx104_2)).trans hx104_2
            replace p104 := eq_true p104
            replace q104 := eq_true q104
            refine start_ (n := 10) (S := fun w' => w'.cell? ⟨Q01, 0, none⟩ = some (.slice A0_0 l0_0.length c0_0) ∧ w'.cell? ⟨Q01, 1, none⟩ = some (.slice (some ad104) l0_1.length c0_1) ∧ w'.cell? (ad104.add ((x4_3).toNat * 3)) = some (.int .i64 ((rd_T38 l0_1 x4_3).f0)) ∧ w'.cell? ⟨(ad104.add ((x4_3).toNat * 3)).block, (ad104.add ((x4_3).toNat * 3)).off + 1, none⟩ = some (.int .i64 ((rd_T38 l0_1 x4_3).f1)) ∧ w'.cell? ⟨(ad104.add ((x4_3).toNat * 3)).block, (ad104.add ((x4_3).toNat * 3)).off + 2, none⟩ = some (.int .i64 ((rd_T38 l0_1 x4_3).f2))) (ds := []) #[false, false, false, false, false, false, false, false, false, false] (by kernel_rfl) rfl rfl ⟨(blk_cell Q00.out 0).trans rfl, (blk_cell Q00.out 1).trans rfl, ((HB.out.cell (World.block_lt_of_cell? w _ hw104_0)).trans hw104_0), ((HB.out.cell (World.block_lt_of_cell? w _ hw104_1)).trans hw104_1), ((HB.out.cell (World.block_lt_of_cell? w _ hw104_2)).trans hw104_2)⟩ (fun hHeld => ?_); refine with_tabW scarfjointref05_Valid.tab11 scarfjointref05_Valid.bits11 (fun HT_ HW_ => ?_)
            generalize wr.drew = w23 at Q00 HB hx104_0 hx104_1 hx104_2 hHeld ⊢
            refine pure_ (i := 0) (N := some 36) (v := ?_) (a' := ?_) #[true, false, false, false, false, false, false, false, false, false] rfl rfl (any_of HT_.out (by kernel_rfl)) (fun _ _ _ h => h) (Or.inl ⟨by rfl, ?_⟩) ?_ ?_
            rotate_left
            ·intro w'
             go_simp
             with_reducible rfl
            rotate_left
            ·simp only [Act.put, List.setIfInBounds_toArray, List.set_cons_zero, List.set_cons_succ, i64_w, i32_w]
             rfl
            refine pure_ (i := 2) (N := some 38) (v := ?_) (a' := ?_) #[true, false, true, false, false, false, false, false, false, false] rfl rfl (any_of HT_.out (by kernel_rfl)) (fun _ _ _ h => h) (Or.inl ⟨by rfl, ?_⟩) ?_ ?_
            rotate_left
            ·intro w'
             go_simp
             with_reducible rfl
            rotate_left
            ·simp only [Act.put, List.setIfInBounds_toArray, List.set_cons_zero, List.set_cons_succ, i64_w, i32_w]
             rfl
            refine pure_ (i := 5) (N := some 41) (v := ?_) (a' := ?_) #[true, false, true, false, false, true, false, false, false, false] rfl rfl (any_of HT_.out (by kernel_rfl)) (fun _ _ _ h => h) (Or.inl ⟨by rfl, ?_⟩) ?_ ?_
            rotate_left
            ·intro w'
             go_simp
             with_reducible rfl
            rotate_left
            ·simp only [Act.put, List.setIfInBounds_toArray, List.set_cons_zero, List.set_cons_succ, i64_w, i32_w]
             rfl
            refine take_ (i := 1) (N := some 37) (v := ?_) (a' := ?_) #[true, true, true, false, false, true, false, false, false, false] rfl rfl (take_ofW HT_.out HW_.out (by kernel_rfl)) (fun _ _ _ h => h) (Or.inl ⟨by rfl, ?_⟩) hHeld ?_ ?_
            rotate_left
            ·rintro w' ⟨s0, s1, s2, s3, s4⟩
             go_simp
             with_reducible rfl
            rotate_left
            ·simp only [Act.put, List.setIfInBounds_toArray, List.set_cons_zero, List.set_cons_succ, i64_w, i32_w]
             rfl
            refine pure_ (i := 3) (N := some 39) (v := ?_) (a' := ?_) #[true, true, true, true, false, true, false, false, false, false] rfl rfl (any_of HT_.out (by kernel_rfl)) (fun _ _ _ h => h) (Or.inl ⟨by rfl, ?_⟩) ?_ ?_
            rotate_left
            ·intro w'
             go_simp
             with_reducible rfl
            rotate_left
            ·simp only [Act.put, List.setIfInBounds_toArray, List.set_cons_zero, List.set_cons_succ, i64_w, i32_w]
             rfl
            refine take_ (i := 4) (N := some 40) (v := ?_) (a' := ?_) #[true, true, true, true, true, true, false, false, false, false] rfl rfl (take_ofW HT_.out HW_.out (by kernel_rfl)) (fun _ _ _ h => h) (Or.inl ⟨by rfl, ?_⟩) hHeld ?_ ?_
            rotate_left
            ·rintro w' ⟨s0, s1, s2, s3, s4⟩
             go_simp
             with_reducible rfl
            rotate_left
            ·simp only [Act.put, List.setIfInBounds_toArray, List.set_cons_zero, List.set_cons_succ, i64_w, i32_w]
             rfl
            refine take_ (i := 6) (N := some 42) (v := ?_) (a' := ?_) #[true, true, true, true, true, true, true, false, false, false] rfl rfl (take_ofW HT_.out HW_.out (by kernel_rfl)) (fun _ _ _ h => h) (Or.inl ⟨by rfl, ?_⟩) hHeld ?_ ?_
            rotate_left
            ·rintro w' ⟨s0, s1, s2, s3, s4⟩
             go_simp
             with_reducible rfl
            rotate_left
            ·simp only [Act.put, List.setIfInBounds_toArray, List.set_cons_zero, List.set_cons_succ, i64_w, i32_w]
             rfl
            refine pure_ (i := 7) (N := some 43) (v := ?_) (a' := ?_) #[true, true, true, true, true, true, true, true, false, false] rfl rfl (any_of HT_.out (by kernel_rfl)) (fun _ _ _ h => h) (Or.inl ⟨by rfl, ?_⟩) ?_ ?_
            rotate_left
            ·intro w'
             go_simp
             with_reducible rfl
            rotate_left
            ·simp only [Act.put, List.setIfInBounds_toArray, List.set_cons_zero, List.set_cons_succ, i64_w, i32_w]
             rfl
            refine one_ (i := 8) (N := some 44) #[true, true, true, true, true, true, true, true, true, false] rfl rfl (one_of HT_.out (by kernel_rfl)) (by decide) (fun K hK => ?_)
            refine goes_ Try.func53 (by kernel_rfl) rfl #[.agg #[.int .i64 ((rd_T38 l0_1 x4_3).f0), .int .i64 ((rd_T38 l0_1 x4_3).f1), .int .i64 ((rd_T38 l0_1 x4_3).f2)], .int .i64 (l0_0.length : Int)] (by rfl) rfl rfl aM ?_
            with_reducible refine (scarfjointref05_right.calls ((rd_T38 l0_1 x4_3).f0) ((rd_T38 l0_1 x4_3).f1) ((rd_T38 l0_1 x4_3).f2) (l0_0.length : Int) false _ A17.out).mono ?_
            rintro e w24 ⟨rfl, hb⟩
            refine ⟨_, rfl, ?_⟩
            replace Q00 := uB Q00 hb
            replace HB := uH HB hb
            (try clear hb)
            (try clear hb2)
            (try clear hk)
            (try clear hi)
            refine hK.out _ _ ⟨(blk_cell Q00.out 0).trans rfl, (blk_cell Q00.out 1).trans rfl, ((HB.out.cell (World.block_lt_of_cell? w _ hw104_0)).trans hw104_0), ((HB.out.cell (World.block_lt_of_cell? w _ hw104_1)).trans hw104_1), ((HB.out.cell (World.block_lt_of_cell? w _ hw104_2)).trans hw104_2)⟩ (fun hHeld => ?_)
            clear hK K
            refine norm_ (a' := ?_) ?_ ?_
            rotate_left
            ·show Act.put _ (some 44) _ = _
             simp only [Act.put, List.setIfInBounds_toArray, List.set_cons_zero, List.set_cons_succ, i64_w, i32_w]
             rfl
            refine pure_ (i := 9) (N := some 45) (v := ?_) (a' := ?_) #[true, true, true, true, true, true, true, true, true, true] rfl rfl (any_of HT_.out (by kernel_rfl)) (fun _ _ _ h => h) (Or.inl ⟨by rfl, ?_⟩) ?_ ?_
            rotate_left
            ·intro w'
             go_simp
             with_reducible rfl
            rotate_left
            ·simp only [Act.put, List.setIfInBounds_toArray, List.set_cons_zero, List.set_cons_succ, i64_w, i32_w]
             rfl
            refine done_ (done_of HT_.out (by kernel_rfl)) ?_
            try go_wp2
            go_ret
            exact ⟨by first | rfl | (simp [errW_none, errW_some] <;> rfl) | (simp [*, errW_none, errW_some] <;> rfl), by repeat (first | (with_reducible first | exact HB.out | apply wA | apply wN | apply wD | refine below_set ?_ Q02.out) | exact HB.out)⟩
          ·rw [if_neg c16] at H
           exact absurd H (by simp)
         ·rw [if_neg c15] at H
          have c15b0 : decide (x4_3 < (l0_1.length : Int)) = false := decide_eq_false c15
          clear c15
          obtain rfl := Option.some.inj H
          have Q0w : wr.cell? ⟨Q01, 0, none⟩ = some (.slice A0_0 l0_0.length c0_0) := (blk_cell Q00.out 0).trans rfl
          have Q0x : wr.cell? ⟨Q01, 1, none⟩ = some (.slice A0_1 l0_1.length c0_1) := (blk_cell Q00.out 1).trans rfl
          have Q0y := blk_frozen Q00.out 0
          have Q0z := blk_frozen Q00.out 1
          go_wp2
          go_ret
          exact ⟨by first | rfl | (simp [errW_none, errW_some] <;> rfl) | (simp [*, errW_none, errW_some] <;> rfl), by repeat (first | (with_reducible first | exact HB.out | apply wA | apply wN | apply wD | refine below_set ?_ Q02.out) | exact HB.out)⟩
end Go.Proofs.Ytmbnibonggbjgaa.X

namespace Go.Proofs.Ytmbnibonggbjgaa.X
open Go.RowKit Go.Proofs.YtmbnibonggbjgaaW.PrintWords Go.Proofs.YtmbnibonggbjgaaW.PrintLast Go.Proofs.YtmbnibonggbjgaaW.PrintMore
open Go.Proofs.YtmbnibonggbjgaaW.PrintWords renaming blk_drewN → bN, blk_drew → bD, blk_alloc → bA, below_alloc → wA, pw_below_drewN → wN, below_drew1 → wD, blk_below → bB, below_step → wS, blk_at → bT, blk_grown → bG
open Go.Proofs.YtmbnibonggbjgaaW.PrintWords.Kd renaming R_alloc → rA, R_drewN → rN, R_drew → rD, R_below → rB, R_grown → rG, C_below → cB, C_alloc → cA, C_drewN → cN, C_drew → cD
attribute [local go_sem] max2_int min2_int max_two min_two max_three min_three max_four min_four
set_option linter.unusedVariables false
set_option linter.unusedSimpArgs false
/-! ### scarfjointref05_Numbers: function 37 -/
def scarfjointref05_Numbers.l0 : Nat → Int → Int → List Int → Int → Option (List Int)
 | 0, _, _, _, _ => none
 | k + 1, x0, x1, x5, x6 => if x6 < x1 then (if x5.length < 17592186044416 then (scarfjointref05_Numbers.l0 k x0 x1 (x5 ++ [wrap64 (x0 + x6)]) (wrap64 (x6 + 1))) else (none)) else (some x5)
def scarfjointref05_Numbers.f (k : Nat) (a0 : Int) (a1 : Int) : Option (List Int) := scarfjointref05_Numbers.l0 k a0 a1 ([] : List Int) 0
theorem scarfjointref05_Numbers.mono_l : ∀ k, (∀ y0 y1 y2 y3, LeO (scarfjointref05_Numbers.l0 k y0 y1 y2 y3) (scarfjointref05_Numbers.l0 (k + 1) y0 y1 y2 y3))
 | 0 => fun _ _ _ _ r h => by simp [scarfjointref05_Numbers.l0] at h
 | k + 1 => by
  have ih0 := scarfjointref05_Numbers.mono_l k
  ·intro y0 y1 y2 y3
   unfold scarfjointref05_Numbers.l0
   repeat' first
   | (with_reducible exact ih0 _ _ _ _)
   | (with_reducible exact LeO.refl _)
   | (with_reducible exact LeO.none _)
   | (with_reducible refine LeO.ite ?_ ?_)
   | (with_reducible refine LeO.bind ?_ (fun _ => ?_))
   | exact ih0 _ _ _ _
   | exact LeO.none _
   | refine LeO.ite ?_ ?_
   | refine LeO.bind ?_ (fun _ => ?_)
theorem scarfjointref05_Numbers.mono : ∀ a0 a1 k, LeO (scarfjointref05_Numbers.f k a0 a1) (scarfjointref05_Numbers.f (k + 1) a0 a1) := by
 intro a0 a1 k
 have ih0 := scarfjointref05_Numbers.mono_l k
 unfold scarfjointref05_Numbers.f
 repeat' first
   | (with_reducible exact ih0 _ _ _ _)
   | (with_reducible exact LeO.refl _)
   | (with_reducible exact LeO.none _)
   | (with_reducible refine LeO.ite ?_ ?_)
   | (with_reducible refine LeO.bind ?_ (fun _ => ?_))
   | exact ih0 _ _ _ _
   | exact LeO.none _
   | refine LeO.ite ?_ ?_
   | refine LeO.bind ?_ (fun _ => ?_)
set_option maxHeartbeats 8000000 in
set_option maxRecDepth 100000 in
theorem scarfjointref05_Numbers.calls (k : Nat) (a0 : Int) (a1 : Int) (r : List Int) (w : World) (h : scarfjointref05_Numbers.f k a0 a1 = some r) :
  Calls Try.prog 37 #[.int .i64 a0, .int .i64 a1] w fun e w' => ∃ v0_ : Value, e = .returned (v0_) ∧ Kd.R (Kd.int .i64) 3 w' w.heap.size (fun _ => True) v0_ r ∧ Below w.heap.size w w' := by
 have HB := Aside0.mk (Below.refl w.heap.size w)
 have H : (scarfjointref05_Numbers.l0 k a0 a1 ([] : List Int) 0) = some r := h
 clear h
 have H' := Aside0.mk H
 clear H
 go_enter Try.func37, Try.ntmps37
 go_wp2
 go_loopg [5, 6] k (fun kq v5 v6 w' => ∃ (x5_1 : List Int) (x6_1 : Int), v6 = .int .i64 x6_1 ∧ Aside0 (scarfjointref05_Numbers.l0 kq a0 a1 x5_1 x6_1 = some r) ∧ Aside0 (kq ≤ k) ∧ Aside0 (Kd.R (Kd.int .i64) 3 w' w.heap.size (fun _ => True) v5 x5_1) ∧ Aside0 (Below w.heap.size w w'))
 case atStart => exact ⟨(([] : List Int)), (0), rS, H', ⟨Nat.le_refl _⟩, ⟨by first | exact Kd.R_nil _ _ _ _ _ | exact Kd.N_nil _ _ _ _ _ | exact Kd.V_nil _ _ _ _ _ | exact Kd.Q_nil _ _ _ _ _ | exact Kd.S_nil _ _ _ _ _⟩, ⟨pH HB⟩⟩
 case round =>
  clear H'
  try clear p2
  obtain ⟨x5_1, x6_1, rfl, HA, HK1, Q00, HB⟩ := hrel
  cases gk with
  | zero => exact absurd HA.out (by simp [scarfjointref05_Numbers.l0])
  | succ k1 =>
   have H := HA.out
   clear HA
   simp only [scarfjointref05_Numbers.l0] at H
   by_cases c3 : x6_1 < a1
   ·rw [if_pos c3] at H
    have c3b0 : decide (x6_1 < a1) = true := decide_eq_true c3
    clear c3
    by_cases c4 : x5_1.length < 17592186044416
    ·rw [if_pos c4] at H
     have LMc4 := Aside0.mk c4
     clear c4
     obtain ⟨y101, hy101⟩ : ∃ y_ : List Int, y_ = (x5_1 ++ [wrap64 (a0 + x6_1)]) := ⟨_, rfl⟩
     replace H : (scarfjointref05_Numbers.l0 k1 a0 a1 y101 (wrap64 (x6_1 + 1))) = some r := by first | (rw [hy101]; with_reducible exact H) | (have H2_ := (Option.bind_some _ _).symm.trans H; rw [hy101]; with_reducible exact H2_) | (have H2_ := (Option.bind_some _ _).symm.trans H; with_reducible exact H2_) | with_reducible exact H | (rw [hy101]; exact H) | exact H
     have Ny101 := Aside0.mk hy101
     clear hy101
     have H' := Aside0.mk H
     clear H
     go_wp2_with (first | ((with_reducible refine gate_builtin (b := .append) (xs := #[.tmp 12, .tmp 16]) rfl ?_); at_builtin; refine Kd.R_append (Kd.int .i64) (w0 := w) w.heap.size rfl (.tmp 12) (.tmp 16) 22 3 (.int .i64 0) 8 rfl Try.underlying22 info3 rfl (by decide) (by omega) u5 x5_1 (wrap64 (a0 + x6_1)) [.int .i64 (wrap64 (a0 + x6_1))] (fun _ => True) (fun _ => False) rfl rfl ?aP (fun _ hk => hk.elim) ?aF ?aO ?aB ?aS ?aL ?_; (case aP => exact rfl); (case aB => exact hB); (case aF => exact (fun _ _ => trivial)); (case aO => exact (pR Q00)); (case aS => exact (below_size hB)); (case aL => have := LMc4.out; omega); intro v102 w5 ho hb hg hat; rw [← Ny101.out] at ho; replace HB := Aside0.mk (hb); have Q01 := Aside0.mk (ho); clear Q00; clear ho hb hg hat))
     go_roundg k1
     case measure => have := HK1.out; omega
     case rel => exact ⟨(y101), (wrap64 (x6_1 + 1)), rS, H', ⟨by have := HK1.out; omega⟩, ⟨pR Q01⟩, ⟨pH HB⟩⟩
    ·rw [if_neg c4] at H
     exact absurd H (by simp)
   ·rw [if_neg c3] at H
    have c3b0 : decide (x6_1 < a1) = false := decide_eq_false c3
    clear c3
    obtain rfl := Option.some.inj H
    go_wp2
    go_ret
    exact ⟨_, by first | rfl | (simp [errW_none, errW_some] <;> rfl) | (simp [*, errW_none, errW_some] <;> rfl), by (with_reducible repeat (first | apply rA | apply rN | apply rD)); exact Q00.out, by repeat (first | (with_reducible first | exact HB.out | apply wA | apply wN | apply wD) | exact HB.out)⟩
end Go.Proofs.Ytmbnibonggbjgaa.X

namespace Go.Proofs.Ytmbnibonggbjgaa.X
open Go.RowKit Go.Proofs.YtmbnibonggbjgaaW.PrintWords Go.Proofs.YtmbnibonggbjgaaW.PrintLast Go.Proofs.YtmbnibonggbjgaaW.PrintMore
open Go.Proofs.YtmbnibonggbjgaaW.PrintWords renaming blk_drewN → bN, blk_drew → bD, blk_alloc → bA, below_alloc → wA, pw_below_drewN → wN, below_drew1 → wD, blk_below → bB, below_step → wS, blk_at → bT, blk_grown → bG
open Go.Proofs.YtmbnibonggbjgaaW.PrintWords.Kd renaming R_alloc → rA, R_drewN → rN, R_drew → rD, R_below → rB, R_grown → rG, C_below → cB, C_alloc → cA, C_drewN → cN, C_drew → cD
attribute [local go_sem] max2_int min2_int max_two min_two max_three min_three max_four min_four
set_option linter.unusedVariables false
set_option linter.unusedSimpArgs false
/-! ### scarfjointref05_Union: function 32 -/
mutual
def scarfjointref05_Union.j0 : Nat → Int → Int → Bool → List Int → List (S38) → List Int → List (S38) → Option (List Int × (List (S38)) × List Int × List Int × List Int × List Int × Int)
 | 0, _, _, _, _, _, _, _ => none
 | k + 1, x10, x11, x50, x102000, x102001, x103000, x103001 => if x50 = true then (some (([] : List Int), ([] : List (S38)), ([] : List Int), ([] : List Int), ([] : List Int), ([] : List Int), 3)) else ((scarfjointref05_Copied.f x102000 x102001).bind fun bt108 => (if bt108.1.length + x103000.length < 17592186044416 then (scarfjointref05_Union.l0 k x10 x11 0 x103000 x103001 (bt108.1 ++ x103000) bt108.2) else (none)))
def scarfjointref05_Union.l0 : Nat → Int → Int → Int → List Int → List (S38) → List Int → List (S38) → Option (List Int × (List (S38)) × List Int × List Int × List Int × List Int × Int)
 | 0, _, _, _, _, _, _, _ => none
 | k + 1, x10, x11, x13, x103000, x103001, x115000, x115001 => if x13 < (x103001.length : Int) then (if 0 ≤ x13 then (if x115001.length < 5864062014805 then (scarfjointref05_Union.l0 k x10 x11 (wrap64 (x13 + 1)) x103000 x103001 x115000 (x115001 ++ [(⟨(rd_T38 x103001 x13).f0, wrap64 (((rd_T38 x103001 x13).f1) + x10), wrap64 (((rd_T38 x103001 x13).f2) + x10)⟩ : S38)])) else (none)) else (none)) else ((scarfjointref05_Numbers.f k 0 x10).bind fun t123 => ((scarfjointref05_Numbers.f k 0 x11).bind fun t126 => ((scarfjointref05_Numbers.f k x10 (x103000.length : Int)).bind fun t129 => ((scarfjointref05_Numbers.f k x11 (x103001.length : Int)).bind fun t132 => (some (x115000, x115001, t123, t126, t129, t132, 0))))))
end
def scarfjointref05_Union.f (k : Nat) (l0_0 : List Int) (l0_1 : List (S38)) (l1_0 : List Int) (l1_1 : List (S38)) : Option (List Int × (List (S38)) × List Int × List Int × List Int × List Int × Int) := (scarfjointref05_Valid.f k l0_0 l0_1).bind fun t106 => (if t106 = 0 then ((scarfjointref05_Valid.f k l1_0 l1_1).bind fun t107 => (if t107 = 0 then (if (wrap64 ((l0_0.length : Int) + (l1_0.length : Int))) > 40 then (scarfjointref05_Union.j0 k (l0_0.length : Int) (l0_1.length : Int) true l0_0 l0_1 l1_0 l1_1) else (scarfjointref05_Union.j0 k (l0_0.length : Int) (l0_1.length : Int) (decide ((wrap64 ((l0_1.length : Int) + (l1_1.length : Int))) > 80)) l0_0 l0_1 l1_0 l1_1)) else (some (([] : List Int), ([] : List (S38)), ([] : List Int), ([] : List Int), ([] : List Int), ([] : List Int), t107)))) else (some (([] : List Int), ([] : List (S38)), ([] : List Int), ([] : List Int), ([] : List Int), ([] : List Int), t106)))
theorem scarfjointref05_Union.mono_l : ∀ k, (∀ y0 y1 y2 y3 y4 y5 y6, LeO (scarfjointref05_Union.j0 k y0 y1 y2 y3 y4 y5 y6) (scarfjointref05_Union.j0 (k + 1) y0 y1 y2 y3 y4 y5 y6)) ∧ (∀ y0 y1 y2 y3 y4 y5 y6, LeO (scarfjointref05_Union.l0 k y0 y1 y2 y3 y4 y5 y6) (scarfjointref05_Union.l0 (k + 1) y0 y1 y2 y3 y4 y5 y6))
 | 0 => ⟨fun _ _ _ _ _ _ _ r h => by simp [scarfjointref05_Union.j0] at h, fun _ _ _ _ _ _ _ r h => by simp [scarfjointref05_Union.l0] at h⟩
 | k + 1 => by
  obtain ⟨ih0, ih1⟩ := scarfjointref05_Union.mono_l k
  refine ⟨?_, ?_⟩
  ·intro y0 y1 y2 y3 y4 y5 y6
   unfold scarfjointref05_Union.j0
   repeat' first
   | (with_reducible exact ih0 _ _ _ _ _ _ _)
   | (with_reducible exact ih1 _ _ _ _ _ _ _)
   | (with_reducible exact scarfjointref05_Numbers.mono _ _ _)
   | (with_reducible exact scarfjointref05_Valid.mono _ _ _)
   | (with_reducible exact LeO.refl _)
   | (with_reducible exact LeO.none _)
   | (with_reducible refine LeO.ite ?_ ?_)
   | (with_reducible refine LeO.bind ?_ (fun _ => ?_))
   | exact ih0 _ _ _ _ _ _ _
   | exact ih1 _ _ _ _ _ _ _
   | exact scarfjointref05_Numbers.mono _ _ _
   | exact scarfjointref05_Valid.mono _ _ _
   | exact LeO.none _
   | refine LeO.ite ?_ ?_
   | refine LeO.bind ?_ (fun _ => ?_)
  ·intro y0 y1 y2 y3 y4 y5 y6
   unfold scarfjointref05_Union.l0
   repeat' first
   | (with_reducible exact ih0 _ _ _ _ _ _ _)
   | (with_reducible exact ih1 _ _ _ _ _ _ _)
   | (with_reducible exact scarfjointref05_Numbers.mono _ _ _)
   | (with_reducible exact scarfjointref05_Valid.mono _ _ _)
   | (with_reducible exact LeO.refl _)
   | (with_reducible exact LeO.none _)
   | (with_reducible refine LeO.ite ?_ ?_)
   | (with_reducible refine LeO.bind ?_ (fun _ => ?_))
   | exact ih0 _ _ _ _ _ _ _
   | exact ih1 _ _ _ _ _ _ _
   | exact scarfjointref05_Numbers.mono _ _ _
   | exact scarfjointref05_Valid.mono _ _ _
   | exact LeO.none _
   | refine LeO.ite ?_ ?_
   | refine LeO.bind ?_ (fun _ => ?_)
theorem scarfjointref05_Union.mono : ∀ a0 a1 a2 a3 k, LeO (scarfjointref05_Union.f k a0 a1 a2 a3) (scarfjointref05_Union.f (k + 1) a0 a1 a2 a3) := by
 intro a0 a1 a2 a3 k
 obtain ⟨ih0, ih1⟩ := scarfjointref05_Union.mono_l k
 unfold scarfjointref05_Union.f
 repeat' first
   | (with_reducible exact ih0 _ _ _ _ _ _ _)
   | (with_reducible exact ih1 _ _ _ _ _ _ _)
   | (with_reducible exact scarfjointref05_Numbers.mono _ _ _)
   | (with_reducible exact scarfjointref05_Valid.mono _ _ _)
   | (with_reducible exact LeO.refl _)
   | (with_reducible exact LeO.none _)
   | (with_reducible refine LeO.ite ?_ ?_)
   | (with_reducible refine LeO.bind ?_ (fun _ => ?_))
   | exact ih0 _ _ _ _ _ _ _
   | exact ih1 _ _ _ _ _ _ _
   | exact scarfjointref05_Numbers.mono _ _ _
   | exact scarfjointref05_Valid.mono _ _ _
   | exact LeO.none _
   | refine LeO.ite ?_ ?_
   | refine LeO.bind ?_ (fun _ => ?_)
def scarfjointref05_Union.T7 : Bool × List (List Nat × List Nat) := (true, [([], []), ([0], [0]), ([1], [1]), ([], []), ([3], [3]), ([4], [4]), ([2, 0, 1, 2], [2]), ([5, 6, 0, 1, 2, 3, 4, 5, 6], [5])])
def scarfjointref05_Union.B7 : List Nat := [0, 1, 3, 0, 8, 24, 7, 127]
theorem scarfjointref05_Union.tab7 : rtab .any (opsOf Try.f32 7) = scarfjointref05_Union.T7 := by kernel_rfl
theorem scarfjointref05_Union.bits7 : waitsOk scarfjointref05_Union.T7.2 scarfjointref05_Union.B7 = true := by kernel_rfl
def scarfjointref05_Union.T17 : Bool × List (List Nat × List Nat) := (true, [([], []), ([], []), ([1], [1]), ([], []), ([3, 2], [3]), ([2, 4], [2, 4]), ([], []), ([], []), ([7], [7]), ([8], [8]), ([6, 9, 4], [6, 9]), ([], []), ([], []), ([12], [12]), ([13], [13]), ([11, 14, 10], [11, 14]), ([10, 15], [10, 15]), ([0, 15, 0], [0]), ([5, 17, 0, 1, 2, 3, 4, 5, 17], [5]), ([16, 18, 0, 1, 2, 3, 4, 5, 6, 7, 8, 9, 10, 11, 12, 13, 14, 15, 16, 17, 18], [16]), ([19, 0, 1, 2, 3, 4, 5, 6, 7, 8, 9, 10, 11, 12, 13, 14, 15, 16, 17, 18, 19], [])])
def scarfjointref05_Union.B17 : List Nat := [0, 0, 2, 0, 14, 30, 0, 0, 128, 384, 990, 0, 0, 4096, 12288, 32734, 65502, 65503, 196607, 524287, 1048575]
theorem scarfjointref05_Union.tab17 : rtab .any (opsOf Try.f32 17) = scarfjointref05_Union.T17 := by kernel_rfl
theorem scarfjointref05_Union.bits17 : waitsOk scarfjointref05_Union.T17.2 scarfjointref05_Union.B17 = true := by kernel_rfl
set_option maxHeartbeats 8000000 in
set_option maxRecDepth 100000 in
theorem scarfjointref05_Union.calls (k : Nat) (A0_0 : Option Addr) (c0_0 : Nat) (l0_0 : List Int) (A0_1 : Option Addr) (c0_1 : Nat) (l0_1 : List (S38)) (A1_0 : Option Addr) (c1_0 : Nat) (l1_0 : List Int) (A1_1 : Option Addr) (c1_1 : Nat) (l1_1 : List (S38)) (r1 : List Int) (r2 : List (S38)) (r3 : List Int) (r4 : List Int) (r5 : List Int) (r6 : List Int) (r7 : Int) (w : World) (hr0_0 : Kd.C (Kd.int .i64) w A0_0 l0_0.length l0_0) (hc0_0 : l0_0.length ≤ c0_0) (hr0_1 : Kd.C k38 w A0_1 l0_1.length l0_1) (hc0_1 : l0_1.length ≤ c0_1) (hr1_0 : Kd.C (Kd.int .i64) w A1_0 l1_0.length l1_0) (hc1_0 : l1_0.length ≤ c1_0) (hr1_1 : Kd.C k38 w A1_1 l1_1.length l1_1) (hc1_1 : l1_1.length ≤ c1_1) (h : scarfjointref05_Union.f k l0_0 l0_1 l1_0 l1_1 = some (r1, r2, r3, r4, r5, r6, r7)) :
  Calls Try.prog 32 #[.agg #[.slice A0_0 l0_0.length c0_0, .slice A0_1 l0_1.length c0_1], .agg #[.slice A1_0 l1_0.length c1_0, .slice A1_1 l1_1.length c1_1]] w fun e w' => ∃ v0_ v1_ v2_ v3_ v4_ v5_ : Value, e = .returned (.tuple #[.agg #[v0_, v1_], .agg #[v2_, v3_], .agg #[v4_, v5_], .int .i64 r7]) ∧ Kd.R (Kd.int .i64) 3 w' w.heap.size (fun k_ => some k_ ≠ (v2_ : Value).ownBlock ∧ some k_ ≠ (v3_ : Value).ownBlock ∧ some k_ ≠ (v4_ : Value).ownBlock ∧ some k_ ≠ (v5_ : Value).ownBlock) v0_ r1 ∧ Kd.R k38 38 w' w.heap.size (fun _ => True) v1_ r2 ∧ Kd.R (Kd.int .i64) 3 w' w.heap.size (fun k_ => some k_ ≠ (v0_ : Value).ownBlock ∧ some k_ ≠ (v3_ : Value).ownBlock ∧ some k_ ≠ (v4_ : Value).ownBlock ∧ some k_ ≠ (v5_ : Value).ownBlock) v2_ r3 ∧ Kd.R (Kd.int .i64) 3 w' w.heap.size (fun k_ => some k_ ≠ (v0_ : Value).ownBlock ∧ some k_ ≠ (v2_ : Value).ownBlock ∧ some k_ ≠ (v4_ : Value).ownBlock ∧ some k_ ≠ (v5_ : Value).ownBlock) v3_ r4 ∧ Kd.R (Kd.int .i64) 3 w' w.heap.size (fun k_ => some k_ ≠ (v0_ : Value).ownBlock ∧ some k_ ≠ (v2_ : Value).ownBlock ∧ some k_ ≠ (v3_ : Value).ownBlock ∧ some k_ ≠ (v5_ : Value).ownBlock) v4_ r5 ∧ Kd.R (Kd.int .i64) 3 w' w.heap.size (fun k_ => some k_ ≠ (v0_ : Value).ownBlock ∧ some k_ ≠ (v2_ : Value).ownBlock ∧ some k_ ≠ (v3_ : Value).ownBlock ∧ some k_ ≠ (v4_ : Value).ownBlock) v5_ r6 ∧ Below w.heap.size w w' := by
 have hu25 := Try.underlying25
 have hu29 := Try.underlying29
 have hu38 := Try.underlying38
 have HR0_0 := Aside0.mk hr0_0
 have HC0_0 := Aside0.mk hc0_0
 clear hr0_0 hc0_0
 have HR0_1 := Aside0.mk hr0_1
 have HC0_1 := Aside0.mk hc0_1
 clear hr0_1 hc0_1
 have HR1_0 := Aside0.mk hr1_0
 have HC1_0 := Aside0.mk hc1_0
 clear hr1_0 hc1_0
 have HR1_1 := Aside0.mk hr1_1
 have HC1_1 := Aside0.mk hc1_1
 clear hr1_1 hc1_1
 have HB := Aside0.mk (Below.refl w.heap.size w)
 have H : ((scarfjointref05_Valid.f k l0_0 l0_1).bind fun t106 => (if t106 = 0 then ((scarfjointref05_Valid.f k l1_0 l1_1).bind fun t107 => (if t107 = 0 then (if (wrap64 ((l0_0.length : Int) + (l1_0.length : Int))) > 40 then (scarfjointref05_Union.j0 k (l0_0.length : Int) (l0_1.length : Int) true l0_0 l0_1 l1_0 l1_1) else (scarfjointref05_Union.j0 k (l0_0.length : Int) (l0_1.length : Int) (decide ((wrap64 ((l0_1.length : Int) + (l1_1.length : Int))) > 80)) l0_0 l0_1 l1_0 l1_1)) else (some (([] : List Int), ([] : List (S38)), ([] : List Int), ([] : List Int), ([] : List Int), ([] : List Int), t107)))) else (some (([] : List Int), ([] : List (S38)), ([] : List Int), ([] : List Int), ([] : List Int), ([] : List Int), t106)))) = some (r1, r2, r3, r4, r5, r6, r7) := h
 clear h
 replace H := Option.bind_eq_some_iff.mp H
 obtain ⟨t106, A30, H⟩ := H
 replace H : (if t106 = 0 then ((scarfjointref05_Valid.f k l1_0 l1_1).bind fun t107 => (if t107 = 0 then (if (wrap64 ((l0_0.length : Int) + (l1_0.length : Int))) > 40 then (scarfjointref05_Union.j0 k (l0_0.length : Int) (l0_1.length : Int) true l0_0 l0_1 l1_0 l1_1) else (scarfjointref05_Union.j0 k (l0_0.length : Int) (l0_1.length : Int) (decide ((wrap64 ((l0_1.length : Int) + (l1_1.length : Int))) > 80)) l0_0 l0_1 l1_0 l1_1)) else (some (([] : List Int), ([] : List (S38)), ([] : List Int), ([] : List Int), ([] : List Int), ([] : List Int), t107)))) else (some (([] : List Int), ([] : List (S38)), ([] : List Int), ([] : List Int), ([] : List Int), ([] : List Int), t106))) = some (r1, r2, r3, r4, r5, r6, r7) := H
 have A3 := Aside0.mk A30
 clear A30
 by_cases c4 : t106 = 0
 ·rw [if_pos c4] at H
  have c4b0 : (t106 == 0) = true := beq_iff_eq.mpr c4
  have c4b1 : (t106 != 0) = false := bne_eq_false_iff_eq.mpr c4
  clear c4
  replace H := Option.bind_eq_some_iff.mp H
  obtain ⟨t107, A50, H⟩ := H
  replace H : (if t107 = 0 then (if (wrap64 ((l0_0.length : Int) + (l1_0.length : Int))) > 40 then (scarfjointref05_Union.j0 k (l0_0.length : Int) (l0_1.length : Int) true l0_0 l0_1 l1_0 l1_1) else (scarfjointref05_Union.j0 k (l0_0.length : Int) (l0_1.length : Int) (decide ((wrap64 ((l0_1.length : Int) + (l1_1.length : Int))) > 80)) l0_0 l0_1 l1_0 l1_1)) else (some (([] : List Int), ([] : List (S38)), ([] : List Int), ([] : List Int), ([] : List Int), ([] : List Int), t107))) = some (r1, r2, r3, r4, r5, r6, r7) := H
  have A5 := Aside0.mk A50
  clear A50
  by_cases c6 : t107 = 0
  ·rw [if_pos c6] at H
   have c6b0 : (t107 == 0) = true := beq_iff_eq.mpr c6
   have c6b1 : (t107 != 0) = false := bne_eq_false_iff_eq.mpr c6
   clear c6
   have HC7 := Aside0.mk H
   clear H
   go_enter Try.func32, Try.ntmps32
   try go_wp2_with (first | ((with_reducible refine gate_dst (N := 2) rfl ?_); (try (refine gate_guard (by rfl) ?_; dsimp only)); refine box_event ?hg (N := 2) ?hd (cs := #[.slice A0_0 l0_0.length c0_0, .slice A0_1 l0_1.length c0_1]) (t := 25) ?hr ?_; (case hd => rfl); (case hg => rfl); (case hr => first | (go_simp; done) | (go_simp; rfl)); intro Q0b hg w8 hbox hb; have Q01 := Aside0.mk (hbox); have Q27 := Aside0.mk ((by rw [hg]; exact (below_size hB) : w.heap.size ≤ Q0b)); have Q1q := Aside0.mk ((by rw [hg]; exact (below_size hB) : w.heap.size ≤ Q0b)); replace HB := uH HB hb; clear hb hbox hg) | ((with_reducible refine gate_dst (N := 3) rfl ?_); (try (refine gate_guard (by rfl) ?_; dsimp only)); refine box_event ?hg (N := 3) ?hd (cs := #[.slice A1_0 l1_0.length c1_0, .slice A1_1 l1_1.length c1_1]) (t := 25) ?hr ?_; (case hd => rfl); (case hg => rfl); (case hr => first | (go_simp; done) | (go_simp; rfl)); intro Q0c hg w9 hbox hb; have Q00 := Aside0.mk (hbox); have Q28 := uS HB hg; have Q1r := uS HB hg; replace HB := uH HB hb; have Q0v := uL Q01 hg; have Q0w := uG Q01 hg; replace Q01 := uB Q01 hb; clear hb hbox hg) | ((with_reducible refine gate_dst (N := 4) rfl ?_); (try (refine gate_guard (by rfl) ?_; dsimp only)); refine box_event ?hg (N := 4) ?hd (cs := #[.slice none 0 0, .slice none 0 0]) (t := 25) ?hr ?_; (case hd => rfl); (case hg => rfl); (case hr => first | (go_simp; done) | (go_simp; rfl)); intro Q06 hg w10 hbox hb; have Q02 := Aside0.mk (hbox); have Q29 := uS HB hg; have Q1s := uS HB hg; replace HB := uH HB hb; have Q0y := uL Q01 hg; have Q0z := uG Q01 hg; replace Q01 := uB Q01 hb; have Q0f := uL Q00 hg; have Q0q := uG Q00 hg; replace Q00 := uB Q00 hb; clear hb hbox hg) | ((with_reducible refine gate_dst (N := 5) rfl ?_); (try (refine gate_guard (by rfl) ?_; dsimp only)); refine box_event ?hg (N := 5) ?hd (cs := #[.slice none 0 0, .slice none 0 0]) (t := 29) ?hr ?_; (case hd => rfl); (case hg => rfl); (case hr => first | (go_simp; done) | (go_simp; rfl)); intro Q07 hg w11 hbox hb; have Q03 := Aside0.mk (hbox); have Q2a := uS HB hg; have Q1t := uS HB hg; replace HB := uH HB hb; have Q10 := uL Q01 hg; have Q11 := uG Q01 hg; replace Q01 := uB Q01 hb; have Q0g := uL Q00 hg; have Q0r := uG Q00 hg; replace Q00 := uB Q00 hb; have Q0h := uL Q02 hg; have Q0i := uG Q02 hg; replace Q02 := uB Q02 hb; clear hb hbox hg) | ((with_reducible refine gate_dst (N := 6) rfl ?_); (try (refine gate_guard (by rfl) ?_; dsimp only)); refine box_event ?hg (N := 6) ?hd (cs := #[.slice none 0 0, .slice none 0 0]) (t := 29) ?hr ?_; (case hd => rfl); (case hg => rfl); (case hr => first | (go_simp; done) | (go_simp; rfl)); intro Q08 hg w12 hbox hb; have Q04 := Aside0.mk (hbox); have Q2b := uS HB hg; have Q1u := uS HB hg; replace HB := uH HB hb; have Q12 := uL Q01 hg; have Q13 := uG Q01 hg; replace Q01 := uB Q01 hb; have Q0j := uL Q00 hg; have Q0s := uG Q00 hg; replace Q00 := uB Q00 hb; have Q0k := uL Q02 hg; have Q0l := uG Q02 hg; replace Q02 := uB Q02 hb; have Q0m := uL Q03 hg; have Q0n := uG Q03 hg; replace Q03 := uB Q03 hb; clear hb hbox hg; have Q44 := Q0v.out; have Q45 := Q0w.out; have Q46 := Q0y.out; have Q47 := Q0z.out; have Q48 := Q10.out; have Q49 := Q11.out; have Q4a := Q12.out; have Q4b := Q13.out; have Q2c : w12.cell? ⟨Q0b, 0, none⟩ = some (.slice A0_0 l0_0.length c0_0) := (blk_cell Q01.out 0).trans rfl; have Q2d : w12.cell? ⟨Q0b, 1, none⟩ = some (.slice A0_1 l0_1.length c0_1) := (blk_cell Q01.out 1).trans rfl; have Q2e := blk_frozen Q01.out 0; have Q2f := blk_frozen Q01.out 1) | ((with_reducible refine gate_callee (f := 27) rfl ?_); refine goesL_ (some 16) rfl rfl Try.func27 (by kernel_rfl) rfl #[.agg #[.slice A0_0 l0_0.length c0_0, .slice A0_1 l0_1.length c0_1]] rfl aM ?_; (with_reducible refine (scarfjointref05_Valid.calls k _ _ l0_0 _ _ l0_1 t106 _ ?side1 ?side2 ?side3 ?side4 A3.out).mono ?_); (case side1 => repeat (first | exact (cB HR0_0.out HB.out) | (with_reducible refine cA ?_ _) | (with_reducible refine cN ?_ _) | (with_reducible refine cD ?_))); (case side2 => exact HC0_0.out); (case side3 => repeat (first | exact (cB HR0_1.out HB.out) | (with_reducible refine cA ?_ _) | (with_reducible refine cN ?_ _) | (with_reducible refine cD ?_))); (case side4 => exact HC0_1.out); rintro e w18 ⟨rfl, hb⟩; refine ⟨_, rfl, ?_⟩; replace Q01 := uB Q01 hb; replace Q00 := uB Q00 hb; replace Q02 := uB Q02 hb; replace Q03 := uB Q03 hb; replace Q04 := uB Q04 hb; replace HB := uH HB hb; (try clear hb); (try clear hb2); (try clear hk); (try clear hi); have Q4c := Q0f.out; have Q4d := Q0q.out; have Q4e := Q0g.out; have Q4f := Q0r.out; have Q4g := Q0j.out; have Q4h := Q0s.out; have Q2g : w18.cell? ⟨Q0c, 0, none⟩ = some (.slice A1_0 l1_0.length c1_0) := (blk_cell Q00.out 0).trans rfl; have Q2h : w18.cell? ⟨Q0c, 1, none⟩ = some (.slice A1_1 l1_1.length c1_1) := (blk_cell Q00.out 1).trans rfl; have Q2i := blk_frozen Q00.out 0; have Q2j := blk_frozen Q00.out 1) | ((with_reducible refine gate_callee (f := 27) rfl ?_); refine goesL_ (some 24) rfl rfl Try.func27 (by kernel_rfl) rfl #[.agg #[.slice A1_0 l1_0.length c1_0, .slice A1_1 l1_1.length c1_1]] rfl aM ?_; (with_reducible refine (scarfjointref05_Valid.calls k _ _ l1_0 _ _ l1_1 t107 _ ?side1 ?side2 ?side3 ?side4 A5.out).mono ?_); (case side1 => repeat (first | exact (cB HR1_0.out HB.out) | (with_reducible refine cA ?_ _) | (with_reducible refine cN ?_ _) | (with_reducible refine cD ?_))); (case side2 => exact HC1_0.out); (case side3 => repeat (first | exact (cB HR1_1.out HB.out) | (with_reducible refine cA ?_ _) | (with_reducible refine cN ?_ _) | (with_reducible refine cD ?_))); (case side4 => exact HC1_1.out); rintro e w23 ⟨rfl, hb⟩; refine ⟨_, rfl, ?_⟩; replace Q01 := uB Q01 hb; replace Q00 := uB Q00 hb; replace Q02 := uB Q02 hb; replace Q03 := uB Q03 hb; replace Q04 := uB Q04 hb; replace HB := uH HB hb; (try clear hb); (try clear hb2); (try clear hk); (try clear hi)))
   replace Q01 := Aside0.mk (bD Q01.out)
   replace Q00 := Aside0.mk (bD Q00.out)
   replace Q02 := Aside0.mk (bD Q02.out)
   replace Q03 := Aside0.mk (bD Q03.out)
   replace Q04 := Aside0.mk (bD Q04.out)
   replace HB := Aside0.mk (wD HB.out)
   refine start_ (n := 8) (S := fun w' => w'.cell? ⟨Q0b, 0, none⟩ = some (.slice A0_0 l0_0.length c0_0) ∧ w'.cell? ⟨Q0b, 1, none⟩ = some (.slice A0_1 l0_1.length c0_1)) (ds := []) #[false, false, false, false, false, false, false, false] (by kernel_rfl) rfl rfl ⟨(blk_cell Q01.out 0).trans rfl, (blk_cell Q01.out 1).trans rfl⟩ (fun hHeld => ?_); refine with_tabW scarfjointref05_Union.tab7 scarfjointref05_Union.bits7 (fun HT_ HW_ => ?_)
   generalize w23.drew = w24 at Q01 Q00 Q02 Q03 Q04 HB hHeld ⊢
   refine pure_ (i := 0) (N := some 31) (v := ?_) (a' := ?_) #[true, false, false, false, false, false, false, false] rfl rfl (any_of HT_.out (by kernel_rfl)) (fun _ _ _ h => h) (Or.inl ⟨by rfl, ?_⟩) ?_ ?_
   rotate_left
   ·intro w'
    go_simp
    with_reducible rfl
   rotate_left
   ·simp only [Act.put, List.setIfInBounds_toArray, List.set_cons_zero, List.set_cons_succ, i64_w, i32_w]
    rfl
   refine pure_ (i := 3) (N := some 34) (v := ?_) (a' := ?_) #[true, false, false, true, false, false, false, false] rfl rfl (any_of HT_.out (by kernel_rfl)) (fun _ _ _ h => h) (Or.inl ⟨by rfl, ?_⟩) ?_ ?_
   rotate_left
   ·intro w'
    go_simp
    with_reducible rfl
   rotate_left
   ·simp only [Act.put, List.setIfInBounds_toArray, List.set_cons_zero, List.set_cons_succ, i64_w, i32_w]
    rfl
   refine take_ (i := 1) (N := some 32) (v := ?_) (a' := ?_) #[true, true, false, true, false, false, false, false] rfl rfl (take_ofW HT_.out HW_.out (by kernel_rfl)) (fun _ _ _ h => h) (Or.inl ⟨by rfl, ?_⟩) hHeld ?_ ?_
   rotate_left
   ·rintro w' ⟨s0, s1⟩
    go_simp
    with_reducible rfl
   rotate_left
   ·simp only [Act.put, List.setIfInBounds_toArray, List.set_cons_zero, List.set_cons_succ, i64_w, i32_w]
    rfl
   refine pure_ (i := 2) (N := some 33) (v := ?_) (a' := ?_) #[true, true, true, true, false, false, false, false] rfl rfl (any_of HT_.out (by kernel_rfl)) (fun _ _ _ h => h) (Or.inl ⟨by rfl, ?_⟩) ?_ ?_
   rotate_left
   ·intro w'
    go_simp
    with_reducible rfl
   rotate_left
   ·simp only [Act.put, List.setIfInBounds_toArray, List.set_cons_zero, List.set_cons_succ, i64_w, i32_w]
    rfl
   refine pure_ (i := 6) (N := some 10) (v := ?_) (a' := ?_) #[true, true, true, true, false, false, true, false] rfl rfl (any_of HT_.out (by kernel_rfl)) (fun _ _ _ h => h) (Or.inl ⟨by rfl, ?_⟩) ?_ ?_
   rotate_left
   ·intro w'
    go_simp
    with_reducible rfl
   rotate_left
   ·simp only [Act.put, List.setIfInBounds_toArray, List.set_cons_zero, List.set_cons_succ, i64_w, i32_w]
    rfl
   refine take_ (i := 4) (N := some 35) (v := ?_) (a' := ?_) #[true, true, true, true, true, false, true, false] rfl rfl (take_ofW HT_.out HW_.out (by kernel_rfl)) (fun _ _ _ h => h) (Or.inl ⟨by rfl, ?_⟩) hHeld ?_ ?_
   rotate_left
   ·rintro w' ⟨s0, s1⟩
    go_simp
    with_reducible rfl
   rotate_left
   ·simp only [Act.put, List.setIfInBounds_toArray, List.set_cons_zero, List.set_cons_succ, i64_w, i32_w]
    rfl
   refine pure_ (i := 5) (N := some 36) (v := ?_) (a' := ?_) #[true, true, true, true, true, true, true, false] rfl rfl (any_of HT_.out (by kernel_rfl)) (fun _ _ _ h => h) (Or.inl ⟨by rfl, ?_⟩) ?_ ?_
   rotate_left
   ·intro w'
    go_simp
    with_reducible rfl
   rotate_left
   ·simp only [Act.put, List.setIfInBounds_toArray, List.set_cons_zero, List.set_cons_succ, i64_w, i32_w]
    rfl
   refine pure_ (i := 7) (N := some 11) (v := ?_) (a' := ?_) #[true, true, true, true, true, true, true, true] rfl rfl (any_of HT_.out (by kernel_rfl)) (fun _ _ _ h => h) (Or.inl ⟨by rfl, ?_⟩) ?_ ?_
   rotate_left
   ·intro w'
    go_simp
    with_reducible rfl
   rotate_left
   ·simp only [Act.put, List.setIfInBounds_toArray, List.set_cons_zero, List.set_cons_succ, i64_w, i32_w]
    rfl
   refine done_ (done_of HT_.out (by kernel_rfl)) ?_
   go_upto_region 8 with (fail)
   go_cut [50] (fun v50 wc => ∃ (kq : Nat) (x50_6 : Bool), v50 = .bool x50_6 ∧ Aside0 (scarfjointref05_Union.j0 kq (l0_0.length : Int) (l0_1.length : Int) x50_6 l0_0 l0_1 l1_0 l1_1 = some (r1, r2, r3, r4, r5, r6, r7)) ∧ Aside0 (kq ≤ k) ∧ Aside0 (wc.heap[Q0b]? = some (.cells #[(.slice A0_0 l0_0.length c0_0), (.slice A0_1 l0_1.length c0_1)] 25 (0, 0))) ∧ Aside0 (wc.heap[Q0c]? = some (.cells #[(.slice A1_0 l1_0.length c1_0), (.slice A1_1 l1_1.length c1_1)] 25 (0, 0))) ∧ Aside0 (wc.heap[Q06]? = some (.cells #[(.slice none 0 0), (.slice none 0 0)] 25 (0, 0))) ∧ Aside0 (wc.heap[Q07]? = some (.cells #[(.slice none 0 0), (.slice none 0 0)] 29 (0, 0))) ∧ Aside0 (wc.heap[Q08]? = some (.cells #[(.slice none 0 0), (.slice none 0 0)] 29 (0, 0))) ∧ Aside0 (Below w.heap.size w wc))
   case first =>
    have H := HC7.out
    clear HC7
    by_cases c25 : (wrap64 ((l0_0.length : Int) + (l1_0.length : Int))) > 40
    ·rw [if_pos c25] at H
     have c25b0 : decide (40 < (wrap64 ((l0_0.length : Int) + (l1_0.length : Int)))) = true := decide_eq_true c25
     clear c25
     (first | rw [c25b0] | (simp only [i64_w, i32_w]; rw [c25b0]) | skip)
     have H' := Aside0.mk H
     clear H
     have Q4i := Q0w.out
     have Q4j := Q0v.out
     have Q4k := Q0f.out
     have Q4l := Q0q.out
     have Q4m := Q0g.out
     have Q4n := Q0r.out
     have Q4o := Q0j.out
     have Q4p := Q0s.out
     have Q2k : w24.cell? ⟨Q0c, 0, none⟩ = some (.slice A1_0 l1_0.length c1_0) := (blk_cell Q00.out 0).trans rfl
     have Q2l : w24.cell? ⟨Q0c, 1, none⟩ = some (.slice A1_1 l1_1.length c1_1) := (blk_cell Q00.out 1).trans rfl
     have Q2m := blk_frozen Q00.out 0
     have Q2n := blk_frozen Q00.out 1
     go_wp2
     go_meet
     case rel => exact ⟨_, (true), rS, H', ⟨by first | omega | exact Nat.le_refl _⟩, ⟨pB Q01⟩, ⟨pB Q00⟩, ⟨pB Q02⟩, ⟨pB Q03⟩, ⟨pB Q04⟩, ⟨pH HB⟩⟩
    ·rw [if_neg c25] at H
     have c25b0 : decide (40 < (wrap64 ((l0_0.length : Int) + (l1_0.length : Int)))) = false := decide_eq_false c25
     clear c25
     (first | rw [c25b0] | (simp only [i64_w, i32_w]; rw [c25b0]) | skip)
     have H' := Aside0.mk H
     clear H
     have Q4q := Q0w.out
     have Q4r := Q0v.out
     have Q4s := Q0f.out
     have Q4t := Q0q.out
     have Q4u := Q0g.out
     have Q4v := Q0r.out
     have Q4w := Q0j.out
     have Q4x := Q0s.out
     have Q2o : w24.cell? ⟨Q0c, 0, none⟩ = some (.slice A1_0 l1_0.length c1_0) := (blk_cell Q00.out 0).trans rfl
     have Q2p : w24.cell? ⟨Q0c, 1, none⟩ = some (.slice A1_1 l1_1.length c1_1) := (blk_cell Q00.out 1).trans rfl
     have Q2q := blk_frozen Q00.out 0
     have Q2r := blk_frozen Q00.out 1
     go_wp2
     go_meet
     case rel => exact ⟨_, (decide ((wrap64 ((l0_1.length : Int) + (l1_1.length : Int))) > 80)), rS, H', ⟨by first | omega | exact Nat.le_refl _⟩, ⟨pB Q01⟩, ⟨pB Q00⟩, ⟨pB Q02⟩, ⟨pB Q03⟩, ⟨pB Q04⟩, ⟨pH HB⟩⟩
   case rest =>
    clear HC7
    try clear c1; try clear c2; try clear p2; try clear c3; try clear c4; try clear c4b0; try clear c4b1; try clear c6; try clear c6b0; try clear c6b1; try clear p6; try clear c13; try clear c14; try clear c15; try clear c16; try clear c19; try clear c20; try clear c21; try clear c25; try clear c25b0; try clear c26; try clear c27; try clear c28; try clear c29; try clear c31; try clear c32; try clear c33; try clear c34; try clear Q2c; try clear Q2d; try clear Q2g; try clear Q2h; try clear Q2k; try clear Q2l; try clear Q2o; try clear Q2p; try clear Q2e; try clear Q2f; try clear Q2i; try clear Q2j; try clear Q2m; try clear Q2n; try clear Q2q; try clear Q2r
    obtain ⟨kq, x50_6, rfl, HA, HJ6, Q01, Q00, Q02, Q03, Q04, HB⟩ := hcut
    cases kq with
    | zero => exact absurd HA.out (by simp [scarfjointref05_Union.j0])
    | succ kj6 =>
     have H := HA.out
     clear HA
     simp only [scarfjointref05_Union.j0] at H
     by_cases c36 : x50_6 = true
     ·subst c36
      have H1 : (some (([] : List Int), ([] : List (S38)), ([] : List Int), ([] : List Int), ([] : List Int), ([] : List Int), 3)) = some (r1, r2, r3, r4, r5, r6, r7) := by rw [if_pos rfl] at H; exact H
      clear H
      have H := H1
      clear H1
      simp only [Option.some.injEq, Prod.mk.injEq] at H
      obtain ⟨rfl, rfl, rfl, rfl, rfl, rfl, rfl⟩ := H
      have Q4y := Q0z.out
      have Q4z := Q0y.out
      have Q50 := Q0q.out
      have Q51 := Q0f.out
      have Q52 := Q0h.out
      have Q53 := Q0i.out
      have Q54 := Q0k.out
      have Q55 := Q0l.out
      have Q31 : wc.cell? ⟨Q06, 0, none⟩ = some (.slice none 0 0) := (blk_cell Q02.out 0).trans rfl
      have Q32 : wc.cell? ⟨Q06, 1, none⟩ = some (.slice none 0 0) := (blk_cell Q02.out 1).trans rfl
      have Q33 := blk_frozen Q02.out 0
      have Q34 := blk_frozen Q02.out 1
      have Q56 := Q11.out
      have Q57 := Q10.out
      have Q58 := Q0r.out
      have Q59 := Q0g.out
      have Q5a := Q0m.out
      have Q5b := Q0n.out
      have Q35 : wc.cell? ⟨Q07, 0, none⟩ = some (.slice none 0 0) := (blk_cell Q03.out 0).trans rfl
      have Q36 : wc.cell? ⟨Q07, 1, none⟩ = some (.slice none 0 0) := (blk_cell Q03.out 1).trans rfl
      have Q37 := blk_frozen Q03.out 0
      have Q38 := blk_frozen Q03.out 1
      have Q5c := Q13.out
      have Q5d := Q12.out
      have Q5e := Q0s.out
      have Q5f := Q0j.out
      have Q39 : wc.cell? ⟨Q08, 0, none⟩ = some (.slice none 0 0) := (blk_cell Q04.out 0).trans rfl
      have Q3a : wc.cell? ⟨Q08, 1, none⟩ = some (.slice none 0 0) := (blk_cell Q04.out 1).trans rfl
      have Q3b := blk_frozen Q04.out 0
      have Q3c := blk_frozen Q04.out 1
      go_wp2
      refine bodyPost_ret (results_list (rs := [.cell 4 25, .cell 5 29, .cell 6 29, .tmp 7]) rfl (by simp) (.cell Q06 25 #[.slice none 0 0, .slice none 0 0] (0, 0) _ rfl (by (with_reducible repeat (first | refine bN ?_ _ | refine bD ?_ | refine bA ?_ _)); refine blk_far ?_ Q0k.out _; (with_reducible repeat (first | refine bN ?_ _ | refine bD ?_ | refine bA ?_ _)); refine blk_far ?_ Q0k.out _; (with_reducible repeat (first | refine bN ?_ _ | refine bD ?_ | refine bA ?_ _)); refine blk_far ?_ Q0h.out _; (with_reducible repeat (first | refine bN ?_ _ | refine bD ?_ | refine bA ?_ _)); refine blk_far ?_ Q0h.out _; (with_reducible repeat (first | refine bN ?_ _ | refine bD ?_ | refine bA ?_ _)); refine blk_put (cs := #[.slice none 0 0, .slice none 0 0]) ?_ 1 _ rfl; (with_reducible repeat (first | refine bN ?_ _ | refine bD ?_ | refine bA ?_ _)); refine blk_put (cs := #[.slice none 0 0, .slice none 0 0]) ?_ 0 _ rfl; (with_reducible repeat (first | refine bN ?_ _ | refine bD ?_ | refine bA ?_ _)); exact Q02.out) Try.underlying25 rfl (by kernel_rfl) (.cell Q07 29 #[.slice none 0 0, .slice none 0 0] (0, 0) _ rfl (by (with_reducible repeat (first | refine bN ?_ _ | refine bD ?_ | refine bA ?_ _)); refine blk_far ?_ Q0m.out _; (with_reducible repeat (first | refine bN ?_ _ | refine bD ?_ | refine bA ?_ _)); refine blk_far ?_ Q0m.out _; (with_reducible repeat (first | refine bN ?_ _ | refine bD ?_ | refine bA ?_ _)); refine blk_put (cs := #[.slice none 0 0, .slice none 0 0]) ?_ 1 _ rfl; (with_reducible repeat (first | refine bN ?_ _ | refine bD ?_ | refine bA ?_ _)); refine blk_put (cs := #[.slice none 0 0, .slice none 0 0]) ?_ 0 _ rfl; (with_reducible repeat (first | refine bN ?_ _ | refine bD ?_ | refine bA ?_ _)); refine blk_far ?_ Q0i.out _; (with_reducible repeat (first | refine bN ?_ _ | refine bD ?_ | refine bA ?_ _)); refine blk_far ?_ Q0i.out _; (with_reducible repeat (first | refine bN ?_ _ | refine bD ?_ | refine bA ?_ _)); exact Q03.out) Try.underlying29 rfl (by kernel_rfl) (.cell Q08 29 #[.slice none 0 0, .slice none 0 0] (0, 0) _ rfl (by (with_reducible repeat (first | refine bN ?_ _ | refine bD ?_ | refine bA ?_ _)); refine blk_put (cs := #[.slice none 0 0, .slice none 0 0]) ?_ 1 _ rfl; (with_reducible repeat (first | refine bN ?_ _ | refine bD ?_ | refine bA ?_ _)); refine blk_put (cs := #[.slice none 0 0, .slice none 0 0]) ?_ 0 _ rfl; (with_reducible repeat (first | refine bN ?_ _ | refine bD ?_ | refine bA ?_ _)); refine blk_far ?_ Q0n.out _; (with_reducible repeat (first | refine bN ?_ _ | refine bD ?_ | refine bA ?_ _)); refine blk_far ?_ Q0n.out _; (with_reducible repeat (first | refine bN ?_ _ | refine bD ?_ | refine bA ?_ _)); refine blk_far ?_ Q0l.out _; (with_reducible repeat (first | refine bN ?_ _ | refine bD ?_ | refine bA ?_ _)); refine blk_far ?_ Q0l.out _; (with_reducible repeat (first | refine bN ?_ _ | refine bD ?_ | refine bA ?_ _)); exact Q04.out) Try.underlying29 rfl (by kernel_rfl) (.tmp .nil))))) rfl ?_
      exact ⟨_, _, _, _, _, _, by first | rfl | (simp [errW_none, errW_some] <;> rfl) | (simp [*, errW_none, errW_some] <;> rfl), by first | exact Kd.R_nil _ _ _ _ _ | exact Kd.N_nil _ _ _ _ _ | exact Kd.V_nil _ _ _ _ _ | exact Kd.Q_nil _ _ _ _ _ | exact Kd.S_nil _ _ _ _ _, by first | exact Kd.R_nil _ _ _ _ _ | exact Kd.N_nil _ _ _ _ _ | exact Kd.V_nil _ _ _ _ _ | exact Kd.Q_nil _ _ _ _ _ | exact Kd.S_nil _ _ _ _ _, by first | exact Kd.R_nil _ _ _ _ _ | exact Kd.N_nil _ _ _ _ _ | exact Kd.V_nil _ _ _ _ _ | exact Kd.Q_nil _ _ _ _ _ | exact Kd.S_nil _ _ _ _ _, by first | exact Kd.R_nil _ _ _ _ _ | exact Kd.N_nil _ _ _ _ _ | exact Kd.V_nil _ _ _ _ _ | exact Kd.Q_nil _ _ _ _ _ | exact Kd.S_nil _ _ _ _ _, by first | exact Kd.R_nil _ _ _ _ _ | exact Kd.N_nil _ _ _ _ _ | exact Kd.V_nil _ _ _ _ _ | exact Kd.Q_nil _ _ _ _ _ | exact Kd.S_nil _ _ _ _ _, by first | exact Kd.R_nil _ _ _ _ _ | exact Kd.N_nil _ _ _ _ _ | exact Kd.V_nil _ _ _ _ _ | exact Kd.Q_nil _ _ _ _ _ | exact Kd.S_nil _ _ _ _ _, by repeat (first | (with_reducible first | exact HB.out | apply wA | apply wN | apply wD | refine below_set ?_ Q1q.out | refine below_set ?_ Q1r.out | refine below_set ?_ Q1s.out | refine below_set ?_ Q1t.out | refine below_set ?_ Q1u.out) | exact HB.out)⟩
     ·replace c36 := Bool.eq_false_iff.mpr c36
      subst c36
      have H1 : ((scarfjointref05_Copied.f l0_0 l0_1).bind fun bt108 => (if bt108.1.length + l1_0.length < 17592186044416 then (scarfjointref05_Union.l0 kj6 (l0_0.length : Int) (l0_1.length : Int) 0 l1_0 l1_1 (bt108.1 ++ l1_0) bt108.2) else (none))) = some (r1, r2, r3, r4, r5, r6, r7) := by rw [if_neg (show ¬ (false = true) by decide)] at H; exact H
      clear H
      have H := H1
      clear H1
      replace H := Option.bind_eq_some_iff.mp H
      obtain ⟨⟨t108, t111⟩, A490, H⟩ := H
      replace H : (if t108.length + l1_0.length < 17592186044416 then (scarfjointref05_Union.l0 kj6 (l0_0.length : Int) (l0_1.length : Int) 0 l1_0 l1_1 (t108 ++ l1_0) t111) else (none)) = some (r1, r2, r3, r4, r5, r6, r7) := H
      have A49 := Aside0.mk A490
      clear A490
      by_cases c50 : t108.length + l1_0.length < 17592186044416
      ·rw [if_pos c50] at H
       have LMc50 := Aside0.mk c50
       clear c50
       obtain ⟨y115, hy115⟩ : ∃ y_ : List Int, y_ = (t108 ++ l1_0) := ⟨_, rfl⟩
       replace H : (scarfjointref05_Union.l0 kj6 (l0_0.length : Int) (l0_1.length : Int) 0 l1_0 l1_1 y115 t111) = some (r1, r2, r3, r4, r5, r6, r7) := by first | (rw [hy115]; with_reducible exact H) | (have H2_ := (Option.bind_some _ _).symm.trans H; rw [hy115]; with_reducible exact H2_) | (have H2_ := (Option.bind_some _ _).symm.trans H; with_reducible exact H2_) | with_reducible exact H | (rw [hy115]; exact H) | exact H
       have Ny115 := Aside0.mk hy115
       clear hy115
       have H' := Aside0.mk H
       clear H
       have Q5g := Q0v.out
       have Q5h := Q0w.out
       have Q5i := Q0y.out
       have Q5j := Q0z.out
       have Q5k := Q10.out
       have Q5l := Q11.out
       have Q5m := Q12.out
       have Q5n := Q13.out
       have Q3d : wc.cell? ⟨Q0b, 0, none⟩ = some (.slice A0_0 l0_0.length c0_0) := (blk_cell Q01.out 0).trans rfl
       have Q3e : wc.cell? ⟨Q0b, 1, none⟩ = some (.slice A0_1 l0_1.length c0_1) := (blk_cell Q01.out 1).trans rfl
       have Q3f := blk_frozen Q01.out 0
       have Q3g := blk_frozen Q01.out 1
       go_wp2_with (first | ((with_reducible refine gate_callee (f := 13) rfl ?_); refine goesL_ (some 55) rfl rfl Try.func13 (by kernel_rfl) rfl #[.agg #[.slice A0_0 l0_0.length c0_0, .slice A0_1 l0_1.length c0_1]] rfl aM ?_; (with_reducible refine (scarfjointref05_Copied.calls _ _ l0_0 _ _ l0_1 t108 t111 _ ?side1 ?side2 ?side3 ?side4 A49.out).mono ?_); (case side1 => repeat (first | exact (cB HR0_0.out HB.out) | (with_reducible refine cA ?_ _) | (with_reducible refine cN ?_ _) | (with_reducible refine cD ?_))); (case side2 => exact HC0_0.out); (case side3 => repeat (first | exact (cB HR0_1.out HB.out) | (with_reducible refine cA ?_ _) | (with_reducible refine cN ?_ _) | (with_reducible refine cD ?_))); (case side4 => exact HC0_1.out); rintro e w56 ⟨v109, v112, rfl, ho0, ho1, hb⟩; refine ⟨_, rfl, ?_⟩; have Q0t := Aside0.mk (Kd.R_lower ho0 (below_size (pH HB))); have Q1v := Aside0.mk (Kd.R_lower ho1 (below_size (pH HB))); replace Q01 := uB Q01 hb; replace Q00 := uB Q00 hb; replace Q02 := uB Q02 hb; replace Q03 := uB Q03 hb; replace Q04 := uB Q04 hb; replace HB := uH HB hb; (try clear hb); (try clear hb2); (try clear hk); (try clear hi); (try clear ho0); (try clear ho1)) | ((with_reducible refine gate_dst (N := 12) rfl ?_); (try (refine gate_guard (by rfl) ?_; dsimp only)); refine box_event ?hg (N := 12) ?hd (cs := #[.slice none 0 0, .slice none 0 0]) (t := 25) ?hr ?_; (case hd => rfl); (case hg => rfl); (case hr => first | (go_simp; done) | (go_simp; rfl)); intro Q0a hg w57 hbox hb; replace Q0t := uR Q0t hb; replace Q1v := uR Q1v hb; have Q05 := Aside0.mk (hbox); have Q5o := uS HB hg; have Q3h := uS HB hg; replace HB := uH HB hb; have Q1w := uL Q01 hg; have Q2s := uG Q01 hg; replace Q01 := uB Q01 hb; have Q1h := uL Q00 hg; have Q24 := uG Q00 hg; replace Q00 := uB Q00 hb; have Q14 := uL Q02 hg; have Q15 := uG Q02 hg; replace Q02 := uB Q02 hb; have Q16 := uL Q03 hg; have Q17 := uG Q03 hg; replace Q03 := uB Q03 hb; have Q18 := uL Q04 hg; have Q19 := uG Q04 hg; replace Q04 := uB Q04 hb; clear hb hbox hg; obtain ⟨Q1a, Q1b, Q3i⟩ := Kd.R_slice Q0t.out; subst Q3i; have Q5p := Q2s.out; have Q5q := Q1w.out; have Q5r := Q24.out; have Q5s := Q1h.out; have Q5t := Q15.out; have Q5u := Q14.out; have Q5v := Q17.out; have Q5w := Q16.out; have Q5x := Q19.out; have Q5y := Q18.out; have Q3j : w57.cell? ⟨Q0a, 0, none⟩ = some (.slice none 0 0) := (blk_cell Q05.out 0).trans rfl; have Q3k : w57.cell? ⟨Q0a, 1, none⟩ = some (.slice none 0 0) := (blk_cell Q05.out 1).trans rfl; have Q3l := blk_frozen Q05.out 0; have Q3m := blk_frozen Q05.out 1; obtain ⟨Q1i, Q1j, Q3n⟩ := Kd.R_slice Q1v.out; subst Q3n; have Q5z := Q0f.out; have Q60 := Q0q.out; have Q61 := Q0g.out; have Q62 := Q0r.out; have Q63 := Q0j.out; have Q64 := Q0s.out; have Q3o : w57.cell? ⟨Q0c, 0, none⟩ = some (.slice A1_0 l1_0.length c1_0) := (blk_cell Q00.out 0).trans rfl; have Q3p : w57.cell? ⟨Q0c, 1, none⟩ = some (.slice A1_1 l1_1.length c1_1) := (blk_cell Q00.out 1).trans rfl; have Q3q := blk_frozen Q00.out 0; have Q3r := blk_frozen Q00.out 1) | ((with_reducible refine gate_builtin (b := .append) (xs := #[.tmp 57, .tmp 59]) rfl ?_); (try (refine gate_guard (by rfl) ?_; dsimp only)); at_builtin; refine Kd.R_append_rows (Kd.int .i64) (w0 := w) w.heap.size rfl (.tmp 57) (.tmp 59) 22 3 (.int .i64 0) 8 rfl Try.underlying22 info3 rfl (by decide) (by omega) (.slice Q1a t108.length Q1b) t108 l1_0 _ _ _ (fun _ => True) (fun _ => False) rfl rfl ?aO ?aR (fun _ _ h => h) (fun _ h => h.elim) ?aF ?aB ?aS ?aL ?_; (case aR => exact cB HR1_0.out (pH HB)); (case aB => exact (pH HB)); (case aF => exact (fun _ _ => trivial)); (case aO => exact (by (with_reducible repeat (first | apply rA | apply rN | apply rD)); exact Kd.R_mono (Kd.R_far (p := ⟨Q0a, 1, none⟩) (Kd.R_far (p := ⟨Q0a, 0, none⟩) (Kd.R_types Q0t.out Q05.out (by decide)) (fun _ hk => hk.2) (.slice Q1a t108.length Q1b)) (fun _ hk => hk.2) (.slice Q1i t111.length Q1j)) (fun _ hk => trivial))); (case aS => exact (below_size (pH HB))); (case aL => have := LMc50.out; omega); intro v116 w70 ho hb hg hat; rw [← Ny115.out] at ho; replace Q01 := Aside0.mk (bG (g := Q0b) (o := .cells #[.slice A0_0 l0_0.length c0_0, .slice A0_1 l0_1.length c0_1] 25 (0, 0)) (by (with_reducible repeat (first | refine bN ?_ _ | refine bD ?_ | refine bA ?_ _)); refine blk_far ?_ Q1w.out _; (with_reducible repeat (first | refine bN ?_ _ | refine bD ?_ | refine bA ?_ _)); refine blk_far ?_ Q1w.out _; (with_reducible repeat (first | refine bN ?_ _ | refine bD ?_ | refine bA ?_ _)); exact Q01.out) hg (Kd.R_ne Q0t.out Q01.out (by decide))); replace Q00 := Aside0.mk (bG (g := Q0c) (o := .cells #[.slice A1_0 l1_0.length c1_0, .slice A1_1 l1_1.length c1_1] 25 (0, 0)) (by (with_reducible repeat (first | refine bN ?_ _ | refine bD ?_ | refine bA ?_ _)); refine blk_far ?_ Q1h.out _; (with_reducible repeat (first | refine bN ?_ _ | refine bD ?_ | refine bA ?_ _)); refine blk_far ?_ Q1h.out _; (with_reducible repeat (first | refine bN ?_ _ | refine bD ?_ | refine bA ?_ _)); exact Q00.out) hg (Kd.R_ne Q0t.out Q00.out (by decide))); replace Q02 := Aside0.mk (bG (g := Q06) (o := .cells #[.slice none 0 0, .slice none 0 0] 25 (0, 0)) (by (with_reducible repeat (first | refine bN ?_ _ | refine bD ?_ | refine bA ?_ _)); refine blk_far ?_ Q14.out _; (with_reducible repeat (first | refine bN ?_ _ | refine bD ?_ | refine bA ?_ _)); refine blk_far ?_ Q14.out _; (with_reducible repeat (first | refine bN ?_ _ | refine bD ?_ | refine bA ?_ _)); exact Q02.out) hg (Kd.R_ne Q0t.out Q02.out (by decide))); replace Q03 := Aside0.mk (bG (g := Q07) (o := .cells #[.slice none 0 0, .slice none 0 0] 29 (0, 0)) (by (with_reducible repeat (first | refine bN ?_ _ | refine bD ?_ | refine bA ?_ _)); refine blk_far ?_ Q16.out _; (with_reducible repeat (first | refine bN ?_ _ | refine bD ?_ | refine bA ?_ _)); refine blk_far ?_ Q16.out _; (with_reducible repeat (first | refine bN ?_ _ | refine bD ?_ | refine bA ?_ _)); exact Q03.out) hg (Kd.R_ne Q0t.out Q03.out (by decide))); replace Q04 := Aside0.mk (bG (g := Q08) (o := .cells #[.slice none 0 0, .slice none 0 0] 29 (0, 0)) (by (with_reducible repeat (first | refine bN ?_ _ | refine bD ?_ | refine bA ?_ _)); refine blk_far ?_ Q18.out _; (with_reducible repeat (first | refine bN ?_ _ | refine bD ?_ | refine bA ?_ _)); refine blk_far ?_ Q18.out _; (with_reducible repeat (first | refine bN ?_ _ | refine bD ?_ | refine bA ?_ _)); exact Q04.out) hg (Kd.R_ne Q0t.out Q04.out (by decide))); replace Q1v := Aside0.mk (Kd.R_over' (by (with_reducible repeat (first | apply rA | apply rN | apply rD)); exact (Kd.R_mono (Kd.R_far (p := ⟨Q0a, 1, none⟩) (Kd.R_far (p := ⟨Q0a, 0, none⟩) (Kd.R_types Q1v.out Q05.out (by decide)) (fun _ hk => hk.2) (.slice Q1a t108.length Q1b)) (fun _ hk => hk.2) (.slice Q1i t111.length Q1j)) (fun _ h_ => h_.1))) (Kd.R_typed (by (with_reducible repeat (first | apply rA | apply rN | apply rD)); exact (Kd.R_mono (Kd.R_far (p := ⟨Q0a, 1, none⟩) (Kd.R_far (p := ⟨Q0a, 0, none⟩) (Kd.R_types Q0t.out Q05.out (by decide)) (fun _ hk => hk.2) (.slice Q1a t108.length Q1b)) (fun _ hk => hk.2) (.slice Q1i t111.length Q1j)) (fun _ h_ => h_.1)))) (by decide) hg); replace Q05 := Aside0.mk (bG (g := Q0a) (o := .cells #[.slice Q1a t108.length Q1b, .slice Q1i t111.length Q1j] 25 (0, 0)) (by (with_reducible repeat (first | refine bN ?_ _ | refine bD ?_ | refine bA ?_ _)); refine blk_put (cs := #[.slice Q1a t108.length Q1b, .slice none 0 0]) ?_ 1 _ rfl; (with_reducible repeat (first | refine bN ?_ _ | refine bD ?_ | refine bA ?_ _)); refine blk_put (cs := #[.slice none 0 0, .slice none 0 0]) ?_ 0 _ rfl; (with_reducible repeat (first | refine bN ?_ _ | refine bD ?_ | refine bA ?_ _)); exact Q05.out) hg (Kd.R_ne Q0t.out Q05.out (by decide))); replace HB := Aside0.mk (hb); have Q2t := Aside0.mk (ho); clear Q0t; clear ho hb hg hat; obtain ⟨Q0o, Q0p, Q3s⟩ := Kd.R_slice Q2t.out; subst Q3s; have Q3t : w70.cell? ⟨Q0a, 0, none⟩ = some (.slice Q1a t108.length Q1b) := (blk_cell Q05.out 0).trans rfl; have Q3u : w70.cell? ⟨Q0a, 1, none⟩ = some (.slice Q1i t111.length Q1j) := (blk_cell Q05.out 1).trans rfl; have Q3v := blk_frozen Q05.out 0; have Q3w := blk_frozen Q05.out 1))
       go_loopg [13] kj6 (fun kq v13 w' => ∃ (x13_2 : Int) (x115001_2 : List (S38)) (u115001 : Value), v13 = .int .i64 x13_2 ∧ Aside0 (scarfjointref05_Union.l0 kq (l0_0.length : Int) (l0_1.length : Int) x13_2 l1_0 l1_1 y115 x115001_2 = some (r1, r2, r3, r4, r5, r6, r7)) ∧ Aside0 (kq ≤ kj6) ∧ Aside0 (Kd.R (Kd.int .i64) 3 w' w.heap.size (fun _ => True) (.slice Q0o y115.length Q0p) y115) ∧ Aside0 (Kd.R k38 38 w' w.heap.size (fun _ => True) u115001 x115001_2) ∧ Aside0 (w'.heap[Q0b]? = some (.cells #[(.slice A0_0 l0_0.length c0_0), (.slice A0_1 l0_1.length c0_1)] 25 (0, 0))) ∧ Aside0 (w'.heap[Q0c]? = some (.cells #[(.slice A1_0 l1_0.length c1_0), (.slice A1_1 l1_1.length c1_1)] 25 (0, 0))) ∧ Aside0 (w'.heap[Q06]? = some (.cells #[(.slice none 0 0), (.slice none 0 0)] 25 (0, 0))) ∧ Aside0 (w'.heap[Q07]? = some (.cells #[(.slice none 0 0), (.slice none 0 0)] 29 (0, 0))) ∧ Aside0 (w'.heap[Q08]? = some (.cells #[(.slice none 0 0), (.slice none 0 0)] 29 (0, 0))) ∧ Aside0 (w'.heap[Q0a]? = some (.cells #[(.slice Q0o y115.length Q0p), u115001] 25 (0, 0))) ∧ Aside0 (Below w.heap.size w w'))
       case atStart => exact ⟨(0), (t111), (.slice Q1i t111.length Q1j), rS, H', ⟨Nat.le_refl _⟩, ⟨by (with_reducible repeat (first | apply rA | apply rN | apply rD)); exact Kd.R_mono (Kd.R_far (p := ⟨Q0a, 0, none⟩) (Kd.R_types Q2t.out Q05.out (by decide)) (fun _ hk => hk.2) (.slice Q0o y115.length Q0p)) (fun _ hk => trivial)⟩, ⟨by (with_reducible repeat (first | apply rA | apply rN | apply rD)); exact Kd.R_mono (Kd.R_far (p := ⟨Q0a, 0, none⟩) (Kd.R_types Q1v.out Q05.out (by decide)) (fun _ hk => hk.2) (.slice Q0o y115.length Q0p)) (fun _ hk => trivial)⟩, ⟨by (with_reducible repeat (first | refine bN ?_ _ | refine bD ?_ | refine bA ?_ _)); refine blk_far ?_ Q1w.out _; (with_reducible repeat (first | refine bN ?_ _ | refine bD ?_ | refine bA ?_ _)); exact Q01.out⟩, ⟨by (with_reducible repeat (first | refine bN ?_ _ | refine bD ?_ | refine bA ?_ _)); refine blk_far ?_ Q1h.out _; (with_reducible repeat (first | refine bN ?_ _ | refine bD ?_ | refine bA ?_ _)); exact Q00.out⟩, ⟨by (with_reducible repeat (first | refine bN ?_ _ | refine bD ?_ | refine bA ?_ _)); refine blk_far ?_ Q14.out _; (with_reducible repeat (first | refine bN ?_ _ | refine bD ?_ | refine bA ?_ _)); exact Q02.out⟩, ⟨by (with_reducible repeat (first | refine bN ?_ _ | refine bD ?_ | refine bA ?_ _)); refine blk_far ?_ Q16.out _; (with_reducible repeat (first | refine bN ?_ _ | refine bD ?_ | refine bA ?_ _)); exact Q03.out⟩, ⟨by (with_reducible repeat (first | refine bN ?_ _ | refine bD ?_ | refine bA ?_ _)); refine blk_far ?_ Q18.out _; (with_reducible repeat (first | refine bN ?_ _ | refine bD ?_ | refine bA ?_ _)); exact Q04.out⟩, ⟨by (with_reducible repeat (first | refine bN ?_ _ | refine bD ?_ | refine bA ?_ _)); refine blk_put (cs := #[.slice Q1a t108.length Q1b, .slice Q1i t111.length Q1j]) ?_ 0 _ rfl; (with_reducible repeat (first | refine bN ?_ _ | refine bD ?_ | refine bA ?_ _)); exact Q05.out⟩, ⟨pH HB⟩⟩
       case round =>
        clear H'
        try clear c1; try clear c2; try clear p2; try clear c3; try clear c4; try clear c4b0; try clear c4b1; try clear c5; try clear c6; try clear c6b0; try clear c6b1; try clear p6; try clear c13; try clear c14; try clear c15; try clear c16; try clear c19; try clear c20; try clear c21; try clear c25; try clear c25b0; try clear c26; try clear c27; try clear c28; try clear c29; try clear c31; try clear c32; try clear c33; try clear c34; try clear c36; try clear c37; try clear c38; try clear c39; try clear c40; try clear c42; try clear c43; try clear c44; try clear c46; try clear c47; try clear c50; try clear c51; try clear c52; try clear c53; try clear c54; try clear c59; try clear c60; try clear c61; try clear c62; try clear c63; try clear p64; try clear c66; try clear c67; try clear c68; try clear Q2c; try clear Q2d; try clear Q2g; try clear Q2h; try clear Q2k; try clear Q2l; try clear Q2o; try clear Q2p; try clear Q31; try clear Q32; try clear Q35; try clear Q36; try clear Q39; try clear Q3a; try clear Q3d; try clear Q3e; try clear Q3j; try clear Q3k; try clear Q3o; try clear Q3p; try clear Q3t; try clear Q3u; try clear Q2e; try clear Q2f; try clear Q2i; try clear Q2j; try clear Q2m; try clear Q2n; try clear Q2q; try clear Q2r; try clear Q33; try clear Q34; try clear Q37; try clear Q38; try clear Q3b; try clear Q3c; try clear Q3f; try clear Q3g; try clear Q3l; try clear Q3m; try clear Q3q; try clear Q3r; try clear Q3v; try clear Q3w; try clear p2; try clear p6
        obtain ⟨x13_2, x115001_2, u115001, rfl, HA, HK2, Q0d, Q09, Q01, Q00, Q02, Q03, Q04, Q05, HB⟩ := hrel
        cases gk with
        | zero => exact absurd HA.out (by simp [scarfjointref05_Union.l0])
        | succ k2 =>
         have H := HA.out
         clear HA
         simp only [scarfjointref05_Union.l0] at H
         by_cases c73 : x13_2 < (l1_1.length : Int)
         ·rw [if_pos c73] at H
          have c73b0 : decide (x13_2 < (l1_1.length : Int)) = true := decide_eq_true c73
          clear c73
          by_cases c74 : 0 ≤ x13_2
          ·rw [if_pos c74] at H
           have c74b0 : decide (0 ≤ x13_2) = true := decide_eq_true c74
           clear c74
           by_cases c75 : x115001_2.length < 5864062014805
           ·rw [if_pos c75] at H
            have LMc75 := Aside0.mk c75
            clear c75
            obtain ⟨y120, hy120⟩ : ∃ y_ : List (S38), y_ = (x115001_2 ++ [(⟨(rd_T38 l1_1 x13_2).f0, wrap64 (((rd_T38 l1_1 x13_2).f1) + (l0_0.length : Int)), wrap64 (((rd_T38 l1_1 x13_2).f2) + (l0_0.length : Int))⟩ : S38)]) := ⟨_, rfl⟩
            replace H : (scarfjointref05_Union.l0 k2 (l0_0.length : Int) (l0_1.length : Int) (wrap64 (x13_2 + 1)) l1_0 l1_1 y115 y120) = some (r1, r2, r3, r4, r5, r6, r7) := by first | (rw [hy120]; with_reducible exact H) | (have H2_ := (Option.bind_some _ _).symm.trans H; rw [hy120]; with_reducible exact H2_) | (have H2_ := (Option.bind_some _ _).symm.trans H; with_reducible exact H2_) | with_reducible exact H | (rw [hy120]; exact H) | exact H
            have Ny120 := Aside0.mk hy120
            clear hy120
            have H' := Aside0.mk H
            clear H
            have Q65 := Q0w.out
            have Q66 := Q0v.out
            have Q67 := Q0f.out
            have Q68 := Q0q.out
            have Q69 := Q0g.out
            have Q6a := Q0r.out
            have Q6b := Q0j.out
            have Q6c := Q0s.out
            have Q6d := Q1h.out
            have Q6e := Q24.out
            have Q6f : wr.cell? ⟨Q0c, 0, none⟩ = some (.slice A1_0 l1_0.length c1_0) := (blk_cell Q00.out 0).trans rfl
            have Q6g : wr.cell? ⟨Q0c, 1, none⟩ = some (.slice A1_1 l1_1.length c1_1) := (blk_cell Q00.out 1).trans rfl
            have Q6h := blk_frozen Q00.out 0
            have Q6i := blk_frozen Q00.out 1
            have p118 : 0 ≤ (x13_2 : Int) := oT
            have q118 : x13_2 < (l1_1.length : Int) := oT
            obtain ⟨ad118, e118, hx118_0, hx118_1, hx118_2⟩ := at_T38 HR1_1.out x13_2 p118 q118
            cases e118
            replace hx118_0 := (HB.out.cell (World.block_lt_of_cell? w _ hx118_0)).trans hx118_0
            replace hx118_1 := (HB.out.cell (World.block_lt_of_cell? w _ hx118_1)).trans hx118_1
            replace hx118_2 := (HB.out.cell (World.block_lt_of_cell? w _ hx118_2)).trans hx118_2
            replace p118 := eq_true p118
            replace q118 := eq_true q118
            go_wp2_with (first | ((with_reducible refine gate_dst (N := 14) rfl ?_); (try (refine gate_guard (by rfl) ?_; dsimp only)); refine box_event ?hg (N := 14) ?hd (cs := #[.int .i64 0, .int .i64 0, .int .i64 0]) (t := 38) ?hr ?_; (case hd => rfl); (case hg => rfl); (case hr => first | (go_simp; done) | (go_simp; rfl)); intro Q0e hg w82 hbox hb; replace Q0d := uR Q0d hb; replace Q09 := gR Q09 Q0e hg hb; have Q0x := Aside0.mk (hbox); have Q6j := uS HB hg; have Q6k := uS HB hg; replace HB := uH HB hb; have Q1y := uL Q01 hg; have Q3x := uG Q01 hg; replace Q01 := uB Q01 hb; have Q1z := uL Q00 hg; have Q3y := uG Q00 hg; replace Q00 := uB Q00 hb; have Q20 := uL Q02 hg; have Q3z := uG Q02 hg; replace Q02 := uB Q02 hb; have Q21 := uL Q03 hg; have Q40 := uG Q03 hg; replace Q03 := uB Q03 hb; have Q22 := uL Q04 hg; have Q41 := uG Q04 hg; replace Q04 := uB Q04 hb; have Q23 := uL Q05 hg; have Q42 := uG Q05 hg; replace Q05 := uB Q05 hb; clear hb hbox hg; have Q6l := Q3x.out; have Q6m := Q1y.out; have Q6n := Q3y.out; have Q6o := Q1z.out; have Q6p := Q3z.out; have Q6q := Q20.out; have Q6r := Q40.out; have Q6s := Q21.out; have Q6t := Q41.out; have Q6u := Q22.out; have Q6v := Q42.out; have Q6w := Q23.out; have Q6x : w82.cell? ⟨Q0e, 0, none⟩ = some (.int .i64 0) := (blk_cell Q0x.out 0).trans rfl; have Q6y : w82.cell? ⟨Q0e, 1, none⟩ = some (.int .i64 0) := (blk_cell Q0x.out 1).trans rfl; have Q6z : w82.cell? ⟨Q0e, 2, none⟩ = some (.int .i64 0) := (blk_cell Q0x.out 2).trans rfl; have Q70 := blk_frozen Q0x.out 0; have Q71 := blk_frozen Q0x.out 1; have Q72 := blk_frozen Q0x.out 2; have Q73 := Q2s.out; have Q74 := Q1w.out; have Q75 := Q15.out; have Q76 := Q14.out; have Q77 := Q17.out; have Q78 := Q16.out; have Q79 := Q19.out; have Q7a := Q18.out; have Q7b : w82.cell? ⟨Q0a, 0, none⟩ = some (.slice Q0o y115.length Q0p) := (blk_cell Q05.out 0).trans rfl; have Q7c : w82.cell? ⟨Q0a, 1, none⟩ = some (u115001) := (blk_cell Q05.out 1).trans rfl; have Q7d := blk_frozen Q05.out 0; have Q7e := blk_frozen Q05.out 1) | ((with_reducible refine gate_builtin (b := .append) (xs := #[.tmp 75, .tmp 87]) rfl ?_); (try (refine gate_guard (by rfl) ?_; dsimp only)); at_builtin; refine Kd.R_append k38 (w0 := w) w.heap.size rfl (.tmp 75) (.tmp 87) 23 38 (.agg #[(.int .i64 0), (.int .i64 0), (.int .i64 0)]) 24 rfl Try.underlying23 info38 rfl (by decide) (by omega) u115001 x115001_2 (⟨(rd_T38 l1_1 x13_2).f0, wrap64 (((rd_T38 l1_1 x13_2).f1) + (l0_0.length : Int)), wrap64 (((rd_T38 l1_1 x13_2).f2) + (l0_0.length : Int))⟩ : S38) [.int .i64 ((rd_T38 l1_1 x13_2).f0), .int .i64 (wrap64 (((rd_T38 l1_1 x13_2).f1) + (l0_0.length : Int))), .int .i64 (wrap64 (((rd_T38 l1_1 x13_2).f2) + (l0_0.length : Int)))] (fun k_ => k_ ≠ Q0e) (fun _ => False) rfl (by first | (go_simp; done) | (go_simp; rfl)) ?aP (fun _ hk => hk.elim) ?aF ?aO ?aB ?aS ?aL ?_; (case aP => exact k38_mkM _ _ _ (⟨(rd_T38 l1_1 x13_2).f0, wrap64 (((rd_T38 l1_1 x13_2).f1) + (l0_0.length : Int)), wrap64 (((rd_T38 l1_1 x13_2).f2) + (l0_0.length : Int))⟩ : S38)); (case aB => exact (pH HB)); (case aF => exact (fun k_ hk => Kd.freshB (g := Q0e) (o := .cells #[.int .i64 ((rd_T38 l1_1 x13_2).f0), .int .i64 ((rd_T38 l1_1 x13_2).f1), .int .i64 ((rd_T38 l1_1 x13_2).f2)] 38 (0, 0)) (by (with_reducible repeat (first | refine bN ?_ _ | refine bD ?_ | refine bA ?_ _)); refine blk_put (cs := #[.int .i64 ((rd_T38 l1_1 x13_2).f0), .int .i64 ((rd_T38 l1_1 x13_2).f1), .int .i64 0]) ?_ 2 _ rfl; (with_reducible repeat (first | refine bN ?_ _ | refine bD ?_ | refine bA ?_ _)); refine blk_put (cs := #[.int .i64 ((rd_T38 l1_1 x13_2).f0), .int .i64 0, .int .i64 0]) ?_ 1 _ rfl; (with_reducible repeat (first | refine bN ?_ _ | refine bD ?_ | refine bA ?_ _)); refine blk_put (cs := #[.int .i64 0, .int .i64 0, .int .i64 0]) ?_ 0 _ rfl; (with_reducible repeat (first | refine bN ?_ _ | refine bD ?_ | refine bA ?_ _)); exact Q0x.out) k_ hk)); (case aO => exact (by (with_reducible repeat (first | apply rA | apply rN | apply rD)); exact Kd.R_mono (Kd.R_far (p := ⟨Q0e, 2, none⟩) (Kd.R_far (p := ⟨Q0e, 1, none⟩) (Kd.R_far (p := ⟨Q0e, 0, none⟩) (Kd.R_mono Q09.out (fun k_ hk => (⟨hk, hk.2⟩ : _ ∧ k_ ≠ Q0e))) (fun _ hk => hk.2) (.int .i64 ((rd_T38 l1_1 x13_2).f0))) (fun _ hk => hk.2) (.int .i64 ((rd_T38 l1_1 x13_2).f1))) (fun _ hk => hk.2) (.int .i64 ((rd_T38 l1_1 x13_2).f2))) (fun _ hk => hk.1.2))); (case aS => exact (below_size (pH HB))); (case aL => have := LMc75.out; omega); intro v121 w95 ho hb hg hat; rw [← Ny120.out] at ho; replace Q0d := Aside0.mk (Kd.R_over' (by (with_reducible repeat (first | apply rA | apply rN | apply rD)); exact (Kd.R_mono (Kd.R_far (p := ⟨Q0e, 2, none⟩) (Kd.R_far (p := ⟨Q0e, 1, none⟩) (Kd.R_far (p := ⟨Q0e, 0, none⟩) (Kd.R_types Q0d.out Q0x.out (by decide)) (fun _ hk => hk.2) (.int .i64 ((rd_T38 l1_1 x13_2).f0))) (fun _ hk => hk.2) (.int .i64 ((rd_T38 l1_1 x13_2).f1))) (fun _ hk => hk.2) (.int .i64 ((rd_T38 l1_1 x13_2).f2))) (fun _ h_ => h_.1))) (Kd.R_typed (by (with_reducible repeat (first | apply rA | apply rN | apply rD)); exact (Kd.R_mono (Kd.R_far (p := ⟨Q0e, 2, none⟩) (Kd.R_far (p := ⟨Q0e, 1, none⟩) (Kd.R_far (p := ⟨Q0e, 0, none⟩) (Kd.R_mono Q09.out (fun k_ hk => (⟨hk, hk.2⟩ : _ ∧ k_ ≠ Q0e))) (fun _ hk => hk.2) (.int .i64 ((rd_T38 l1_1 x13_2).f0))) (fun _ hk => hk.2) (.int .i64 ((rd_T38 l1_1 x13_2).f1))) (fun _ hk => hk.2) (.int .i64 ((rd_T38 l1_1 x13_2).f2))) (fun _ h_ => h_.1)))) (by decide) hg); replace Q01 := Aside0.mk (bG (g := Q0b) (o := .cells #[.slice A0_0 l0_0.length c0_0, .slice A0_1 l0_1.length c0_1] 25 (0, 0)) (by (with_reducible repeat (first | refine bN ?_ _ | refine bD ?_ | refine bA ?_ _)); refine blk_far ?_ Q1y.out _; (with_reducible repeat (first | refine bN ?_ _ | refine bD ?_ | refine bA ?_ _)); refine blk_far ?_ Q1y.out _; (with_reducible repeat (first | refine bN ?_ _ | refine bD ?_ | refine bA ?_ _)); refine blk_far ?_ Q1y.out _; (with_reducible repeat (first | refine bN ?_ _ | refine bD ?_ | refine bA ?_ _)); exact Q01.out) hg (Kd.R_ne Q09.out Q01.out (by decide))); replace Q00 := Aside0.mk (bG (g := Q0c) (o := .cells #[.slice A1_0 l1_0.length c1_0, .slice (some ad118) l1_1.length c1_1] 25 (0, 0)) (by (with_reducible repeat (first | refine bN ?_ _ | refine bD ?_ | refine bA ?_ _)); refine blk_far ?_ Q1z.out _; (with_reducible repeat (first | refine bN ?_ _ | refine bD ?_ | refine bA ?_ _)); refine blk_far ?_ Q1z.out _; (with_reducible repeat (first | refine bN ?_ _ | refine bD ?_ | refine bA ?_ _)); refine blk_far ?_ Q1z.out _; (with_reducible repeat (first | refine bN ?_ _ | refine bD ?_ | refine bA ?_ _)); exact Q00.out) hg (Kd.R_ne Q09.out Q00.out (by decide))); replace Q02 := Aside0.mk (bG (g := Q06) (o := .cells #[.slice none 0 0, .slice none 0 0] 25 (0, 0)) (by (with_reducible repeat (first | refine bN ?_ _ | refine bD ?_ | refine bA ?_ _)); refine blk_far ?_ Q20.out _; (with_reducible repeat (first | refine bN ?_ _ | refine bD ?_ | refine bA ?_ _)); refine blk_far ?_ Q20.out _; (with_reducible repeat (first | refine bN ?_ _ | refine bD ?_ | refine bA ?_ _)); refine blk_far ?_ Q20.out _; (with_reducible repeat (first | refine bN ?_ _ | refine bD ?_ | refine bA ?_ _)); exact Q02.out) hg (Kd.R_ne Q09.out Q02.out (by decide))); replace Q03 := Aside0.mk (bG (g := Q07) (o := .cells #[.slice none 0 0, .slice none 0 0] 29 (0, 0)) (by (with_reducible repeat (first | refine bN ?_ _ | refine bD ?_ | refine bA ?_ _)); refine blk_far ?_ Q21.out _; (with_reducible repeat (first | refine bN ?_ _ | refine bD ?_ | refine bA ?_ _)); refine blk_far ?_ Q21.out _; (with_reducible repeat (first | refine bN ?_ _ | refine bD ?_ | refine bA ?_ _)); refine blk_far ?_ Q21.out _; (with_reducible repeat (first | refine bN ?_ _ | refine bD ?_ | refine bA ?_ _)); exact Q03.out) hg (Kd.R_ne Q09.out Q03.out (by decide))); replace Q04 := Aside0.mk (bG (g := Q08) (o := .cells #[.slice none 0 0, .slice none 0 0] 29 (0, 0)) (by (with_reducible repeat (first | refine bN ?_ _ | refine bD ?_ | refine bA ?_ _)); refine blk_far ?_ Q22.out _; (with_reducible repeat (first | refine bN ?_ _ | refine bD ?_ | refine bA ?_ _)); refine blk_far ?_ Q22.out _; (with_reducible repeat (first | refine bN ?_ _ | refine bD ?_ | refine bA ?_ _)); refine blk_far ?_ Q22.out _; (with_reducible repeat (first | refine bN ?_ _ | refine bD ?_ | refine bA ?_ _)); exact Q04.out) hg (Kd.R_ne Q09.out Q04.out (by decide))); replace Q05 := Aside0.mk (bG (g := Q0a) (o := .cells #[.slice Q0o y115.length Q0p, u115001] 25 (0, 0)) (by (with_reducible repeat (first | refine bN ?_ _ | refine bD ?_ | refine bA ?_ _)); refine blk_far ?_ Q23.out _; (with_reducible repeat (first | refine bN ?_ _ | refine bD ?_ | refine bA ?_ _)); refine blk_far ?_ Q23.out _; (with_reducible repeat (first | refine bN ?_ _ | refine bD ?_ | refine bA ?_ _)); refine blk_far ?_ Q23.out _; (with_reducible repeat (first | refine bN ?_ _ | refine bD ?_ | refine bA ?_ _)); exact Q05.out) hg (Kd.R_ne Q09.out Q05.out (by decide))); replace Q0x := Aside0.mk (bG (g := Q0e) (o := .cells #[.int .i64 ((rd_T38 l1_1 x13_2).f0), .int .i64 ((rd_T38 l1_1 x13_2).f1), .int .i64 ((rd_T38 l1_1 x13_2).f2)] 38 (0, 0)) (by (with_reducible repeat (first | refine bN ?_ _ | refine bD ?_ | refine bA ?_ _)); refine blk_put (cs := #[.int .i64 ((rd_T38 l1_1 x13_2).f0), .int .i64 ((rd_T38 l1_1 x13_2).f1), .int .i64 0]) ?_ 2 _ rfl; (with_reducible repeat (first | refine bN ?_ _ | refine bD ?_ | refine bA ?_ _)); refine blk_put (cs := #[.int .i64 ((rd_T38 l1_1 x13_2).f0), .int .i64 0, .int .i64 0]) ?_ 1 _ rfl; (with_reducible repeat (first | refine bN ?_ _ | refine bD ?_ | refine bA ?_ _)); refine blk_put (cs := #[.int .i64 0, .int .i64 0, .int .i64 0]) ?_ 0 _ rfl; (with_reducible repeat (first | refine bN ?_ _ | refine bD ?_ | refine bA ?_ _)); exact Q0x.out) hg (Kd.R_away Q09.out (fun _ hk => hk.2))); replace HB := Aside0.mk (hb); have Q2u := Aside0.mk (ho); clear Q09; clear ho hb hg hat; obtain ⟨Q25, Q26, Q43⟩ := Kd.R_slice Q2u.out; subst Q43; have Q7f : w95.cell? ⟨Q0a, 0, none⟩ = some (.slice Q0o y115.length Q0p) := (blk_cell Q05.out 0).trans rfl; have Q7g : w95.cell? ⟨Q0a, 1, none⟩ = some (u115001) := (blk_cell Q05.out 1).trans rfl; have Q7h := blk_frozen Q05.out 0; have Q7i := blk_frozen Q05.out 1))
            go_roundg k2
            case measure => have := HJ6.out; have := HK2.out; omega
            case rel => exact ⟨(wrap64 (x13_2 + 1)), (y120), (.slice Q25 y120.length Q26), rS, H', ⟨by have := HJ6.out; have := HK2.out; omega⟩, ⟨by (with_reducible repeat (first | apply rA | apply rN | apply rD)); exact Kd.R_mono (Kd.R_far (p := ⟨Q0a, 1, none⟩) (Kd.R_types Q0d.out Q05.out (by decide)) (fun _ hk => hk.2) (.slice Q25 y120.length Q26)) (fun _ hk => trivial)⟩, ⟨by (with_reducible repeat (first | apply rA | apply rN | apply rD)); exact Kd.R_mono (Kd.R_far (p := ⟨Q0a, 1, none⟩) (Kd.R_types Q2u.out Q05.out (by decide)) (fun _ hk => hk.2) (.slice Q25 y120.length Q26)) (fun _ hk => trivial)⟩, ⟨by (with_reducible repeat (first | refine bN ?_ _ | refine bD ?_ | refine bA ?_ _)); refine blk_far ?_ Q1w.out _; (with_reducible repeat (first | refine bN ?_ _ | refine bD ?_ | refine bA ?_ _)); exact Q01.out⟩, ⟨by (with_reducible repeat (first | refine bN ?_ _ | refine bD ?_ | refine bA ?_ _)); refine blk_far ?_ Q1h.out _; (with_reducible repeat (first | refine bN ?_ _ | refine bD ?_ | refine bA ?_ _)); exact Q00.out⟩, ⟨by (with_reducible repeat (first | refine bN ?_ _ | refine bD ?_ | refine bA ?_ _)); refine blk_far ?_ Q14.out _; (with_reducible repeat (first | refine bN ?_ _ | refine bD ?_ | refine bA ?_ _)); exact Q02.out⟩, ⟨by (with_reducible repeat (first | refine bN ?_ _ | refine bD ?_ | refine bA ?_ _)); refine blk_far ?_ Q16.out _; (with_reducible repeat (first | refine bN ?_ _ | refine bD ?_ | refine bA ?_ _)); exact Q03.out⟩, ⟨by (with_reducible repeat (first | refine bN ?_ _ | refine bD ?_ | refine bA ?_ _)); refine blk_far ?_ Q18.out _; (with_reducible repeat (first | refine bN ?_ _ | refine bD ?_ | refine bA ?_ _)); exact Q04.out⟩, ⟨by (with_reducible repeat (first | refine bN ?_ _ | refine bD ?_ | refine bA ?_ _)); refine blk_put (cs := #[.slice Q0o y115.length Q0p, u115001]) ?_ 1 _ rfl; (with_reducible repeat (first | refine bN ?_ _ | refine bD ?_ | refine bA ?_ _)); exact Q05.out⟩, ⟨pH HB⟩⟩
           ·rw [if_neg c75] at H
            exact absurd H (by simp)
          ·rw [if_neg c74] at H
           exact absurd H (by simp)
         ·rw [if_neg c73] at H
          have c73b0 : decide (x13_2 < (l1_1.length : Int)) = false := decide_eq_false c73
          clear c73
          replace H := Option.bind_eq_some_iff.mp H
          obtain ⟨t123, A980, H⟩ := H
          replace H : ((scarfjointref05_Numbers.f k2 0 (l0_1.length : Int)).bind fun t126 => ((scarfjointref05_Numbers.f k2 (l0_0.length : Int) (l1_0.length : Int)).bind fun t129 => ((scarfjointref05_Numbers.f k2 (l0_1.length : Int) (l1_1.length : Int)).bind fun t132 => (some (y115, x115001_2, t123, t126, t129, t132, 0))))) = some (r1, r2, r3, r4, r5, r6, r7) := H
          have A98 := Aside0.mk A980
          clear A980
          replace H := Option.bind_eq_some_iff.mp H
          obtain ⟨t126, A990, H⟩ := H
          replace H : ((scarfjointref05_Numbers.f k2 (l0_0.length : Int) (l1_0.length : Int)).bind fun t129 => ((scarfjointref05_Numbers.f k2 (l0_1.length : Int) (l1_1.length : Int)).bind fun t132 => (some (y115, x115001_2, t123, t126, t129, t132, 0)))) = some (r1, r2, r3, r4, r5, r6, r7) := H
          have A99 := Aside0.mk A990
          clear A990
          replace H := Option.bind_eq_some_iff.mp H
          obtain ⟨t129, A1000, H⟩ := H
          replace H : ((scarfjointref05_Numbers.f k2 (l0_1.length : Int) (l1_1.length : Int)).bind fun t132 => (some (y115, x115001_2, t123, t126, t129, t132, 0))) = some (r1, r2, r3, r4, r5, r6, r7) := H
          have A100 := Aside0.mk A1000
          clear A1000
          replace H := Option.bind_eq_some_iff.mp H
          obtain ⟨t132, A1010, H⟩ := H
          replace H : (some (y115, x115001_2, t123, t126, t129, t132, 0)) = some (r1, r2, r3, r4, r5, r6, r7) := H
          have A101 := Aside0.mk A1010
          clear A1010
          simp only [Option.some.injEq, Prod.mk.injEq] at H
          obtain ⟨rfl, rfl, rfl, rfl, rfl, rfl, rfl⟩ := H
          have Q7j := Q0w.out
          have Q7k := Q0v.out
          have Q7l := Q0f.out
          have Q7m := Q0q.out
          have Q7n := Q0g.out
          have Q7o := Q0r.out
          have Q7p := Q0j.out
          have Q7q := Q0s.out
          have Q7r := Q1h.out
          have Q7s := Q24.out
          have Q7t : wr.cell? ⟨Q0c, 0, none⟩ = some (.slice A1_0 l1_0.length c1_0) := (blk_cell Q00.out 0).trans rfl
          have Q7u : wr.cell? ⟨Q0c, 1, none⟩ = some (.slice A1_1 l1_1.length c1_1) := (blk_cell Q00.out 1).trans rfl
          have Q7v := blk_frozen Q00.out 0
          have Q7w := blk_frozen Q00.out 1
          try go_wp2
          replace Q0d := Aside0.mk (rD Q0d.out)
          replace Q09 := Aside0.mk (rD Q09.out)
          replace Q01 := Aside0.mk (bD Q01.out)
          replace Q00 := Aside0.mk (bD Q00.out)
          replace Q02 := Aside0.mk (bD Q02.out)
          replace Q03 := Aside0.mk (bD Q03.out)
          replace Q04 := Aside0.mk (bD Q04.out)
          replace Q05 := Aside0.mk (bD Q05.out)
          replace HB := Aside0.mk (wD HB.out)
          refine start_ (n := 21) (S := fun w' => w'.cell? ⟨Q0a, 0, none⟩ = some (.slice Q0o y115.length Q0p) ∧ w'.cell? ⟨Q0a, 1, none⟩ = some (u115001) ∧ w'.cell? ⟨Q0c, 0, none⟩ = some (.slice A1_0 l1_0.length c1_0) ∧ w'.cell? ⟨Q0c, 1, none⟩ = some (.slice A1_1 l1_1.length c1_1)) (ds := []) #[false, false, false, false, false, false, false, false, false, false, false, false, false, false, false, false, false, false, false, false, false] (by kernel_rfl) rfl rfl ⟨(blk_cell Q05.out 0).trans rfl, (blk_cell Q05.out 1).trans rfl, (blk_cell Q00.out 0).trans rfl, (blk_cell Q00.out 1).trans rfl⟩ (fun hHeld => ?_); refine with_tabW scarfjointref05_Union.tab17 scarfjointref05_Union.bits17 (fun HT_ HW_ => ?_)
          generalize wr.drew = w108 at Q0d Q09 Q01 Q00 Q02 Q03 Q04 Q05 HB hHeld ⊢
          refine pure_ (i := 1) (N := some 91) (v := ?_) (a' := ?_) #[false, true, false, false, false, false, false, false, false, false, false, false, false, false, false, false, false, false, false, false, false] rfl rfl (any_of HT_.out (by kernel_rfl)) (fun _ _ _ h => h) (Or.inl ⟨by rfl, ?_⟩) ?_ ?_
          rotate_left
          ·intro w'
           go_simp
           with_reducible rfl
          rotate_left
          ·simp only [Act.put, List.setIfInBounds_toArray, List.set_cons_zero, List.set_cons_succ, i64_w, i32_w]
           rfl
          refine pure_ (i := 3) (N := some 93) (v := ?_) (a' := ?_) #[false, true, false, true, false, false, false, false, false, false, false, false, false, false, false, false, false, false, false, false, false] rfl rfl (any_of HT_.out (by kernel_rfl)) (fun _ _ _ h => h) (Or.inl ⟨by rfl, ?_⟩) ?_ ?_
          rotate_left
          ·intro w'
           go_simp
           with_reducible rfl
          rotate_left
          ·simp only [Act.put, List.setIfInBounds_toArray, List.set_cons_zero, List.set_cons_succ, i64_w, i32_w]
           rfl
          refine pure_ (i := 6) (N := some 96) (v := ?_) (a' := ?_) #[false, true, false, true, false, false, true, false, false, false, false, false, false, false, false, false, false, false, false, false, false] rfl rfl (any_of HT_.out (by kernel_rfl)) (fun _ _ _ h => h) (Or.inl ⟨by rfl, ?_⟩) ?_ ?_
          rotate_left
          ·intro w'
           go_simp
           with_reducible rfl
          rotate_left
          ·simp only [Act.put, List.setIfInBounds_toArray, List.set_cons_zero, List.set_cons_succ, i64_w, i32_w]
           rfl
          refine pure_ (i := 7) (N := some 97) (v := ?_) (a' := ?_) #[false, true, false, true, false, false, true, true, false, false, false, false, false, false, false, false, false, false, false, false, false] rfl rfl (any_of HT_.out (by kernel_rfl)) (fun _ _ _ h => h) (Or.inl ⟨by rfl, ?_⟩) ?_ ?_
          rotate_left
          ·intro w'
           go_simp
           with_reducible rfl
          rotate_left
          ·simp only [Act.put, List.setIfInBounds_toArray, List.set_cons_zero, List.set_cons_succ, i64_w, i32_w]
           rfl
          refine pure_ (i := 11) (N := some 101) (v := ?_) (a' := ?_) #[false, true, false, true, false, false, true, true, false, false, false, true, false, false, false, false, false, false, false, false, false] rfl rfl (any_of HT_.out (by kernel_rfl)) (fun _ _ _ h => h) (Or.inl ⟨by rfl, ?_⟩) ?_ ?_
          rotate_left
          ·intro w'
           go_simp
           with_reducible rfl
          rotate_left
          ·simp only [Act.put, List.setIfInBounds_toArray, List.set_cons_zero, List.set_cons_succ, i64_w, i32_w]
           rfl
          refine pure_ (i := 12) (N := some 102) (v := ?_) (a' := ?_) #[false, true, false, true, false, false, true, true, false, false, false, true, true, false, false, false, false, false, false, false, false] rfl rfl (any_of HT_.out (by kernel_rfl)) (fun _ _ _ h => h) (Or.inl ⟨by rfl, ?_⟩) ?_ ?_
          rotate_left
          ·intro w'
           go_simp
           with_reducible rfl
          rotate_left
          ·simp only [Act.put, List.setIfInBounds_toArray, List.set_cons_zero, List.set_cons_succ, i64_w, i32_w]
           rfl
          refine take_ (i := 0) (N := some 90) (v := ?_) (a' := ?_) #[true, true, false, true, false, false, true, true, false, false, false, true, true, false, false, false, false, false, false, false, false] rfl rfl (take_ofW HT_.out HW_.out (by kernel_rfl)) (fun _ _ _ h => h) (Or.inl ⟨by rfl, ?_⟩) hHeld ?_ ?_
          rotate_left
          ·rintro w' ⟨s0, s1, s2, s3⟩
           go_simp
           with_reducible rfl
          rotate_left
          ·simp only [Act.put, List.setIfInBounds_toArray, List.set_cons_zero, List.set_cons_succ, i64_w, i32_w]
           rfl
          refine take_ (i := 8) (N := some 98) (v := ?_) (a' := ?_) #[true, true, false, true, false, false, true, true, true, false, false, true, true, false, false, false, false, false, false, false, false] rfl rfl (take_ofW HT_.out HW_.out (by kernel_rfl)) (fun _ _ _ h => h) (Or.inl ⟨by rfl, ?_⟩) hHeld ?_ ?_
          rotate_left
          ·rintro w' ⟨s0, s1, s2, s3⟩
           go_simp
           with_reducible rfl
          rotate_left
          ·simp only [Act.put, List.setIfInBounds_toArray, List.set_cons_zero, List.set_cons_succ, i64_w, i32_w]
           rfl
          refine pure_ (i := 9) (N := some 99) (v := ?_) (a' := ?_) #[true, true, false, true, false, false, true, true, true, true, false, true, true, false, false, false, false, false, false, false, false] rfl rfl (any_of HT_.out (by kernel_rfl)) (fun _ _ _ h => h) (Or.inl ⟨by rfl, ?_⟩) ?_ ?_
          rotate_left
          ·intro w'
           go_simp
           with_reducible rfl
          rotate_left
          ·simp only [Act.put, List.setIfInBounds_toArray, List.set_cons_zero, List.set_cons_succ, i64_w, i32_w]
           rfl
          refine take_ (i := 13) (N := some 103) (v := ?_) (a' := ?_) #[true, true, false, true, false, false, true, true, true, true, false, true, true, true, false, false, false, false, false, false, false] rfl rfl (take_ofW HT_.out HW_.out (by kernel_rfl)) (fun _ _ _ h => h) (Or.inl ⟨by rfl, ?_⟩) hHeld ?_ ?_
          rotate_left
          ·rintro w' ⟨s0, s1, s2, s3⟩
           go_simp
           with_reducible rfl
          rotate_left
          ·simp only [Act.put, List.setIfInBounds_toArray, List.set_cons_zero, List.set_cons_succ, i64_w, i32_w]
           rfl
          refine pure_ (i := 14) (N := some 104) (v := ?_) (a' := ?_) #[true, true, false, true, false, false, true, true, true, true, false, true, true, true, true, false, false, false, false, false, false] rfl rfl (any_of HT_.out (by kernel_rfl)) (fun _ _ _ h => h) (Or.inl ⟨by rfl, ?_⟩) ?_ ?_
          rotate_left
          ·intro w'
           go_simp
           with_reducible rfl
          rotate_left
          ·simp only [Act.put, List.setIfInBounds_toArray, List.set_cons_zero, List.set_cons_succ, i64_w, i32_w]
           rfl
          refine one_ (i := 2) (N := some 92) #[true, true, true, true, false, false, true, true, true, true, false, true, true, true, true, false, false, false, false, false, false] rfl rfl (one_of HT_.out (by kernel_rfl)) (by decide) (fun K hK => ?_)
          refine goes_ Try.func37 (by kernel_rfl) rfl #[.int .i64 0, .int .i64 (l0_0.length : Int)] (by rfl) rfl rfl aM ?_
          with_reducible refine (scarfjointref05_Numbers.calls k2 0 (l0_0.length : Int) t123 _ A98.out).mono ?_
          rintro e w109 ⟨v124, rfl, ho0, hb⟩
          refine ⟨_, rfl, ?_⟩
          replace Q09 := uR Q09 hb
          have Q0u := Aside0.mk (Kd.R_lower (Kd.R_new' ho0 (Kd.R_lt (pR Q0d))) (below_size (pH HB)))
          replace Q0d := eR Q0d (Kd.R_base ho0) hb
          replace Q01 := uB Q01 hb
          replace Q00 := uB Q00 hb
          replace Q02 := uB Q02 hb
          replace Q03 := uB Q03 hb
          replace Q04 := uB Q04 hb
          replace Q05 := uB Q05 hb
          replace HB := uH HB hb
          (try clear hb)
          (try clear hb2)
          (try clear hk)
          (try clear hi)
          (try clear ho0)
          refine hK.out _ _ ⟨(blk_cell Q05.out 0).trans rfl, (blk_cell Q05.out 1).trans rfl, (blk_cell Q00.out 0).trans rfl, (blk_cell Q00.out 1).trans rfl⟩ (fun hHeld => ?_)
          clear hK K
          refine norm_ (a' := ?_) ?_ ?_
          rotate_left
          ·show Act.put _ (some 92) _ = _
           simp only [Act.put, List.setIfInBounds_toArray, List.set_cons_zero, List.set_cons_succ, i64_w, i32_w]
           rfl
          refine one_ (i := 4) (N := some 94) #[true, true, true, true, true, false, true, true, true, true, false, true, true, true, true, false, false, false, false, false, false] rfl rfl (one_of HT_.out (by kernel_rfl)) (by decide) (fun K hK => ?_)
          refine goes_ Try.func37 (by kernel_rfl) rfl #[.int .i64 0, .int .i64 (l0_1.length : Int)] (by rfl) rfl rfl aM ?_
          with_reducible refine (scarfjointref05_Numbers.calls k2 0 (l0_1.length : Int) t126 _ A99.out).mono ?_
          rintro e w110 ⟨v127, rfl, ho0, hb⟩
          refine ⟨_, rfl, ?_⟩
          replace Q09 := uR Q09 hb
          have Q1c := Aside0.mk (Kd.R_lower (Kd.R_new' (Kd.R_new' ho0 (Kd.R_lt (pR Q0d))) (Kd.R_lt (pR Q0u))) (below_size (pH HB)))
          replace Q0d := eR Q0d (Kd.R_base ho0) hb
          replace Q0u := eR Q0u (Kd.R_base ho0) hb
          replace Q01 := uB Q01 hb
          replace Q00 := uB Q00 hb
          replace Q02 := uB Q02 hb
          replace Q03 := uB Q03 hb
          replace Q04 := uB Q04 hb
          replace Q05 := uB Q05 hb
          replace HB := uH HB hb
          (try clear hb)
          (try clear hb2)
          (try clear hk)
          (try clear hi)
          (try clear ho0)
          obtain ⟨Q1k, Q1l, Q2v⟩ := Kd.R_slice Q1c.out
          (first | subst Q2v | (injection Q2v with f1_ f2_ f3_; have f4_ := f1_.symm; have f5_ := f3_.symm; clear f1_ f2_ f3_; subst f4_; subst f5_))
          obtain ⟨Q1d, Q1e, Q2w⟩ := Kd.R_slice Q0u.out
          (first | subst Q2w | (injection Q2w with f1_ f2_ f3_; have f4_ := f1_.symm; have f5_ := f3_.symm; clear f1_ f2_ f3_; subst f4_; subst f5_))
          refine hK.out _ _ ⟨(blk_cell Q05.out 0).trans rfl, (blk_cell Q05.out 1).trans rfl, (blk_cell Q00.out 0).trans rfl, (blk_cell Q00.out 1).trans rfl⟩ (fun hHeld => ?_)
          clear hK K
          refine norm_ (a' := ?_) ?_ ?_
          rotate_left
          ·show Act.put _ (some 94) _ = _
           simp only [Act.put, List.setIfInBounds_toArray, List.set_cons_zero, List.set_cons_succ, i64_w, i32_w]
           rfl
          refine pure_ (i := 5) (N := some 95) (v := ?_) (a' := ?_) #[true, true, true, true, true, true, true, true, true, true, false, true, true, true, true, false, false, false, false, false, false] rfl rfl (any_of HT_.out (by kernel_rfl)) (fun _ _ _ h => h) (Or.inl ⟨by rfl, ?_⟩) ?_ ?_
          rotate_left
          ·intro w'
           go_simp
           with_reducible rfl
          rotate_left
          ·simp only [Act.put, List.setIfInBounds_toArray, List.set_cons_zero, List.set_cons_succ, i64_w, i32_w]
           rfl
          refine one_ (i := 10) (N := some 100) #[true, true, true, true, true, true, true, true, true, true, true, true, true, true, true, false, false, false, false, false, false] rfl rfl (one_of HT_.out (by kernel_rfl)) (by decide) (fun K hK => ?_)
          refine goes_ Try.func37 (by kernel_rfl) rfl #[.int .i64 (l0_0.length : Int), .int .i64 (l1_0.length : Int)] (by rfl) rfl rfl aM ?_
          with_reducible refine (scarfjointref05_Numbers.calls k2 (l0_0.length : Int) (l1_0.length : Int) t129 _ A100.out).mono ?_
          rintro e w113 ⟨v130, rfl, ho0, hb⟩
          refine ⟨_, rfl, ?_⟩
          replace Q09 := uR Q09 hb
          have Q1x := Aside0.mk (Kd.R_lower (Kd.R_new' (Kd.R_new' (Kd.R_new' ho0 (Kd.R_lt (pR Q0d))) (Kd.R_lt (pR Q0u))) (Kd.R_lt (pR Q1c))) (below_size (pH HB)))
          replace Q0d := eR Q0d (Kd.R_base ho0) hb
          replace Q0u := eR Q0u (Kd.R_base ho0) hb
          replace Q1c := eR Q1c (Kd.R_base ho0) hb
          replace Q01 := uB Q01 hb
          replace Q00 := uB Q00 hb
          replace Q02 := uB Q02 hb
          replace Q03 := uB Q03 hb
          replace Q04 := uB Q04 hb
          replace Q05 := uB Q05 hb
          replace HB := uH HB hb
          (try clear hb)
          (try clear hb2)
          (try clear hk)
          (try clear hi)
          (try clear ho0)
          refine hK.out _ _ ⟨(blk_cell Q05.out 0).trans rfl, (blk_cell Q05.out 1).trans rfl, (blk_cell Q00.out 0).trans rfl, (blk_cell Q00.out 1).trans rfl⟩ (fun hHeld => ?_)
          clear hK K
          refine norm_ (a' := ?_) ?_ ?_
          rotate_left
          ·show Act.put _ (some 100) _ = _
           simp only [Act.put, List.setIfInBounds_toArray, List.set_cons_zero, List.set_cons_succ, i64_w, i32_w]
           rfl
          refine one_ (i := 15) (N := some 105) #[true, true, true, true, true, true, true, true, true, true, true, true, true, true, true, true, false, false, false, false, false] rfl rfl (one_of HT_.out (by kernel_rfl)) (by decide) (fun K hK => ?_)
          refine goes_ Try.func37 (by kernel_rfl) rfl #[.int .i64 (l0_1.length : Int), .int .i64 (l1_1.length : Int)] (by rfl) rfl rfl aM ?_
          with_reducible refine (scarfjointref05_Numbers.calls k2 (l0_1.length : Int) (l1_1.length : Int) t132 _ A101.out).mono ?_
          rintro e w114 ⟨v133, rfl, ho0, hb⟩
          refine ⟨_, rfl, ?_⟩
          replace Q09 := uR Q09 hb
          have Q2x := Aside0.mk (Kd.R_lower (Kd.R_new' (Kd.R_new' (Kd.R_new' (Kd.R_new' ho0 (Kd.R_lt (pR Q0d))) (Kd.R_lt (pR Q0u))) (Kd.R_lt (pR Q1c))) (Kd.R_lt (pR Q1x))) (below_size (pH HB)))
          replace Q0d := eR Q0d (Kd.R_base ho0) hb
          replace Q0u := eR Q0u (Kd.R_base ho0) hb
          replace Q1c := eR Q1c (Kd.R_base ho0) hb
          replace Q1x := eR Q1x (Kd.R_base ho0) hb
          replace Q01 := uB Q01 hb
          replace Q00 := uB Q00 hb
          replace Q02 := uB Q02 hb
          replace Q03 := uB Q03 hb
          replace Q04 := uB Q04 hb
          replace Q05 := uB Q05 hb
          replace HB := uH HB hb
          (try clear hb)
          (try clear hb2)
          (try clear hk)
          (try clear hi)
          (try clear ho0)
          obtain ⟨Q1m, Q1n, Q2y⟩ := Kd.R_slice Q2x.out
          (first | subst Q2y | (injection Q2y with f1_ f2_ f3_; have f4_ := f1_.symm; have f5_ := f3_.symm; clear f1_ f2_ f3_; subst f4_; subst f5_))
          obtain ⟨Q1f, Q1g, Q2z⟩ := Kd.R_slice Q1x.out
          (first | subst Q2z | (injection Q2z with f1_ f2_ f3_; have f4_ := f1_.symm; have f5_ := f3_.symm; clear f1_ f2_ f3_; subst f4_; subst f5_))
          obtain ⟨Q1o, Q1p, Q30⟩ := Kd.R_slice Q09.out
          (first | subst Q30 | (injection Q30 with f1_ f2_ f3_; have f4_ := f1_.symm; have f5_ := f3_.symm; clear f1_ f2_ f3_; subst f4_; subst f5_))
          refine hK.out _ _ ⟨(blk_cell Q05.out 0).trans rfl, (blk_cell Q05.out 1).trans rfl, (blk_cell Q00.out 0).trans rfl, (blk_cell Q00.out 1).trans rfl⟩ (fun hHeld => ?_)
          clear hK K
          refine norm_ (a' := ?_) ?_ ?_
          rotate_left
          ·show Act.put _ (some 105) _ = _
           simp only [Act.put, List.setIfInBounds_toArray, List.set_cons_zero, List.set_cons_succ, i64_w, i32_w]
           rfl
          refine pure_ (i := 16) (N := some 106) (v := ?_) (a' := ?_) #[true, true, true, true, true, true, true, true, true, true, true, true, true, true, true, true, true, false, false, false, false] rfl rfl (any_of HT_.out (by kernel_rfl)) (fun _ _ _ h => h) (Or.inl ⟨by rfl, ?_⟩) ?_ ?_
          rotate_left
          ·intro w'
           go_simp
           with_reducible rfl
          rotate_left
          ·simp only [Act.put, List.setIfInBounds_toArray, List.set_cons_zero, List.set_cons_succ, i64_w, i32_w]
           rfl
          refine one_ (i := 17) (N := none) #[true, true, true, true, true, true, true, true, true, true, true, true, true, true, true, true, true, true, false, false, false] rfl rfl (one_of HT_.out (by kernel_rfl)) (by decide) (fun K hK => ?_)
          have Q7x : w114.cell? ⟨Q06, 0, none⟩ = some (.slice none 0 0) := (blk_cell Q02.out 0).trans rfl
          have Q7y := blk_frozen Q02.out 0
          have Q7z := Q0y.out
          have Q80 := Q0f.out
          have Q81 := Q0i.out
          have Q82 := Q0l.out
          have Q83 := Q15.out
          have Q84 := Q0z.out
          have Q85 := Q0q.out
          have Q86 := Q0h.out
          have Q87 := Q0k.out
          have Q88 := Q14.out
          have Q89 : w114.cell? ⟨Q06, 1, none⟩ = some (.slice none 0 0) := (blk_cell Q02.out 1).trans rfl
          have Q8a := blk_frozen Q02.out 1
          have Q8b := Q0y.out
          have Q8c := Q0f.out
          have Q8d := Q0i.out
          have Q8e := Q0l.out
          have Q8f := Q15.out
          have Q8g := Q0z.out
          have Q8h := Q0q.out
          have Q8i := Q0h.out
          have Q8j := Q0k.out
          have Q8k := Q14.out
          refine skip_ (w1 := ?_) (by rfl) rfl ?_ ?_
          rotate_left
          ·go_simp
           rfl
          refine hK.out _ _ ⟨((cell_far (p := ⟨Q06, _, none⟩) Q15.out _).trans (((cell_far (p := ⟨Q06, _, none⟩) Q15.out _).trans (hHeld.1)))), ((cell_far (p := ⟨Q06, _, none⟩) Q15.out _).trans (((cell_far (p := ⟨Q06, _, none⟩) Q15.out _).trans (hHeld.2.1)))), ((cell_far (p := ⟨Q06, _, none⟩) Q0f.out _).trans (((cell_far (p := ⟨Q06, _, none⟩) Q0f.out _).trans (hHeld.2.2.1)))), ((cell_far (p := ⟨Q06, _, none⟩) Q0f.out _).trans (((cell_far (p := ⟨Q06, _, none⟩) Q0f.out _).trans (hHeld.2.2.2))))⟩ (fun hHeld => ?_)
          clear hK K
          refine one_ (i := 18) (N := none) #[true, true, true, true, true, true, true, true, true, true, true, true, true, true, true, true, true, true, true, false, false] rfl rfl (one_of HT_.out (by kernel_rfl)) (by decide) (fun K hK => ?_)
          have Q8l : w114.cell? ⟨Q07, 0, none⟩ = some (.slice none 0 0) := (blk_cell Q03.out 0).trans rfl
          have Q8m := blk_frozen Q03.out 0
          have Q8n := Q10.out
          have Q8o := Q0g.out
          have Q8p := Q0h.out
          have Q8q := Q0n.out
          have Q8r := Q17.out
          have Q8s := Q11.out
          have Q8t := Q0r.out
          have Q8u := Q0i.out
          have Q8v := Q0m.out
          have Q8w := Q16.out
          have Q8x : w114.cell? ⟨Q07, 1, none⟩ = some (.slice none 0 0) := (blk_cell Q03.out 1).trans rfl
          have Q8y := blk_frozen Q03.out 1
          have Q8z := Q10.out
          have Q90 := Q0g.out
          have Q91 := Q0h.out
          have Q92 := Q0n.out
          have Q93 := Q17.out
          have Q94 := Q11.out
          have Q95 := Q0r.out
          have Q96 := Q0i.out
          have Q97 := Q0m.out
          have Q98 := Q16.out
          refine skip_ (w1 := ?_) (by rfl) rfl ?_ ?_
          rotate_left
          ·go_simp
           rfl
          refine hK.out _ _ ⟨((cell_far (p := ⟨Q07, _, none⟩) Q17.out _).trans (((cell_far (p := ⟨Q07, _, none⟩) Q17.out _).trans (hHeld.1)))), ((cell_far (p := ⟨Q07, _, none⟩) Q17.out _).trans (((cell_far (p := ⟨Q07, _, none⟩) Q17.out _).trans (hHeld.2.1)))), ((cell_far (p := ⟨Q07, _, none⟩) Q0g.out _).trans (((cell_far (p := ⟨Q07, _, none⟩) Q0g.out _).trans (hHeld.2.2.1)))), ((cell_far (p := ⟨Q07, _, none⟩) Q0g.out _).trans (((cell_far (p := ⟨Q07, _, none⟩) Q0g.out _).trans (hHeld.2.2.2))))⟩ (fun hHeld => ?_)
          clear hK K
          refine one_ (i := 19) (N := none) #[true, true, true, true, true, true, true, true, true, true, true, true, true, true, true, true, true, true, true, true, false] rfl rfl (one_of HT_.out (by kernel_rfl)) (by decide) (fun K hK => ?_)
          have Q99 : w114.cell? ⟨Q08, 0, none⟩ = some (.slice none 0 0) := (blk_cell Q04.out 0).trans rfl
          have Q9a := blk_frozen Q04.out 0
          have Q9b := Q12.out
          have Q9c := Q0j.out
          have Q9d := Q0k.out
          have Q9e := Q0m.out
          have Q9f := Q19.out
          have Q9g := Q13.out
          have Q9h := Q0s.out
          have Q9i := Q0l.out
          have Q9j := Q0n.out
          have Q9k := Q18.out
          have Q9l : w114.cell? ⟨Q08, 1, none⟩ = some (.slice none 0 0) := (blk_cell Q04.out 1).trans rfl
          have Q9m := blk_frozen Q04.out 1
          have Q9n := Q12.out
          have Q9o := Q0j.out
          have Q9p := Q0k.out
          have Q9q := Q0m.out
          have Q9r := Q19.out
          have Q9s := Q13.out
          have Q9t := Q0s.out
          have Q9u := Q0l.out
          have Q9v := Q0n.out
          have Q9w := Q18.out
          refine skip_ (w1 := ?_) (by rfl) rfl ?_ ?_
          rotate_left
          ·go_simp
           rfl
          refine hK.out _ _ ⟨((cell_far (p := ⟨Q08, _, none⟩) Q19.out _).trans (((cell_far (p := ⟨Q08, _, none⟩) Q19.out _).trans (hHeld.1)))), ((cell_far (p := ⟨Q08, _, none⟩) Q19.out _).trans (((cell_far (p := ⟨Q08, _, none⟩) Q19.out _).trans (hHeld.2.1)))), ((cell_far (p := ⟨Q08, _, none⟩) Q0j.out _).trans (((cell_far (p := ⟨Q08, _, none⟩) Q0j.out _).trans (hHeld.2.2.1)))), ((cell_far (p := ⟨Q08, _, none⟩) Q0j.out _).trans (((cell_far (p := ⟨Q08, _, none⟩) Q0j.out _).trans (hHeld.2.2.2))))⟩ (fun hHeld => ?_)
          clear hK K
          refine pure_ (i := 20) (N := some 7) (v := ?_) (a' := ?_) #[true, true, true, true, true, true, true, true, true, true, true, true, true, true, true, true, true, true, true, true, true] rfl rfl (any_of HT_.out (by kernel_rfl)) (fun _ _ _ h => h) (Or.inl ⟨by rfl, ?_⟩) ?_ ?_
          rotate_left
          ·intro w'
           go_simp
           with_reducible rfl
          rotate_left
          ·simp only [Act.put, List.setIfInBounds_toArray, List.set_cons_zero, List.set_cons_succ, i64_w, i32_w]
           rfl
          refine done_ (done_of HT_.out (by kernel_rfl)) ?_
          try go_wp2
          refine bodyPost_ret (results_list (rs := [.cell 4 25, .cell 5 29, .cell 6 29, .tmp 7]) rfl (by simp) (.cell Q06 25 #[.slice Q0o y115.length Q0p, .slice Q1o x115001_2.length Q1p] (0, 0) _ rfl (by (with_reducible repeat (first | refine bN ?_ _ | refine bD ?_ | refine bA ?_ _)); refine blk_far ?_ Q0k.out _; (with_reducible repeat (first | refine bN ?_ _ | refine bD ?_ | refine bA ?_ _)); refine blk_far ?_ Q0k.out _; (with_reducible repeat (first | refine bN ?_ _ | refine bD ?_ | refine bA ?_ _)); refine blk_far ?_ Q0h.out _; (with_reducible repeat (first | refine bN ?_ _ | refine bD ?_ | refine bA ?_ _)); refine blk_far ?_ Q0h.out _; (with_reducible repeat (first | refine bN ?_ _ | refine bD ?_ | refine bA ?_ _)); refine blk_put (cs := #[.slice Q0o y115.length Q0p, .slice none 0 0]) ?_ 1 _ rfl; (with_reducible repeat (first | refine bN ?_ _ | refine bD ?_ | refine bA ?_ _)); refine blk_put (cs := #[.slice none 0 0, .slice none 0 0]) ?_ 0 _ rfl; (with_reducible repeat (first | refine bN ?_ _ | refine bD ?_ | refine bA ?_ _)); exact Q02.out) Try.underlying25 rfl (by kernel_rfl) (.cell Q07 29 #[.slice Q1d t123.length Q1e, .slice Q1k t126.length Q1l] (0, 0) _ rfl (by (with_reducible repeat (first | refine bN ?_ _ | refine bD ?_ | refine bA ?_ _)); refine blk_far ?_ Q0m.out _; (with_reducible repeat (first | refine bN ?_ _ | refine bD ?_ | refine bA ?_ _)); refine blk_far ?_ Q0m.out _; (with_reducible repeat (first | refine bN ?_ _ | refine bD ?_ | refine bA ?_ _)); refine blk_put (cs := #[.slice Q1d t123.length Q1e, .slice none 0 0]) ?_ 1 _ rfl; (with_reducible repeat (first | refine bN ?_ _ | refine bD ?_ | refine bA ?_ _)); refine blk_put (cs := #[.slice none 0 0, .slice none 0 0]) ?_ 0 _ rfl; (with_reducible repeat (first | refine bN ?_ _ | refine bD ?_ | refine bA ?_ _)); refine blk_far ?_ Q0i.out _; (with_reducible repeat (first | refine bN ?_ _ | refine bD ?_ | refine bA ?_ _)); refine blk_far ?_ Q0i.out _; (with_reducible repeat (first | refine bN ?_ _ | refine bD ?_ | refine bA ?_ _)); exact Q03.out) Try.underlying29 rfl (by kernel_rfl) (.cell Q08 29 #[.slice Q1f t129.length Q1g, .slice Q1m t132.length Q1n] (0, 0) _ rfl (by (with_reducible repeat (first | refine bN ?_ _ | refine bD ?_ | refine bA ?_ _)); refine blk_put (cs := #[.slice Q1f t129.length Q1g, .slice none 0 0]) ?_ 1 _ rfl; (with_reducible repeat (first | refine bN ?_ _ | refine bD ?_ | refine bA ?_ _)); refine blk_put (cs := #[.slice none 0 0, .slice none 0 0]) ?_ 0 _ rfl; (with_reducible repeat (first | refine bN ?_ _ | refine bD ?_ | refine bA ?_ _)); refine blk_far ?_ Q0n.out _; (with_reducible repeat (first | refine bN ?_ _ | refine bD ?_ | refine bA ?_ _)); refine blk_far ?_ Q0n.out _; (with_reducible repeat (first | refine bN ?_ _ | refine bD ?_ | refine bA ?_ _)); refine blk_far ?_ Q0l.out _; (with_reducible repeat (first | refine bN ?_ _ | refine bD ?_ | refine bA ?_ _)); refine blk_far ?_ Q0l.out _; (with_reducible repeat (first | refine bN ?_ _ | refine bD ?_ | refine bA ?_ _)); exact Q04.out) Try.underlying29 rfl (by kernel_rfl) (.tmp .nil))))) rfl ?_
          exact ⟨_, _, _, _, _, _, by first | rfl | (simp [errW_none, errW_some] <;> rfl) | (simp [*, errW_none, errW_some] <;> rfl), by (with_reducible repeat (first | apply rA | apply rN | apply rD)); exact Kd.R_mono (Kd.R_far (p := ⟨Q08, 1, none⟩) (Kd.R_far (p := ⟨Q08, 0, none⟩) (Kd.R_far (p := ⟨Q07, 1, none⟩) (Kd.R_far (p := ⟨Q07, 0, none⟩) (Kd.R_far (p := ⟨Q06, 1, none⟩) (Kd.R_far (p := ⟨Q06, 0, none⟩) (Kd.R_types (Kd.R_types (Kd.R_types Q0d.out Q02.out (by decide)) Q03.out (by decide)) Q04.out (by decide)) (fun _ hk => hk.1.1.2) (.slice Q0o y115.length Q0p)) (fun _ hk => hk.1.1.2) (.slice Q1o x115001_2.length Q1p)) (fun _ hk => hk.1.2) (.slice Q1d t123.length Q1e)) (fun _ hk => hk.1.2) (.slice Q1k t126.length Q1l)) (fun _ hk => hk.2) (.slice Q1f t129.length Q1g)) (fun _ hk => hk.2) (.slice Q1m t132.length Q1n)) (fun _ hk => ⟨hk.1.1.1.1.1.1.2, ⟨hk.1.1.1.1.1.2, ⟨hk.1.1.1.1.2, hk.1.1.1.2⟩⟩⟩), by (with_reducible repeat (first | apply rA | apply rN | apply rD)); exact Kd.R_mono (Kd.R_far (p := ⟨Q08, 1, none⟩) (Kd.R_far (p := ⟨Q08, 0, none⟩) (Kd.R_far (p := ⟨Q07, 1, none⟩) (Kd.R_far (p := ⟨Q07, 0, none⟩) (Kd.R_far (p := ⟨Q06, 1, none⟩) (Kd.R_far (p := ⟨Q06, 0, none⟩) (Kd.R_types (Kd.R_types (Kd.R_types Q09.out Q02.out (by decide)) Q03.out (by decide)) Q04.out (by decide)) (fun _ hk => hk.1.1.2) (.slice Q0o y115.length Q0p)) (fun _ hk => hk.1.1.2) (.slice Q1o x115001_2.length Q1p)) (fun _ hk => hk.1.2) (.slice Q1d t123.length Q1e)) (fun _ hk => hk.1.2) (.slice Q1k t126.length Q1l)) (fun _ hk => hk.2) (.slice Q1f t129.length Q1g)) (fun _ hk => hk.2) (.slice Q1m t132.length Q1n)) (fun _ hk => trivial), by (with_reducible repeat (first | apply rA | apply rN | apply rD)); exact Kd.R_mono (Kd.R_far (p := ⟨Q08, 1, none⟩) (Kd.R_far (p := ⟨Q08, 0, none⟩) (Kd.R_far (p := ⟨Q07, 1, none⟩) (Kd.R_far (p := ⟨Q07, 0, none⟩) (Kd.R_far (p := ⟨Q06, 1, none⟩) (Kd.R_far (p := ⟨Q06, 0, none⟩) (Kd.R_types (Kd.R_types (Kd.R_types Q0u.out Q02.out (by decide)) Q03.out (by decide)) Q04.out (by decide)) (fun _ hk => hk.1.1.2) (.slice Q0o y115.length Q0p)) (fun _ hk => hk.1.1.2) (.slice Q1o x115001_2.length Q1p)) (fun _ hk => hk.1.2) (.slice Q1d t123.length Q1e)) (fun _ hk => hk.1.2) (.slice Q1k t126.length Q1l)) (fun _ hk => hk.2) (.slice Q1f t129.length Q1g)) (fun _ hk => hk.2) (.slice Q1m t132.length Q1n)) (fun _ hk => ⟨hk.1.1.1.1.1.1.2, ⟨hk.1.1.1.1.1.2, ⟨hk.1.1.1.1.2, hk.1.1.1.2⟩⟩⟩), by (with_reducible repeat (first | apply rA | apply rN | apply rD)); exact Kd.R_mono (Kd.R_far (p := ⟨Q08, 1, none⟩) (Kd.R_far (p := ⟨Q08, 0, none⟩) (Kd.R_far (p := ⟨Q07, 1, none⟩) (Kd.R_far (p := ⟨Q07, 0, none⟩) (Kd.R_far (p := ⟨Q06, 1, none⟩) (Kd.R_far (p := ⟨Q06, 0, none⟩) (Kd.R_types (Kd.R_types (Kd.R_types Q1c.out Q02.out (by decide)) Q03.out (by decide)) Q04.out (by decide)) (fun _ hk => hk.1.1.2) (.slice Q0o y115.length Q0p)) (fun _ hk => hk.1.1.2) (.slice Q1o x115001_2.length Q1p)) (fun _ hk => hk.1.2) (.slice Q1d t123.length Q1e)) (fun _ hk => hk.1.2) (.slice Q1k t126.length Q1l)) (fun _ hk => hk.2) (.slice Q1f t129.length Q1g)) (fun _ hk => hk.2) (.slice Q1m t132.length Q1n)) (fun _ hk => ⟨hk.1.1.1.1.1.1.2, ⟨hk.1.1.1.1.1.2, ⟨hk.1.1.1.1.2, hk.1.1.1.2⟩⟩⟩), by (with_reducible repeat (first | apply rA | apply rN | apply rD)); exact Kd.R_mono (Kd.R_far (p := ⟨Q08, 1, none⟩) (Kd.R_far (p := ⟨Q08, 0, none⟩) (Kd.R_far (p := ⟨Q07, 1, none⟩) (Kd.R_far (p := ⟨Q07, 0, none⟩) (Kd.R_far (p := ⟨Q06, 1, none⟩) (Kd.R_far (p := ⟨Q06, 0, none⟩) (Kd.R_types (Kd.R_types (Kd.R_types Q1x.out Q02.out (by decide)) Q03.out (by decide)) Q04.out (by decide)) (fun _ hk => hk.1.1.2) (.slice Q0o y115.length Q0p)) (fun _ hk => hk.1.1.2) (.slice Q1o x115001_2.length Q1p)) (fun _ hk => hk.1.2) (.slice Q1d t123.length Q1e)) (fun _ hk => hk.1.2) (.slice Q1k t126.length Q1l)) (fun _ hk => hk.2) (.slice Q1f t129.length Q1g)) (fun _ hk => hk.2) (.slice Q1m t132.length Q1n)) (fun _ hk => ⟨hk.1.1.1.1.1.1.2, ⟨hk.1.1.1.1.1.2, ⟨hk.1.1.1.1.2, hk.1.1.1.2⟩⟩⟩), by (with_reducible repeat (first | apply rA | apply rN | apply rD)); exact Kd.R_mono (Kd.R_far (p := ⟨Q08, 1, none⟩) (Kd.R_far (p := ⟨Q08, 0, none⟩) (Kd.R_far (p := ⟨Q07, 1, none⟩) (Kd.R_far (p := ⟨Q07, 0, none⟩) (Kd.R_far (p := ⟨Q06, 1, none⟩) (Kd.R_far (p := ⟨Q06, 0, none⟩) (Kd.R_types (Kd.R_types (Kd.R_types Q2x.out Q02.out (by decide)) Q03.out (by decide)) Q04.out (by decide)) (fun _ hk => hk.1.1.2) (.slice Q0o y115.length Q0p)) (fun _ hk => hk.1.1.2) (.slice Q1o x115001_2.length Q1p)) (fun _ hk => hk.1.2) (.slice Q1d t123.length Q1e)) (fun _ hk => hk.1.2) (.slice Q1k t126.length Q1l)) (fun _ hk => hk.2) (.slice Q1f t129.length Q1g)) (fun _ hk => hk.2) (.slice Q1m t132.length Q1n)) (fun _ hk => ⟨hk.1.1.1.1.1.1.2, ⟨hk.1.1.1.1.1.2, ⟨hk.1.1.1.1.2, hk.1.1.1.2⟩⟩⟩), by repeat (first | (with_reducible first | exact HB.out | apply wA | apply wN | apply wD | refine below_set ?_ Q1q.out | refine below_set ?_ Q1r.out | refine below_set ?_ Q1s.out | refine below_set ?_ Q1t.out | refine below_set ?_ Q1u.out | refine below_set ?_ Q3h.out) | exact HB.out)⟩
      ·rw [if_neg c50] at H
       exact absurd H (by simp)
  ·rw [if_neg c6] at H
   have c6b0 : (t107 == 0) = false := beq_eq_false_iff_ne.mpr c6
   have c6b1 : (t107 != 0) = true := bne_iff_ne.mpr c6
   simp only [Option.some.injEq, Prod.mk.injEq] at H
   obtain ⟨rfl, rfl, rfl, rfl, rfl, rfl, rfl⟩ := H
   go_enter Try.func32, Try.ntmps32
   go_wp2_with (first | ((with_reducible refine gate_dst (N := 2) rfl ?_); (try (refine gate_guard (by rfl) ?_; dsimp only)); refine box_event ?hg (N := 2) ?hd (cs := #[.slice A0_0 l0_0.length c0_0, .slice A0_1 l0_1.length c0_1]) (t := 25) ?hr ?_; (case hd => rfl); (case hg => rfl); (case hr => first | (go_simp; done) | (go_simp; rfl)); intro Q0b hg w124 hbox hb; have Q01 := Aside0.mk (hbox); have Q27 := Aside0.mk ((by rw [hg]; exact (below_size hB) : w.heap.size ≤ Q0b)); have Q1q := Aside0.mk ((by rw [hg]; exact (below_size hB) : w.heap.size ≤ Q0b)); replace HB := uH HB hb; clear hb hbox hg) | ((with_reducible refine gate_dst (N := 3) rfl ?_); (try (refine gate_guard (by rfl) ?_; dsimp only)); refine box_event ?hg (N := 3) ?hd (cs := #[.slice A1_0 l1_0.length c1_0, .slice A1_1 l1_1.length c1_1]) (t := 25) ?hr ?_; (case hd => rfl); (case hg => rfl); (case hr => first | (go_simp; done) | (go_simp; rfl)); intro Q0c hg w125 hbox hb; have Q00 := Aside0.mk (hbox); have Q28 := uS HB hg; have Q1r := uS HB hg; replace HB := uH HB hb; have Q0v := uL Q01 hg; have Q0w := uG Q01 hg; replace Q01 := uB Q01 hb; clear hb hbox hg) | ((with_reducible refine gate_dst (N := 4) rfl ?_); (try (refine gate_guard (by rfl) ?_; dsimp only)); refine box_event ?hg (N := 4) ?hd (cs := #[.slice none 0 0, .slice none 0 0]) (t := 25) ?hr ?_; (case hd => rfl); (case hg => rfl); (case hr => first | (go_simp; done) | (go_simp; rfl)); intro Q06 hg w126 hbox hb; have Q02 := Aside0.mk (hbox); have Q29 := uS HB hg; have Q1s := uS HB hg; replace HB := uH HB hb; have Q0y := uL Q01 hg; have Q0z := uG Q01 hg; replace Q01 := uB Q01 hb; have Q0f := uL Q00 hg; have Q0q := uG Q00 hg; replace Q00 := uB Q00 hb; clear hb hbox hg) | ((with_reducible refine gate_dst (N := 5) rfl ?_); (try (refine gate_guard (by rfl) ?_; dsimp only)); refine box_event ?hg (N := 5) ?hd (cs := #[.slice none 0 0, .slice none 0 0]) (t := 29) ?hr ?_; (case hd => rfl); (case hg => rfl); (case hr => first | (go_simp; done) | (go_simp; rfl)); intro Q07 hg w127 hbox hb; have Q03 := Aside0.mk (hbox); have Q2a := uS HB hg; have Q1t := uS HB hg; replace HB := uH HB hb; have Q10 := uL Q01 hg; have Q11 := uG Q01 hg; replace Q01 := uB Q01 hb; have Q0g := uL Q00 hg; have Q0r := uG Q00 hg; replace Q00 := uB Q00 hb; have Q0h := uL Q02 hg; have Q0i := uG Q02 hg; replace Q02 := uB Q02 hb; clear hb hbox hg) | ((with_reducible refine gate_dst (N := 6) rfl ?_); (try (refine gate_guard (by rfl) ?_; dsimp only)); refine box_event ?hg (N := 6) ?hd (cs := #[.slice none 0 0, .slice none 0 0]) (t := 29) ?hr ?_; (case hd => rfl); (case hg => rfl); (case hr => first | (go_simp; done) | (go_simp; rfl)); intro Q08 hg w128 hbox hb; have Q04 := Aside0.mk (hbox); have Q2b := uS HB hg; have Q1u := uS HB hg; replace HB := uH HB hb; have Q12 := uL Q01 hg; have Q13 := uG Q01 hg; replace Q01 := uB Q01 hb; have Q0j := uL Q00 hg; have Q0s := uG Q00 hg; replace Q00 := uB Q00 hb; have Q0k := uL Q02 hg; have Q0l := uG Q02 hg; replace Q02 := uB Q02 hb; have Q0m := uL Q03 hg; have Q0n := uG Q03 hg; replace Q03 := uB Q03 hb; clear hb hbox hg; have Q9x := Q0v.out; have Q9y := Q0w.out; have Q9z := Q0y.out; have Qa0 := Q0z.out; have Qa1 := Q10.out; have Qa2 := Q11.out; have Qa3 := Q12.out; have Qa4 := Q13.out; have Qa5 : w128.cell? ⟨Q0b, 0, none⟩ = some (.slice A0_0 l0_0.length c0_0) := (blk_cell Q01.out 0).trans rfl; have Qa6 : w128.cell? ⟨Q0b, 1, none⟩ = some (.slice A0_1 l0_1.length c0_1) := (blk_cell Q01.out 1).trans rfl; have Qa7 := blk_frozen Q01.out 0; have Qa8 := blk_frozen Q01.out 1) | ((with_reducible refine gate_callee (f := 27) rfl ?_); refine goesL_ (some 16) rfl rfl Try.func27 (by kernel_rfl) rfl #[.agg #[.slice A0_0 l0_0.length c0_0, .slice A0_1 l0_1.length c0_1]] rfl aM ?_; (with_reducible refine (scarfjointref05_Valid.calls k _ _ l0_0 _ _ l0_1 t106 _ ?side1 ?side2 ?side3 ?side4 A3.out).mono ?_); (case side1 => repeat (first | exact (cB HR0_0.out HB.out) | (with_reducible refine cA ?_ _) | (with_reducible refine cN ?_ _) | (with_reducible refine cD ?_))); (case side2 => exact HC0_0.out); (case side3 => repeat (first | exact (cB HR0_1.out HB.out) | (with_reducible refine cA ?_ _) | (with_reducible refine cN ?_ _) | (with_reducible refine cD ?_))); (case side4 => exact HC0_1.out); rintro e w134 ⟨rfl, hb⟩; refine ⟨_, rfl, ?_⟩; replace Q01 := uB Q01 hb; replace Q00 := uB Q00 hb; replace Q02 := uB Q02 hb; replace Q03 := uB Q03 hb; replace Q04 := uB Q04 hb; replace HB := uH HB hb; (try clear hb); (try clear hb2); (try clear hk); (try clear hi); have Qa9 := Q0f.out; have Qaa := Q0q.out; have Qab := Q0g.out; have Qac := Q0r.out; have Qad := Q0j.out; have Qae := Q0s.out; have Qaf : w134.cell? ⟨Q0c, 0, none⟩ = some (.slice A1_0 l1_0.length c1_0) := (blk_cell Q00.out 0).trans rfl; have Qag : w134.cell? ⟨Q0c, 1, none⟩ = some (.slice A1_1 l1_1.length c1_1) := (blk_cell Q00.out 1).trans rfl; have Qah := blk_frozen Q00.out 0; have Qai := blk_frozen Q00.out 1) | ((with_reducible refine gate_callee (f := 27) rfl ?_); refine goesL_ (some 24) rfl rfl Try.func27 (by kernel_rfl) rfl #[.agg #[.slice A1_0 l1_0.length c1_0, .slice A1_1 l1_1.length c1_1]] rfl aM ?_; (with_reducible refine (scarfjointref05_Valid.calls k _ _ l1_0 _ _ l1_1 t107 _ ?side1 ?side2 ?side3 ?side4 A5.out).mono ?_); (case side1 => repeat (first | exact (cB HR1_0.out HB.out) | (with_reducible refine cA ?_ _) | (with_reducible refine cN ?_ _) | (with_reducible refine cD ?_))); (case side2 => exact HC1_0.out); (case side3 => repeat (first | exact (cB HR1_1.out HB.out) | (with_reducible refine cA ?_ _) | (with_reducible refine cN ?_ _) | (with_reducible refine cD ?_))); (case side4 => exact HC1_1.out); rintro e w139 ⟨rfl, hb⟩; refine ⟨_, rfl, ?_⟩; replace Q01 := uB Q01 hb; replace Q00 := uB Q00 hb; replace Q02 := uB Q02 hb; replace Q03 := uB Q03 hb; replace Q04 := uB Q04 hb; replace HB := uH HB hb; (try clear hb); (try clear hb2); (try clear hk); (try clear hi); have Qaj := Q0h.out; have Qak := Q0i.out; have Qal := Q0k.out; have Qam := Q0l.out; have Qan : w139.cell? ⟨Q06, 0, none⟩ = some (.slice none 0 0) := (blk_cell Q02.out 0).trans rfl; have Qao : w139.cell? ⟨Q06, 1, none⟩ = some (.slice none 0 0) := (blk_cell Q02.out 1).trans rfl; have Qap := blk_frozen Q02.out 0; have Qaq := blk_frozen Q02.out 1; have Qar := Q0m.out; have Qas := Q0n.out; have Qat : w139.cell? ⟨Q07, 0, none⟩ = some (.slice none 0 0) := (blk_cell Q03.out 0).trans rfl; have Qau : w139.cell? ⟨Q07, 1, none⟩ = some (.slice none 0 0) := (blk_cell Q03.out 1).trans rfl; have Qav := blk_frozen Q03.out 0; have Qaw := blk_frozen Q03.out 1; have Qax : w139.cell? ⟨Q08, 0, none⟩ = some (.slice none 0 0) := (blk_cell Q04.out 0).trans rfl; have Qay : w139.cell? ⟨Q08, 1, none⟩ = some (.slice none 0 0) := (blk_cell Q04.out 1).trans rfl; have Qaz := blk_frozen Q04.out 0; have Qb0 := blk_frozen Q04.out 1))
   refine bodyPost_ret (results_list (rs := [.cell 4 25, .cell 5 29, .cell 6 29, .tmp 7]) rfl (by simp) (.cell Q06 25 #[.slice none 0 0, .slice none 0 0] (0, 0) _ rfl (by (with_reducible repeat (first | refine bN ?_ _ | refine bD ?_ | refine bA ?_ _)); refine blk_far ?_ Q0k.out _; (with_reducible repeat (first | refine bN ?_ _ | refine bD ?_ | refine bA ?_ _)); refine blk_far ?_ Q0k.out _; (with_reducible repeat (first | refine bN ?_ _ | refine bD ?_ | refine bA ?_ _)); refine blk_far ?_ Q0h.out _; (with_reducible repeat (first | refine bN ?_ _ | refine bD ?_ | refine bA ?_ _)); refine blk_far ?_ Q0h.out _; (with_reducible repeat (first | refine bN ?_ _ | refine bD ?_ | refine bA ?_ _)); refine blk_put (cs := #[.slice none 0 0, .slice none 0 0]) ?_ 1 _ rfl; (with_reducible repeat (first | refine bN ?_ _ | refine bD ?_ | refine bA ?_ _)); refine blk_put (cs := #[.slice none 0 0, .slice none 0 0]) ?_ 0 _ rfl; (with_reducible repeat (first | refine bN ?_ _ | refine bD ?_ | refine bA ?_ _)); exact Q02.out) Try.underlying25 rfl (by kernel_rfl) (.cell Q07 29 #[.slice none 0 0, .slice none 0 0] (0, 0) _ rfl (by (with_reducible repeat (first | refine bN ?_ _ | refine bD ?_ | refine bA ?_ _)); refine blk_far ?_ Q0m.out _; (with_reducible repeat (first | refine bN ?_ _ | refine bD ?_ | refine bA ?_ _)); refine blk_far ?_ Q0m.out _; (with_reducible repeat (first | refine bN ?_ _ | refine bD ?_ | refine bA ?_ _)); refine blk_put (cs := #[.slice none 0 0, .slice none 0 0]) ?_ 1 _ rfl; (with_reducible repeat (first | refine bN ?_ _ | refine bD ?_ | refine bA ?_ _)); refine blk_put (cs := #[.slice none 0 0, .slice none 0 0]) ?_ 0 _ rfl; (with_reducible repeat (first | refine bN ?_ _ | refine bD ?_ | refine bA ?_ _)); refine blk_far ?_ Q0i.out _; (with_reducible repeat (first | refine bN ?_ _ | refine bD ?_ | refine bA ?_ _)); refine blk_far ?_ Q0i.out _; (with_reducible repeat (first | refine bN ?_ _ | refine bD ?_ | refine bA ?_ _)); exact Q03.out) Try.underlying29 rfl (by kernel_rfl) (.cell Q08 29 #[.slice none 0 0, .slice none 0 0] (0, 0) _ rfl (by (with_reducible repeat (first | refine bN ?_ _ | refine bD ?_ | refine bA ?_ _)); refine blk_put (cs := #[.slice none 0 0, .slice none 0 0]) ?_ 1 _ rfl; (with_reducible repeat (first | refine bN ?_ _ | refine bD ?_ | refine bA ?_ _)); refine blk_put (cs := #[.slice none 0 0, .slice none 0 0]) ?_ 0 _ rfl; (with_reducible repeat (first | refine bN ?_ _ | refine bD ?_ | refine bA ?_ _)); refine blk_far ?_ Q0n.out _; (with_reducible repeat (first | refine bN ?_ _ | refine bD ?_ | refine bA ?_ _)); refine blk_far ?_ Q0n.out _; (with_reducible repeat (first | refine bN ?_ _ | refine bD ?_ | refine bA ?_ _)); refine blk_far ?_ Q0l.out _; (with_reducible repeat (first | refine bN ?_ _ | refine bD ?_ | refine bA ?_ _)); refine blk_far ?_ Q0l.out _; (with_reducible repeat (first | refine bN ?_ _ | refine bD ?_ | refine bA ?_ _)); exact Q04.out) Try.underlying29 rfl (by kernel_rfl) (.tmp .nil))))) rfl ?_
   exact ⟨_, _, _, _, _, _, by first | rfl | (simp [errW_none, errW_some] <;> rfl) | (simp [*, errW_none, errW_some] <;> rfl), by first | exact Kd.R_nil _ _ _ _ _ | exact Kd.N_nil _ _ _ _ _ | exact Kd.V_nil _ _ _ _ _ | exact Kd.Q_nil _ _ _ _ _ | exact Kd.S_nil _ _ _ _ _, by first | exact Kd.R_nil _ _ _ _ _ | exact Kd.N_nil _ _ _ _ _ | exact Kd.V_nil _ _ _ _ _ | exact Kd.Q_nil _ _ _ _ _ | exact Kd.S_nil _ _ _ _ _, by first | exact Kd.R_nil _ _ _ _ _ | exact Kd.N_nil _ _ _ _ _ | exact Kd.V_nil _ _ _ _ _ | exact Kd.Q_nil _ _ _ _ _ | exact Kd.S_nil _ _ _ _ _, by first | exact Kd.R_nil _ _ _ _ _ | exact Kd.N_nil _ _ _ _ _ | exact Kd.V_nil _ _ _ _ _ | exact Kd.Q_nil _ _ _ _ _ | exact Kd.S_nil _ _ _ _ _, by first | exact Kd.R_nil _ _ _ _ _ | exact Kd.N_nil _ _ _ _ _ | exact Kd.V_nil _ _ _ _ _ | exact Kd.Q_nil _ _ _ _ _ | exact Kd.S_nil _ _ _ _ _, by first | exact Kd.R_nil _ _ _ _ _ | exact Kd.N_nil _ _ _ _ _ | exact Kd.V_nil _ _ _ _ _ | exact Kd.Q_nil _ _ _ _ _ | exact Kd.S_nil _ _ _ _ _, by repeat (first | (with_reducible first | exact HB.out | apply wA | apply wN | apply wD | refine below_set ?_ Q1q.out | refine below_set ?_ Q1r.out | refine below_set ?_ Q1s.out | refine below_set ?_ Q1t.out | refine below_set ?_ Q1u.out) | exact HB.out)⟩
 ·rw [if_neg c4] at H
  have c4b0 : (t106 == 0) = false := beq_eq_false_iff_ne.mpr c4
  have c4b1 : (t106 != 0) = true := bne_iff_ne.mpr c4
  simp only [Option.some.injEq, Prod.mk.injEq] at H
  obtain ⟨rfl, rfl, rfl, rfl, rfl, rfl, rfl⟩ := H
  go_enter Try.func32, Try.ntmps32
  go_wp2_with (first | ((with_reducible refine gate_dst (N := 2) rfl ?_); (try (refine gate_guard (by rfl) ?_; dsimp only)); refine box_event ?hg (N := 2) ?hd (cs := #[.slice A0_0 l0_0.length c0_0, .slice A0_1 l0_1.length c0_1]) (t := 25) ?hr ?_; (case hd => rfl); (case hg => rfl); (case hr => first | (go_simp; done) | (go_simp; rfl)); intro Q0b hg w146 hbox hb; have Q01 := Aside0.mk (hbox); have Q27 := Aside0.mk ((by rw [hg]; exact (below_size hB) : w.heap.size ≤ Q0b)); have Q1q := Aside0.mk ((by rw [hg]; exact (below_size hB) : w.heap.size ≤ Q0b)); replace HB := uH HB hb; clear hb hbox hg) | ((with_reducible refine gate_dst (N := 3) rfl ?_); (try (refine gate_guard (by rfl) ?_; dsimp only)); refine box_event ?hg (N := 3) ?hd (cs := #[.slice A1_0 l1_0.length c1_0, .slice A1_1 l1_1.length c1_1]) (t := 25) ?hr ?_; (case hd => rfl); (case hg => rfl); (case hr => first | (go_simp; done) | (go_simp; rfl)); intro Q0c hg w147 hbox hb; have Q00 := Aside0.mk (hbox); have Q28 := uS HB hg; have Q1r := uS HB hg; replace HB := uH HB hb; have Q0v := uL Q01 hg; have Q0w := uG Q01 hg; replace Q01 := uB Q01 hb; clear hb hbox hg) | ((with_reducible refine gate_dst (N := 4) rfl ?_); (try (refine gate_guard (by rfl) ?_; dsimp only)); refine box_event ?hg (N := 4) ?hd (cs := #[.slice none 0 0, .slice none 0 0]) (t := 25) ?hr ?_; (case hd => rfl); (case hg => rfl); (case hr => first | (go_simp; done) | (go_simp; rfl)); intro Q06 hg w148 hbox hb; have Q02 := Aside0.mk (hbox); have Q29 := uS HB hg; have Q1s := uS HB hg; replace HB := uH HB hb; have Q0y := uL Q01 hg; have Q0z := uG Q01 hg; replace Q01 := uB Q01 hb; have Q0f := uL Q00 hg; have Q0q := uG Q00 hg; replace Q00 := uB Q00 hb; clear hb hbox hg) | ((with_reducible refine gate_dst (N := 5) rfl ?_); (try (refine gate_guard (by rfl) ?_; dsimp only)); refine box_event ?hg (N := 5) ?hd (cs := #[.slice none 0 0, .slice none 0 0]) (t := 29) ?hr ?_; (case hd => rfl); (case hg => rfl); (case hr => first | (go_simp; done) | (go_simp; rfl)); intro Q07 hg w149 hbox hb; have Q03 := Aside0.mk (hbox); have Q2a := uS HB hg; have Q1t := uS HB hg; replace HB := uH HB hb; have Q10 := uL Q01 hg; have Q11 := uG Q01 hg; replace Q01 := uB Q01 hb; have Q0g := uL Q00 hg; have Q0r := uG Q00 hg; replace Q00 := uB Q00 hb; have Q0h := uL Q02 hg; have Q0i := uG Q02 hg; replace Q02 := uB Q02 hb; clear hb hbox hg) | ((with_reducible refine gate_dst (N := 6) rfl ?_); (try (refine gate_guard (by rfl) ?_; dsimp only)); refine box_event ?hg (N := 6) ?hd (cs := #[.slice none 0 0, .slice none 0 0]) (t := 29) ?hr ?_; (case hd => rfl); (case hg => rfl); (case hr => first | (go_simp; done) | (go_simp; rfl)); intro Q08 hg w150 hbox hb; have Q04 := Aside0.mk (hbox); have Q2b := uS HB hg; have Q1u := uS HB hg; replace HB := uH HB hb; have Q12 := uL Q01 hg; have Q13 := uG Q01 hg; replace Q01 := uB Q01 hb; have Q0j := uL Q00 hg; have Q0s := uG Q00 hg; replace Q00 := uB Q00 hb; have Q0k := uL Q02 hg; have Q0l := uG Q02 hg; replace Q02 := uB Q02 hb; have Q0m := uL Q03 hg; have Q0n := uG Q03 hg; replace Q03 := uB Q03 hb; clear hb hbox hg; have Qb1 := Q0v.out; have Qb2 := Q0w.out; have Qb3 := Q0y.out; have Qb4 := Q0z.out; have Qb5 := Q10.out; have Qb6 := Q11.out; have Qb7 := Q12.out; have Qb8 := Q13.out; have Qb9 : w150.cell? ⟨Q0b, 0, none⟩ = some (.slice A0_0 l0_0.length c0_0) := (blk_cell Q01.out 0).trans rfl; have Qba : w150.cell? ⟨Q0b, 1, none⟩ = some (.slice A0_1 l0_1.length c0_1) := (blk_cell Q01.out 1).trans rfl; have Qbb := blk_frozen Q01.out 0; have Qbc := blk_frozen Q01.out 1) | ((with_reducible refine gate_callee (f := 27) rfl ?_); refine goesL_ (some 16) rfl rfl Try.func27 (by kernel_rfl) rfl #[.agg #[.slice A0_0 l0_0.length c0_0, .slice A0_1 l0_1.length c0_1]] rfl aM ?_; (with_reducible refine (scarfjointref05_Valid.calls k _ _ l0_0 _ _ l0_1 t106 _ ?side1 ?side2 ?side3 ?side4 A3.out).mono ?_); (case side1 => repeat (first | exact (cB HR0_0.out HB.out) | (with_reducible refine cA ?_ _) | (with_reducible refine cN ?_ _) | (with_reducible refine cD ?_))); (case side2 => exact HC0_0.out); (case side3 => repeat (first | exact (cB HR0_1.out HB.out) | (with_reducible refine cA ?_ _) | (with_reducible refine cN ?_ _) | (with_reducible refine cD ?_))); (case side4 => exact HC0_1.out); rintro e w156 ⟨rfl, hb⟩; refine ⟨_, rfl, ?_⟩; replace Q01 := uB Q01 hb; replace Q00 := uB Q00 hb; replace Q02 := uB Q02 hb; replace Q03 := uB Q03 hb; replace Q04 := uB Q04 hb; replace HB := uH HB hb; (try clear hb); (try clear hb2); (try clear hk); (try clear hi); have Qbd := Q0q.out; have Qbe := Q0f.out; have Qbf := Q0h.out; have Qbg := Q0i.out; have Qbh := Q0k.out; have Qbi := Q0l.out; have Qbj : w156.cell? ⟨Q06, 0, none⟩ = some (.slice none 0 0) := (blk_cell Q02.out 0).trans rfl; have Qbk : w156.cell? ⟨Q06, 1, none⟩ = some (.slice none 0 0) := (blk_cell Q02.out 1).trans rfl; have Qbl := blk_frozen Q02.out 0; have Qbm := blk_frozen Q02.out 1; have Qbn := Q0r.out; have Qbo := Q0g.out; have Qbp := Q0m.out; have Qbq := Q0n.out; have Qbr : w156.cell? ⟨Q07, 0, none⟩ = some (.slice none 0 0) := (blk_cell Q03.out 0).trans rfl; have Qbs : w156.cell? ⟨Q07, 1, none⟩ = some (.slice none 0 0) := (blk_cell Q03.out 1).trans rfl; have Qbt := blk_frozen Q03.out 0; have Qbu := blk_frozen Q03.out 1; have Qbv := Q0s.out; have Qbw := Q0j.out; have Qbx : w156.cell? ⟨Q08, 0, none⟩ = some (.slice none 0 0) := (blk_cell Q04.out 0).trans rfl; have Qby : w156.cell? ⟨Q08, 1, none⟩ = some (.slice none 0 0) := (blk_cell Q04.out 1).trans rfl; have Qbz := blk_frozen Q04.out 0; have Qc0 := blk_frozen Q04.out 1))
  refine bodyPost_ret (results_list (rs := [.cell 4 25, .cell 5 29, .cell 6 29, .tmp 7]) rfl (by simp) (.cell Q06 25 #[.slice none 0 0, .slice none 0 0] (0, 0) _ rfl (by (with_reducible repeat (first | refine bN ?_ _ | refine bD ?_ | refine bA ?_ _)); refine blk_far ?_ Q0k.out _; (with_reducible repeat (first | refine bN ?_ _ | refine bD ?_ | refine bA ?_ _)); refine blk_far ?_ Q0k.out _; (with_reducible repeat (first | refine bN ?_ _ | refine bD ?_ | refine bA ?_ _)); refine blk_far ?_ Q0h.out _; (with_reducible repeat (first | refine bN ?_ _ | refine bD ?_ | refine bA ?_ _)); refine blk_far ?_ Q0h.out _; (with_reducible repeat (first | refine bN ?_ _ | refine bD ?_ | refine bA ?_ _)); refine blk_put (cs := #[.slice none 0 0, .slice none 0 0]) ?_ 1 _ rfl; (with_reducible repeat (first | refine bN ?_ _ | refine bD ?_ | refine bA ?_ _)); refine blk_put (cs := #[.slice none 0 0, .slice none 0 0]) ?_ 0 _ rfl; (with_reducible repeat (first | refine bN ?_ _ | refine bD ?_ | refine bA ?_ _)); exact Q02.out) Try.underlying25 rfl (by kernel_rfl) (.cell Q07 29 #[.slice none 0 0, .slice none 0 0] (0, 0) _ rfl (by (with_reducible repeat (first | refine bN ?_ _ | refine bD ?_ | refine bA ?_ _)); refine blk_far ?_ Q0m.out _; (with_reducible repeat (first | refine bN ?_ _ | refine bD ?_ | refine bA ?_ _)); refine blk_far ?_ Q0m.out _; (with_reducible repeat (first | refine bN ?_ _ | refine bD ?_ | refine bA ?_ _)); refine blk_put (cs := #[.slice none 0 0, .slice none 0 0]) ?_ 1 _ rfl; (with_reducible repeat (first | refine bN ?_ _ | refine bD ?_ | refine bA ?_ _)); refine blk_put (cs := #[.slice none 0 0, .slice none 0 0]) ?_ 0 _ rfl; (with_reducible repeat (first | refine bN ?_ _ | refine bD ?_ | refine bA ?_ _)); refine blk_far ?_ Q0i.out _; (with_reducible repeat (first | refine bN ?_ _ | refine bD ?_ | refine bA ?_ _)); refine blk_far ?_ Q0i.out _; (with_reducible repeat (first | refine bN ?_ _ | refine bD ?_ | refine bA ?_ _)); exact Q03.out) Try.underlying29 rfl (by kernel_rfl) (.cell Q08 29 #[.slice none 0 0, .slice none 0 0] (0, 0) _ rfl (by (with_reducible repeat (first | refine bN ?_ _ | refine bD ?_ | refine bA ?_ _)); refine blk_put (cs := #[.slice none 0 0, .slice none 0 0]) ?_ 1 _ rfl; (with_reducible repeat (first | refine bN ?_ _ | refine bD ?_ | refine bA ?_ _)); refine blk_put (cs := #[.slice none 0 0, .slice none 0 0]) ?_ 0 _ rfl; (with_reducible repeat (first | refine bN ?_ _ | refine bD ?_ | refine bA ?_ _)); refine blk_far ?_ Q0n.out _; (with_reducible repeat (first | refine bN ?_ _ | refine bD ?_ | refine bA ?_ _)); refine blk_far ?_ Q0n.out _; (with_reducible repeat (first | refine bN ?_ _ | refine bD ?_ | refine bA ?_ _)); refine blk_far ?_ Q0l.out _; (with_reducible repeat (first | refine bN ?_ _ | refine bD ?_ | refine bA ?_ _)); refine blk_far ?_ Q0l.out _; (with_reducible repeat (first | refine bN ?_ _ | refine bD ?_ | refine bA ?_ _)); exact Q04.out) Try.underlying29 rfl (by kernel_rfl) (.tmp .nil))))) rfl ?_
  exact ⟨_, _, _, _, _, _, by first | rfl | (simp [errW_none, errW_some] <;> rfl) | (simp [*, errW_none, errW_some] <;> rfl), by first | exact Kd.R_nil _ _ _ _ _ | exact Kd.N_nil _ _ _ _ _ | exact Kd.V_nil _ _ _ _ _ | exact Kd.Q_nil _ _ _ _ _ | exact Kd.S_nil _ _ _ _ _, by first | exact Kd.R_nil _ _ _ _ _ | exact Kd.N_nil _ _ _ _ _ | exact Kd.V_nil _ _ _ _ _ | exact Kd.Q_nil _ _ _ _ _ | exact Kd.S_nil _ _ _ _ _, by first | exact Kd.R_nil _ _ _ _ _ | exact Kd.N_nil _ _ _ _ _ | exact Kd.V_nil _ _ _ _ _ | exact Kd.Q_nil _ _ _ _ _ | exact Kd.S_nil _ _ _ _ _, by first | exact Kd.R_nil _ _ _ _ _ | exact Kd.N_nil _ _ _ _ _ | exact Kd.V_nil _ _ _ _ _ | exact Kd.Q_nil _ _ _ _ _ | exact Kd.S_nil _ _ _ _ _, by first | exact Kd.R_nil _ _ _ _ _ | exact Kd.N_nil _ _ _ _ _ | exact Kd.V_nil _ _ _ _ _ | exact Kd.Q_nil _ _ _ _ _ | exact Kd.S_nil _ _ _ _ _, by first | exact Kd.R_nil _ _ _ _ _ | exact Kd.N_nil _ _ _ _ _ | exact Kd.V_nil _ _ _ _ _ | exact Kd.Q_nil _ _ _ _ _ | exact Kd.S_nil _ _ _ _ _, by repeat (first | (with_reducible first | exact HB.out | apply wA | apply wN | apply wD | refine below_set ?_ Q1q.out | refine below_set ?_ Q1r.out | refine below_set ?_ Q1s.out | refine below_set ?_ Q1t.out | refine below_set ?_ Q1u.out) | exact HB.out)⟩
end Go.Proofs.Ytmbnibonggbjgaa.X

/- The law GraphUnion, walked by hand: what it returns where the premises hold. -/
namespace Go.Proofs.Ytmbnibonggbjgaa.X
open Go.RowKit Go.Proofs.YtmbnibonggbjgaaW.PrintWords Go.Proofs.YtmbnibonggbjgaaW.PrintLast Go.Proofs.YtmbnibonggbjgaaW.PrintMore
open Go.Proofs.YtmbnibonggbjgaaW.PrintWords renaming blk_drewN → bN, blk_drew → bD, blk_alloc → bA, below_alloc → wA, pw_below_drewN → wN, below_drew1 → wD, blk_below → bB, below_step → wS, blk_at → bT, blk_grown → bG
open Go.Proofs.YtmbnibonggbjgaaW.PrintWords.Kd renaming R_alloc → rA, R_drewN → rN, R_drew → rD, R_below → rB, R_grown → rG, C_below → cB, C_alloc → cA, C_drewN → cN, C_drew → cD
set_option linter.unusedVariables false
set_option linter.unusedSimpArgs false
def T7 : Bool × List (List Nat × List Nat) := (true, [([], []), ([0], [0]), ([], []), ([2, 1], [2]), ([1, 3, 3], [1, 3]), ([4], [4]), ([5], [5]), ([5], [5]), ([5], [5]), ([5], [5]), ([], []), ([], []), ([], []), ([10, 6, 4, 0, 1, 2, 3, 4, 5, 6, 10, 11, 12], [6, 10]), ([11, 7, 13, 0, 1, 2, 3, 4, 5, 6, 7, 10, 11, 12, 13], [7, 11]), ([12, 8, 14, 0, 1, 2, 3, 4, 5, 6, 7, 8, 10, 11, 12, 13, 14], [8, 12]), ([9, 15, 0, 1, 2, 3, 4, 5, 6, 7, 8, 9, 10, 11, 12, 13, 14, 15], [9])])
theorem tab7 : rtab .any (opsOf Try.f7 3) = T7 := by kernel_rfl
def J7 (W0 : World) (B0 B1 : Nat) (A0 : Option Addr) (c0 : Nat) (l0 : List Int) (A1 : Option Addr) (c1 : Nat) (l1 : List S38) (A2 : Option Addr) (c2 : Nat) (m0 : List Int) (A3 : Option Addr) (c3 : Nat) (m1 : List S38) (r1 : List Int) (r2 : List S38) (r3 r4 r5 r6 : List Int) (r7 : Int) (l : List Bool) (a : Act) (w' : World) : Prop :=
 ∃ (b0 b1 b2 b3 b4 b5 b6 b7 b8 b9 b10 b11 b12 b13 b14 b15 b16 : Bool) (x5 x6 x7 x8 x26 x27 x28 x29 x30 x31 x32 x33 x34 x35 : Value) (p0 p1 p2 p3 : Value) (v0 v1 v2 v3 v4 v5 : Value) (g5 g6 g7 : Nat), l = [b0, b1, b2, b3, b4, b5, b6, b7, b8, b9, b10, b11, b12, b13, b14, b15, b16] ∧ a = ⟨#[.agg #[.slice A0 l0.length c0, .slice A1 l1.length c1], .agg #[.slice A2 m0.length c2, .slice A3 m1.length c3], .pointer (some ⟨B0, 0, none⟩), .pointer (some ⟨B1, 0, none⟩), .bool false, x5, x6, x7, x8, undef, undef, undef, undef, .bool true, .bool false, .bool false, .agg #[.slice A0 l0.length c0, .slice A1 l1.length c1], .bool true, .bool false, .bool false, .bool false, .agg #[.slice A2 m0.length c2, .slice A3 m1.length c3], .bool true, .bool false, .bool false, undef, x26, x27, x28, x29, x30, x31, x32, x33, x34, x35, undef, undef, undef, undef, undef, undef, undef, undef, undef, undef, undef, undef, undef, undef, undef, undef, undef, undef, undef, undef, undef, undef, undef, undef, undef, undef], []⟩ ∧
 (b0 = true → x27 = .agg #[.slice A0 l0.length c0, .slice A1 l1.length c1]) ∧
 (b1 = true → x28 = .agg #[p0, p1] ∧ Vr (Kd.int .i64) w' p0 l0 ∧ Vr k38 w' p1 l1) ∧
 (b2 = true → x29 = .agg #[.slice A2 m0.length c2, .slice A3 m1.length c3]) ∧
 (b3 = true → x30 = .agg #[p2, p3] ∧ Vr (Kd.int .i64) w' p2 m0 ∧ Vr k38 w' p3 m1) ∧
 (b4 = true → x31 = .tuple #[.agg #[v0, v1], .agg #[v2, v3], .agg #[v4, v5], .int .i64 r7] ∧ Vr (Kd.int .i64) w' v0 r1 ∧ Vr k38 w' v1 r2 ∧ Vr (Kd.int .i64) w' v2 r3 ∧ Vr (Kd.int .i64) w' v3 r4 ∧ Vr (Kd.int .i64) w' v4 r5 ∧ Vr (Kd.int .i64) w' v5 r6) ∧
 (b5 = true → b4 = true ∧ x26 = .tuple #[.agg #[v0, v1], .agg #[v2, v3], .agg #[v4, v5], .int .i64 r7]) ∧
 (b6 = true → b4 = true ∧ x32 = .agg #[v0, v1]) ∧
 (b7 = true → b4 = true ∧ x33 = .agg #[v2, v3]) ∧
 (b8 = true → b4 = true ∧ x34 = .agg #[v4, v5]) ∧
 (b9 = true → b4 = true ∧ x35 = .int .i64 r7) ∧
 (b10 = true → x5 = .pointer (some ⟨g5, 0, none⟩) ∧ W0.heap.size ≤ g5 ∧ g5 < w'.heap.size ∧ Box2 w' g5 25 (if b13 = true then v0 else .slice none 0 0) (if b13 = true then v1 else .slice none 0 0)) ∧
 (b11 = true → x6 = .pointer (some ⟨g6, 0, none⟩) ∧ W0.heap.size ≤ g6 ∧ g6 < w'.heap.size ∧ Box2 w' g6 29 (if b14 = true then v2 else .slice none 0 0) (if b14 = true then v3 else .slice none 0 0)) ∧
 (b12 = true → x7 = .pointer (some ⟨g7, 0, none⟩) ∧ W0.heap.size ≤ g7 ∧ g7 < w'.heap.size ∧ Box2 w' g7 29 (if b15 = true then v4 else .slice none 0 0) (if b15 = true then v5 else .slice none 0 0)) ∧
 (b13 = true → b4 = true ∧ b10 = true) ∧
 (b14 = true → b4 = true ∧ b11 = true) ∧
 (b15 = true → b4 = true ∧ b12 = true) ∧
 (b10 = true → b11 = true → g5 ≠ g6) ∧
 (b10 = true → b12 = true → g5 ≠ g7) ∧
 (b11 = true → b12 = true → g6 ≠ g7) ∧
 (b16 = true → x8 = .int .i64 r7) ∧
 (Since W0 w')
set_option maxRecDepth 100000 in
set_option maxHeartbeats 4000000 in
theorem J7_step (k : Nat) (W0 : World) (B0 B1 : Nat) (A0 : Option Addr) (c0 : Nat) (l0 : List Int) (A1 : Option Addr) (c1 : Nat) (l1 : List S38) (A2 : Option Addr) (c2 : Nat) (m0 : List Int) (A3 : Option Addr) (c3 : Nat) (m1 : List S38) (r1 : List Int) (r2 : List S38) (r3 r4 r5 r6 : List Int) (r7 : Int) (BX : Box2 W0 B0 25 (.slice A0 l0.length c0) (.slice A1 l1.length c1)) (BY : Box2 W0 B1 25 (.slice A2 m0.length c2) (.slice A3 m1.length c3)) (G0 : Row (Kd.int .i64) W0 A0 c0 l0) (G1 : Row k38 W0 A1 c1 l1) (M0 : Row (Kd.int .i64) W0 A2 c2 m0) (M1 : Row k38 W0 A3 c3 m1)
  (hC : scarfjointref05_Copied.f l0 l1 = some (l0, l1)) (hD : scarfjointref05_Copied.f m0 m1 = some (m0, m1)) (hU : graph_Union.f k l0 l1 m0 m1 = some (r1, r2, r3, r4, r5, r6, r7))
  {Q : Exit → Act → World → Prop} : ∀ l a w' i, J7 W0 B0 B1 A0 c0 l0 A1 c1 l1 A2 c2 m0 A3 c3 m1 r1 r2 r3 r4 r5 r6 r7 l a w' → l.length = (opsOf Try.f7 3).size → readyAt T7.2 l i = true → i < T7.2.length → wpOp Try.prog (opsOf Try.f7 3) Q i (fun a' w'' => J7 W0 B0 B1 A0 c0 l0 A1 c1 l1 A2 c2 m0 A3 c3 m1 r1 r2 r3 r4 r5 r6 r7 (l.set i true) a' w'') a w' := by
 rintro l a w' i ⟨b0, b1, b2, b3, b4, b5, b6, b7, b8, b9, b10, b11, b12, b13, b14, b15, b16, x5, x6, x7, x8, x26, x27, x28, x29, x30, x31, x32, x33, x34, x35, p0, p1, p2, p3, v0, v1, v2, v3, v4, v5, g5, g6, g7, rfl, rfl, f0, f1, f2, f3, f4, f5, f6, f7, f8, f9, f10, f11, f12, d13, d14, d15, e1, e2, e3, f16, sb⟩ _ hr hi
 have hu25 := Try.underlying25
 have hu29 := Try.underlying29
 replace hi : i < 17 := hi
 have hcase : i = 0 ∨ i = 1 ∨ i = 2 ∨ i = 3 ∨ i = 4 ∨ i = 5 ∨ i = 6 ∨ i = 7 ∨ i = 8 ∨ i = 9 ∨ i = 10 ∨ i = 11 ∨ i = 12 ∨ i = 13 ∨ i = 14 ∨ i = 15 ∨ i = 16 := by omega
 rcases hcase with rfl | rfl | rfl | rfl | rfl | rfl | rfl | rfl | rfl | rfl | rfl | rfl | rfl | rfl | rfl | rfl | rfl
 ·-- 0
  have nb : b0 = false := need_not hr
  refine wpOp_step (i := 0) (o := { dst := some 27, op := Op.load 25 (Operand.tmp 2), type := 25, pos := "law.go:79", after := #[], guard := none }) (by rfl) (fun K hK => ?_)
  have hx0 := (BX.below sb.get).c0
  have hx1 := (BX.below sb.get).c1
  refine event_step (v := .agg #[.slice A0 l0.length c0, .slice A1 l1.length c1]) (w1 := w') rfl ?_ ?_
  ·first | (go_simp; done) | (go_simp; rfl)
  refine hK _ _ ⟨true, b1, b2, b3, b4, b5, b6, b7, b8, b9, b10, b11, b12, b13, b14, b15, b16, x5, x6, x7, x8, x26, .agg #[.slice A0 l0.length c0, .slice A1 l1.length c1], x28, x29, x30, x31, x32, x33, x34, x35, p0, p1, p2, p3, v0, v1, v2, v3, v4, v5, g5, g6, g7, rfl, ?_, fun _ => rfl,
   f1,
   f2,
   f3,
   f4,
   f5,
   f6,
   f7,
   f8,
   f9,
   f10,
   f11,
   f12,
   d13,
   d14,
   d15,
   e1,
   e2,
   e3,
   f16,
   sb⟩
  simp only [Act.put, List.setIfInBounds_toArray, List.set_cons_zero, List.set_cons_succ]
 ·-- 1
  have nb : b1 = false := need_not hr
  have n0 : b0 = true := need (j := 0) hr rfl (by decide)
  refine wpOp_step (i := 1) (o := { dst := some 28, op := Op.call { callee := Callee.value (Operand.func 13), args := #[Operand.tmp 27], argTypes := #[25] }, type := 25, pos := "law.go:79", after := #[{ on := 0, ground := Ground.data }], guard := none }) (by rfl) (fun K hK => ?_)
  obtain rfl := f0 n0
  refine goes_ Try.func13 (by kernel_rfl) rfl #[.agg #[.slice A0 l0.length c0, .slice A1 l1.length c1]] (by rfl) rfl rfl (by (try simp only [List.map_toArray, List.map_cons, List.map_nil]); first | done | rfl) ?_
  refine (scarfjointref05_Copied.calls _ _ l0 _ _ l1 l0 l1 _ (G0.below sb.get).at_ G0.cap (G1.below sb.get).at_ G1.cap hC).mono ?_
  rintro e w1 ⟨q0, q1, rfl, h0, h1, hb⟩
  refine ⟨_, rfl, ?_⟩
  refine hK _ _ ⟨b0, true, b2, b3, b4, b5, b6, b7, b8, b9, b10, b11, b12, b13, b14, b15, b16, x5, x6, x7, x8, x26, .agg #[.slice A0 l0.length c0, .slice A1 l1.length c1], .agg #[q0, q1], x29, x30, x31, x32, x33, x34, x35, q0, q1, p2, p3, v0, v1, v2, v3, v4, v5, g5, g6, g7, rfl, ?_, fun _ => rfl,
   fun _ => ⟨rfl, Vr.of_R h0, Vr.of_R h1⟩,
   f2,
   fun h => ⟨(f3 h).1, (f3 h).2.1.below hb, (f3 h).2.2.below hb⟩,
   fun h => ⟨(f4 h).1, (f4 h).2.1.below hb, (f4 h).2.2.1.below hb, (f4 h).2.2.2.1.below hb, (f4 h).2.2.2.2.1.below hb, (f4 h).2.2.2.2.2.1.below hb, (f4 h).2.2.2.2.2.2.below hb⟩,
   f5,
   f6,
   f7,
   f8,
   f9,
   fun h => ⟨(f10 h).1, (f10 h).2.1, Nat.lt_of_lt_of_le (f10 h).2.2.1 hb.size, (f10 h).2.2.2.below hb⟩,
   fun h => ⟨(f11 h).1, (f11 h).2.1, Nat.lt_of_lt_of_le (f11 h).2.2.1 hb.size, (f11 h).2.2.2.below hb⟩,
   fun h => ⟨(f12 h).1, (f12 h).2.1, Nat.lt_of_lt_of_le (f12 h).2.2.1 hb.size, (f12 h).2.2.2.below hb⟩,
   d13,
   d14,
   d15,
   e1,
   e2,
   e3,
   f16,
   sb.step hb⟩
  simp only [Act.put, List.setIfInBounds_toArray, List.set_cons_zero, List.set_cons_succ]
 ·-- 2
  have nb : b2 = false := need_not hr
  refine wpOp_step (i := 2) (o := { dst := some 29, op := Op.load 25 (Operand.tmp 3), type := 25, pos := "law.go:79", after := #[], guard := none }) (by rfl) (fun K hK => ?_)
  have hx0 := (BY.below sb.get).c0
  have hx1 := (BY.below sb.get).c1
  refine event_step (v := .agg #[.slice A2 m0.length c2, .slice A3 m1.length c3]) (w1 := w') rfl ?_ ?_
  ·first | (go_simp; done) | (go_simp; rfl)
  refine hK _ _ ⟨b0, b1, true, b3, b4, b5, b6, b7, b8, b9, b10, b11, b12, b13, b14, b15, b16, x5, x6, x7, x8, x26, x27, x28, .agg #[.slice A2 m0.length c2, .slice A3 m1.length c3], x30, x31, x32, x33, x34, x35, p0, p1, p2, p3, v0, v1, v2, v3, v4, v5, g5, g6, g7, rfl, ?_, f0,
   f1,
   fun _ => rfl,
   f3,
   f4,
   f5,
   f6,
   f7,
   f8,
   f9,
   f10,
   f11,
   f12,
   d13,
   d14,
   d15,
   e1,
   e2,
   e3,
   f16,
   sb⟩
  simp only [Act.put, List.setIfInBounds_toArray, List.set_cons_zero, List.set_cons_succ]
 ·-- 3
  have nb : b3 = false := need_not hr
  have n2 : b2 = true := need (j := 2) hr rfl (by decide)
  have n1 : b1 = true := need (j := 1) hr rfl (by decide)
  refine wpOp_step (i := 3) (o := { dst := some 30, op := Op.call { callee := Callee.value (Operand.func 13), args := #[Operand.tmp 29], argTypes := #[25] }, type := 25, pos := "law.go:79", after := #[{ on := 2, ground := Ground.data }, { on := 1, ground := Ground.chain }], guard := none }) (by rfl) (fun K hK => ?_)
  obtain rfl := f2 n2
  refine goes_ Try.func13 (by kernel_rfl) rfl #[.agg #[.slice A2 m0.length c2, .slice A3 m1.length c3]] (by rfl) rfl rfl (by (try simp only [List.map_toArray, List.map_cons, List.map_nil]); first | done | rfl) ?_
  refine (scarfjointref05_Copied.calls _ _ m0 _ _ m1 m0 m1 _ (M0.below sb.get).at_ M0.cap (M1.below sb.get).at_ M1.cap hD).mono ?_
  rintro e w1 ⟨q0, q1, rfl, h0, h1, hb⟩
  refine ⟨_, rfl, ?_⟩
  refine hK _ _ ⟨b0, b1, b2, true, b4, b5, b6, b7, b8, b9, b10, b11, b12, b13, b14, b15, b16, x5, x6, x7, x8, x26, x27, x28, .agg #[.slice A2 m0.length c2, .slice A3 m1.length c3], .agg #[q0, q1], x31, x32, x33, x34, x35, p0, p1, q0, q1, v0, v1, v2, v3, v4, v5, g5, g6, g7, rfl, ?_, f0,
   fun h => ⟨(f1 h).1, (f1 h).2.1.below hb, (f1 h).2.2.below hb⟩,
   fun _ => rfl,
   fun _ => ⟨rfl, Vr.of_R h0, Vr.of_R h1⟩,
   fun h => ⟨(f4 h).1, (f4 h).2.1.below hb, (f4 h).2.2.1.below hb, (f4 h).2.2.2.1.below hb, (f4 h).2.2.2.2.1.below hb, (f4 h).2.2.2.2.2.1.below hb, (f4 h).2.2.2.2.2.2.below hb⟩,
   f5,
   f6,
   f7,
   f8,
   f9,
   fun h => ⟨(f10 h).1, (f10 h).2.1, Nat.lt_of_lt_of_le (f10 h).2.2.1 hb.size, (f10 h).2.2.2.below hb⟩,
   fun h => ⟨(f11 h).1, (f11 h).2.1, Nat.lt_of_lt_of_le (f11 h).2.2.1 hb.size, (f11 h).2.2.2.below hb⟩,
   fun h => ⟨(f12 h).1, (f12 h).2.1, Nat.lt_of_lt_of_le (f12 h).2.2.1 hb.size, (f12 h).2.2.2.below hb⟩,
   d13,
   d14,
   d15,
   e1,
   e2,
   e3,
   f16,
   sb.step hb⟩
  simp only [Act.put, List.setIfInBounds_toArray, List.set_cons_zero, List.set_cons_succ]
 ·-- 4
  have nb : b4 = false := need_not hr
  have n1 : b1 = true := need (j := 1) hr rfl (by decide)
  have n3 : b3 = true := need (j := 3) hr rfl (by decide)
  refine wpOp_step (i := 4) (o := { dst := some 31, op := Op.call { callee := Callee.value (Operand.func 31), args := #[Operand.tmp 28, Operand.tmp 30], argTypes := #[25, 25] }, type := 53, pos := "law.go:79", after := #[{ on := 1, ground := Ground.data }, { on := 3, ground := Ground.data }, { on := 3, ground := Ground.chain }], guard := none }) (by rfl) (fun K hK => ?_)
  have z13 : b13 = false := Bool.eq_false_iff.mpr (fun h => by have := (d13 h).1; rw [nb] at this; exact absurd this (by decide))
  subst z13
  have z14 : b14 = false := Bool.eq_false_iff.mpr (fun h => by have := (d14 h).1; rw [nb] at this; exact absurd this (by decide))
  subst z14
  have z15 : b15 = false := Bool.eq_false_iff.mpr (fun h => by have := (d15 h).1; rw [nb] at this; exact absurd this (by decide))
  subst z15
  obtain ⟨rfl, k0, k1⟩ := f1 n1
  obtain ⟨rfl, k2, k3⟩ := f3 n3
  obtain ⟨D0, d0, rfl, R0⟩ := k0.get
  obtain ⟨D1, d1, rfl, R1⟩ := k1.get
  obtain ⟨D2, d2, rfl, R2⟩ := k2.get
  obtain ⟨D3, d3, rfl, R3⟩ := k3.get
  refine goes_ Try.func31 (by kernel_rfl) rfl #[.agg #[.slice D0 l0.length d0, .slice D1 l1.length d1], .agg #[.slice D2 m0.length d2, .slice D3 m1.length d3]] (by rfl) rfl rfl (by (try simp only [List.map_toArray, List.map_cons, List.map_nil]); first | done | rfl) ?_
  refine (graph_Union.calls k _ _ _ l0 _ _ _ l1 _ _ _ m0 _ _ _ m1 r1 r2 r3 r4 r5 r6 r7 _ (R0.V (Kd.heap_int _) _ _) (R1.V heap38 _ _) (R2.V (Kd.heap_int _) _ _) (R3.V heap38 _ _) hU).mono ?_
  rintro e w1 ⟨q0, q1, q2, q3, q4, q5, rfl, h0, h1, h2, h3, h4, h5, hb⟩
  refine ⟨_, rfl, ?_⟩
  refine hK _ _ ⟨b0, b1, b2, b3, true, b5, b6, b7, b8, b9, b10, b11, b12, false, false, false, b16, x5, x6, x7, x8, x26, x27, .agg #[.slice D0 l0.length d0, .slice D1 l1.length d1], x29, .agg #[.slice D2 m0.length d2, .slice D3 m1.length d3], .tuple #[.agg #[q0, q1], .agg #[q2, q3], .agg #[q4, q5], .int .i64 r7], x32, x33, x34, x35, .slice D0 l0.length d0, .slice D1 l1.length d1, .slice D2 m0.length d2, .slice D3 m1.length d3, q0, q1, q2, q3, q4, q5, g5, g6, g7, rfl, ?_, f0,
   fun h => ⟨(f1 h).1, (f1 h).2.1.below hb, (f1 h).2.2.below hb⟩,
   f2,
   fun h => ⟨(f3 h).1, (f3 h).2.1.below hb, (f3 h).2.2.below hb⟩,
   fun _ => ⟨rfl, Vr.of_R h0, Vr.of_R h1, Vr.of_R h2, Vr.of_R h3, Vr.of_R h4, Vr.of_R h5⟩,
   fun h => absurd (f5 h).1 (by rw [nb]; decide),
   fun h => absurd (f6 h).1 (by rw [nb]; decide),
   fun h => absurd (f7 h).1 (by rw [nb]; decide),
   fun h => absurd (f8 h).1 (by rw [nb]; decide),
   fun h => absurd (f9 h).1 (by rw [nb]; decide),
   fun h => ⟨(f10 h).1, (f10 h).2.1, Nat.lt_of_lt_of_le (f10 h).2.2.1 hb.size, (f10 h).2.2.2.below hb⟩,
   fun h => ⟨(f11 h).1, (f11 h).2.1, Nat.lt_of_lt_of_le (f11 h).2.2.1 hb.size, (f11 h).2.2.2.below hb⟩,
   fun h => ⟨(f12 h).1, (f12 h).2.1, Nat.lt_of_lt_of_le (f12 h).2.2.1 hb.size, (f12 h).2.2.2.below hb⟩,
   fun h => absurd h (by decide),
   fun h => absurd h (by decide),
   fun h => absurd h (by decide),
   e1,
   e2,
   e3,
   f16,
   sb.step hb⟩
  simp only [Act.put, List.setIfInBounds_toArray, List.set_cons_zero, List.set_cons_succ]
 ·-- 5
  have nb : b5 = false := need_not hr
  have n4 : b4 = true := need (j := 4) hr rfl (by decide)
  refine wpOp_step (i := 5) (o := { dst := some 26, op := Op.move (Operand.tmp 31), type := 53, pos := "law.go:79", after := #[{ on := 4, ground := Ground.data }], guard := none }) (by rfl) (fun K hK => ?_)
  obtain rfl := (f4 n4).1
  refine event_step (v := .tuple #[.agg #[v0, v1], .agg #[v2, v3], .agg #[v4, v5], .int .i64 r7]) (w1 := w') rfl ?_ ?_
  ·first | (go_simp; done) | (go_simp; rfl)
  refine hK _ _ ⟨b0, b1, b2, b3, b4, true, b6, b7, b8, b9, b10, b11, b12, b13, b14, b15, b16, x5, x6, x7, x8, .tuple #[.agg #[v0, v1], .agg #[v2, v3], .agg #[v4, v5], .int .i64 r7], x27, x28, x29, x30, .tuple #[.agg #[v0, v1], .agg #[v2, v3], .agg #[v4, v5], .int .i64 r7], x32, x33, x34, x35, p0, p1, p2, p3, v0, v1, v2, v3, v4, v5, g5, g6, g7, rfl, ?_, f0,
   f1,
   f2,
   f3,
   f4,
   fun _ => ⟨n4, rfl⟩,
   f6,
   f7,
   f8,
   f9,
   f10,
   f11,
   f12,
   d13,
   d14,
   d15,
   e1,
   e2,
   e3,
   f16,
   sb⟩
  simp only [Act.put, List.setIfInBounds_toArray, List.set_cons_zero, List.set_cons_succ]
 ·-- 6
  have nb : b6 = false := need_not hr
  have n5 : b5 = true := need (j := 5) hr rfl (by decide)
  refine wpOp_step (i := 6) (o := { dst := some 32, op := Op.extract (Operand.tmp 26) 0, type := 25, pos := "law.go:79", after := #[{ on := 5, ground := Ground.data }], guard := none }) (by rfl) (fun K hK => ?_)
  obtain ⟨n4, rfl⟩ := f5 n5
  refine event_step (v := .agg #[v0, v1]) (w1 := w') rfl ?_ ?_
  ·first | (go_simp; done) | (go_simp; rfl)
  refine hK _ _ ⟨b0, b1, b2, b3, b4, b5, true, b7, b8, b9, b10, b11, b12, b13, b14, b15, b16, x5, x6, x7, x8, .tuple #[.agg #[v0, v1], .agg #[v2, v3], .agg #[v4, v5], .int .i64 r7], x27, x28, x29, x30, x31, .agg #[v0, v1], x33, x34, x35, p0, p1, p2, p3, v0, v1, v2, v3, v4, v5, g5, g6, g7, rfl, ?_, f0,
   f1,
   f2,
   f3,
   f4,
   fun _ => ⟨n4, rfl⟩,
   fun _ => ⟨n4, rfl⟩,
   f7,
   f8,
   f9,
   f10,
   f11,
   f12,
   d13,
   d14,
   d15,
   e1,
   e2,
   e3,
   f16,
   sb⟩
  simp only [Act.put, List.setIfInBounds_toArray, List.set_cons_zero, List.set_cons_succ]
 ·-- 7
  have nb : b7 = false := need_not hr
  have n5 : b5 = true := need (j := 5) hr rfl (by decide)
  refine wpOp_step (i := 7) (o := { dst := some 33, op := Op.extract (Operand.tmp 26) 1, type := 29, pos := "law.go:79", after := #[{ on := 5, ground := Ground.data }, { on := 13, ground := Ground.gcOnly Departure.lateStores }], guard := none }) (by rfl) (fun K hK => ?_)
  obtain ⟨n4, rfl⟩ := f5 n5
  refine event_step (v := .agg #[v2, v3]) (w1 := w') rfl ?_ ?_
  ·first | (go_simp; done) | (go_simp; rfl)
  refine hK _ _ ⟨b0, b1, b2, b3, b4, b5, b6, true, b8, b9, b10, b11, b12, b13, b14, b15, b16, x5, x6, x7, x8, .tuple #[.agg #[v0, v1], .agg #[v2, v3], .agg #[v4, v5], .int .i64 r7], x27, x28, x29, x30, x31, x32, .agg #[v2, v3], x34, x35, p0, p1, p2, p3, v0, v1, v2, v3, v4, v5, g5, g6, g7, rfl, ?_, f0,
   f1,
   f2,
   f3,
   f4,
   fun _ => ⟨n4, rfl⟩,
   f6,
   fun _ => ⟨n4, rfl⟩,
   f8,
   f9,
   f10,
   f11,
   f12,
   d13,
   d14,
   d15,
   e1,
   e2,
   e3,
   f16,
   sb⟩
  simp only [Act.put, List.setIfInBounds_toArray, List.set_cons_zero, List.set_cons_succ]
 ·-- 8
  have nb : b8 = false := need_not hr
  have n5 : b5 = true := need (j := 5) hr rfl (by decide)
  refine wpOp_step (i := 8) (o := { dst := some 34, op := Op.extract (Operand.tmp 26) 2, type := 29, pos := "law.go:79", after := #[{ on := 5, ground := Ground.data }, { on := 14, ground := Ground.gcOnly Departure.lateStores }], guard := none }) (by rfl) (fun K hK => ?_)
  obtain ⟨n4, rfl⟩ := f5 n5
  refine event_step (v := .agg #[v4, v5]) (w1 := w') rfl ?_ ?_
  ·first | (go_simp; done) | (go_simp; rfl)
  refine hK _ _ ⟨b0, b1, b2, b3, b4, b5, b6, b7, true, b9, b10, b11, b12, b13, b14, b15, b16, x5, x6, x7, x8, .tuple #[.agg #[v0, v1], .agg #[v2, v3], .agg #[v4, v5], .int .i64 r7], x27, x28, x29, x30, x31, x32, x33, .agg #[v4, v5], x35, p0, p1, p2, p3, v0, v1, v2, v3, v4, v5, g5, g6, g7, rfl, ?_, f0,
   f1,
   f2,
   f3,
   f4,
   fun _ => ⟨n4, rfl⟩,
   f6,
   f7,
   fun _ => ⟨n4, rfl⟩,
   f9,
   f10,
   f11,
   f12,
   d13,
   d14,
   d15,
   e1,
   e2,
   e3,
   f16,
   sb⟩
  simp only [Act.put, List.setIfInBounds_toArray, List.set_cons_zero, List.set_cons_succ]
 ·-- 9
  have nb : b9 = false := need_not hr
  have n5 : b5 = true := need (j := 5) hr rfl (by decide)
  refine wpOp_step (i := 9) (o := { dst := some 35, op := Op.extract (Operand.tmp 26) 3, type := 30, pos := "law.go:79", after := #[{ on := 5, ground := Ground.data }, { on := 15, ground := Ground.gcOnly Departure.lateStores }], guard := none }) (by rfl) (fun K hK => ?_)
  obtain ⟨n4, rfl⟩ := f5 n5
  refine event_step (v := .int .i64 r7) (w1 := w') rfl ?_ ?_
  ·first | (go_simp; done) | (go_simp; rfl)
  refine hK _ _ ⟨b0, b1, b2, b3, b4, b5, b6, b7, b8, true, b10, b11, b12, b13, b14, b15, b16, x5, x6, x7, x8, .tuple #[.agg #[v0, v1], .agg #[v2, v3], .agg #[v4, v5], .int .i64 r7], x27, x28, x29, x30, x31, x32, x33, x34, .int .i64 r7, p0, p1, p2, p3, v0, v1, v2, v3, v4, v5, g5, g6, g7, rfl, ?_, f0,
   f1,
   f2,
   f3,
   f4,
   fun _ => ⟨n4, rfl⟩,
   f6,
   f7,
   f8,
   fun _ => ⟨n4, rfl⟩,
   f10,
   f11,
   f12,
   d13,
   d14,
   d15,
   e1,
   e2,
   e3,
   f16,
   sb⟩
  simp only [Act.put, List.setIfInBounds_toArray, List.set_cons_zero, List.set_cons_succ]
 ·-- 10
  have nb : b10 = false := need_not hr
  refine wpOp_step (i := 10) (o := { dst := some 5, op := Op.alloc 25, type := 0, pos := "law.go:79", after := #[], guard := none }) (by rfl) (fun K hK => ?_)
  have z13 : b13 = false := Bool.eq_false_iff.mpr (fun h => by have := (d13 h).2; rw [nb] at this; exact absurd this (by decide))
  subst z13
  refine box_step (N := 5) rfl rfl (cs := #[.slice none 0 0, .slice none 0 0]) (t := 25) ?_ ?_
  ·first | (go_simp; done) | (go_simp; rfl)
  intro g hg w1 hbox hb
  refine hK _ _ ⟨b0, b1, b2, b3, b4, b5, b6, b7, b8, b9, true, b11, b12, false, b14, b15, b16, .pointer (some ⟨g, 0, none⟩), x6, x7, x8, x26, x27, x28, x29, x30, x31, x32, x33, x34, x35, p0, p1, p2, p3, v0, v1, v2, v3, v4, v5, g, g6, g7, rfl, ?_, f0,
   fun h => ⟨(f1 h).1, (f1 h).2.1.below hb, (f1 h).2.2.below hb⟩,
   f2,
   fun h => ⟨(f3 h).1, (f3 h).2.1.below hb, (f3 h).2.2.below hb⟩,
   fun h => ⟨(f4 h).1, (f4 h).2.1.below hb, (f4 h).2.2.1.below hb, (f4 h).2.2.2.1.below hb, (f4 h).2.2.2.2.1.below hb, (f4 h).2.2.2.2.2.1.below hb, (f4 h).2.2.2.2.2.2.below hb⟩,
   f5,
   f6,
   f7,
   f8,
   f9,
   fun _ => ⟨rfl, Nat.le_trans sb.get.size (Nat.le_of_eq hg.symm), blk_lt hbox, ⟨hbox⟩⟩,
   fun h => ⟨(f11 h).1, (f11 h).2.1, Nat.lt_of_lt_of_le (f11 h).2.2.1 hb.size, (f11 h).2.2.2.below hb⟩,
   fun h => ⟨(f12 h).1, (f12 h).2.1, Nat.lt_of_lt_of_le (f12 h).2.2.1 hb.size, (f12 h).2.2.2.below hb⟩,
   fun h => absurd h (by decide),
   d14,
   d15,
   fun h1 h2 => by have := (f11 h2).2.2.1; omega,
   fun h1 h2 => by have := (f12 h2).2.2.1; omega,
   e3,
   f16,
   sb.step hb⟩
  simp only [Act.put, List.setIfInBounds_toArray, List.set_cons_zero, List.set_cons_succ]
 ·-- 11
  have nb : b11 = false := need_not hr
  refine wpOp_step (i := 11) (o := { dst := some 6, op := Op.alloc 29, type := 0, pos := "law.go:79", after := #[], guard := none }) (by rfl) (fun K hK => ?_)
  have z14 : b14 = false := Bool.eq_false_iff.mpr (fun h => by have := (d14 h).2; rw [nb] at this; exact absurd this (by decide))
  subst z14
  refine box_step (N := 6) rfl rfl (cs := #[.slice none 0 0, .slice none 0 0]) (t := 29) ?_ ?_
  ·first | (go_simp; done) | (go_simp; rfl)
  intro g hg w1 hbox hb
  refine hK _ _ ⟨b0, b1, b2, b3, b4, b5, b6, b7, b8, b9, b10, true, b12, b13, false, b15, b16, x5, .pointer (some ⟨g, 0, none⟩), x7, x8, x26, x27, x28, x29, x30, x31, x32, x33, x34, x35, p0, p1, p2, p3, v0, v1, v2, v3, v4, v5, g5, g, g7, rfl, ?_, f0,
   fun h => ⟨(f1 h).1, (f1 h).2.1.below hb, (f1 h).2.2.below hb⟩,
   f2,
   fun h => ⟨(f3 h).1, (f3 h).2.1.below hb, (f3 h).2.2.below hb⟩,
   fun h => ⟨(f4 h).1, (f4 h).2.1.below hb, (f4 h).2.2.1.below hb, (f4 h).2.2.2.1.below hb, (f4 h).2.2.2.2.1.below hb, (f4 h).2.2.2.2.2.1.below hb, (f4 h).2.2.2.2.2.2.below hb⟩,
   f5,
   f6,
   f7,
   f8,
   f9,
   fun h => ⟨(f10 h).1, (f10 h).2.1, Nat.lt_of_lt_of_le (f10 h).2.2.1 hb.size, (f10 h).2.2.2.below hb⟩,
   fun _ => ⟨rfl, Nat.le_trans sb.get.size (Nat.le_of_eq hg.symm), blk_lt hbox, ⟨hbox⟩⟩,
   fun h => ⟨(f12 h).1, (f12 h).2.1, Nat.lt_of_lt_of_le (f12 h).2.2.1 hb.size, (f12 h).2.2.2.below hb⟩,
   d13,
   fun h => absurd h (by decide),
   d15,
   fun h1 h2 => by have := (f10 h1).2.2.1; omega,
   e2,
   fun h1 h2 => by have := (f12 h2).2.2.1; omega,
   f16,
   sb.step hb⟩
  simp only [Act.put, List.setIfInBounds_toArray, List.set_cons_zero, List.set_cons_succ]
 ·-- 12
  have nb : b12 = false := need_not hr
  refine wpOp_step (i := 12) (o := { dst := some 7, op := Op.alloc 29, type := 0, pos := "law.go:79", after := #[], guard := none }) (by rfl) (fun K hK => ?_)
  have z15 : b15 = false := Bool.eq_false_iff.mpr (fun h => by have := (d15 h).2; rw [nb] at this; exact absurd this (by decide))
  subst z15
  refine box_step (N := 7) rfl rfl (cs := #[.slice none 0 0, .slice none 0 0]) (t := 29) ?_ ?_
  ·first | (go_simp; done) | (go_simp; rfl)
  intro g hg w1 hbox hb
  refine hK _ _ ⟨b0, b1, b2, b3, b4, b5, b6, b7, b8, b9, b10, b11, true, b13, b14, false, b16, x5, x6, .pointer (some ⟨g, 0, none⟩), x8, x26, x27, x28, x29, x30, x31, x32, x33, x34, x35, p0, p1, p2, p3, v0, v1, v2, v3, v4, v5, g5, g6, g, rfl, ?_, f0,
   fun h => ⟨(f1 h).1, (f1 h).2.1.below hb, (f1 h).2.2.below hb⟩,
   f2,
   fun h => ⟨(f3 h).1, (f3 h).2.1.below hb, (f3 h).2.2.below hb⟩,
   fun h => ⟨(f4 h).1, (f4 h).2.1.below hb, (f4 h).2.2.1.below hb, (f4 h).2.2.2.1.below hb, (f4 h).2.2.2.2.1.below hb, (f4 h).2.2.2.2.2.1.below hb, (f4 h).2.2.2.2.2.2.below hb⟩,
   f5,
   f6,
   f7,
   f8,
   f9,
   fun h => ⟨(f10 h).1, (f10 h).2.1, Nat.lt_of_lt_of_le (f10 h).2.2.1 hb.size, (f10 h).2.2.2.below hb⟩,
   fun h => ⟨(f11 h).1, (f11 h).2.1, Nat.lt_of_lt_of_le (f11 h).2.2.1 hb.size, (f11 h).2.2.2.below hb⟩,
   fun _ => ⟨rfl, Nat.le_trans sb.get.size (Nat.le_of_eq hg.symm), blk_lt hbox, ⟨hbox⟩⟩,
   d13,
   d14,
   fun h => absurd h (by decide),
   e1,
   fun h1 h2 => by have := (f10 h1).2.2.1; omega,
   fun h1 h2 => by have := (f11 h1).2.2.1; omega,
   f16,
   sb.step hb⟩
  simp only [Act.put, List.setIfInBounds_toArray, List.set_cons_zero, List.set_cons_succ]
 ·-- 13
  have nb : b13 = false := need_not hr
  have n10 : b10 = true := need (j := 10) hr rfl (by decide)
  have n6 : b6 = true := need (j := 6) hr rfl (by decide)
  have n4 : b4 = true := need (j := 4) hr rfl (by decide)
  have n0 : b0 = true := need (j := 0) hr rfl (by decide)
  have n1 : b1 = true := need (j := 1) hr rfl (by decide)
  have n2 : b2 = true := need (j := 2) hr rfl (by decide)
  have n3 : b3 = true := need (j := 3) hr rfl (by decide)
  have n5 : b5 = true := need (j := 5) hr rfl (by decide)
  have n11 : b11 = true := need (j := 11) hr rfl (by decide)
  have n12 : b12 = true := need (j := 12) hr rfl (by decide)
  refine wpOp_step (i := 13) (o := { dst := none, op := Op.store 25 (Operand.tmp 5) (Operand.tmp 32), type := 0, pos := "law.go:79", after := #[{ on := 10, ground := Ground.data }, { on := 6, ground := Ground.data }, { on := 4, ground := Ground.chain }, { on := 0, ground := Ground.phase }, { on := 1, ground := Ground.phase }, { on := 2, ground := Ground.phase }, { on := 3, ground := Ground.phase }, { on := 4, ground := Ground.phase }, { on := 5, ground := Ground.phase }, { on := 6, ground := Ground.phase }, { on := 7, ground := Ground.textOnly Departure.lateStores }, { on := 8, ground := Ground.textOnly Departure.lateStores }, { on := 9, ground := Ground.textOnly Departure.lateStores }, { on := 10, ground := Ground.phase }, { on := 11, ground := Ground.phase }, { on := 12, ground := Ground.phase }], guard := none }) (by rfl) (fun K hK => ?_)
  obtain ⟨rfl, k1, k2, k3⟩ := f10 n10
  obtain ⟨_, rfl⟩ := f6 n6
  have nb' : b13 = false := nb
  subst nb'
  replace k3 : Box2 w' g5 25 (.slice none 0 0) (.slice none 0 0) := k3
  obtain ⟨E0, e0, rfl, _⟩ := (f4 n4).2.1.get
  obtain ⟨E1, e1', rfl, _⟩ := (f4 n4).2.2.1.get
  have hs0 := k3.c0
  have hs1 := k3.c1
  have hf0 := blk_frozen k3.get 0
  have hf1 := blk_frozen k3.get 1
  refine skip_ (w1 := ?_) (by rfl) rfl ?_ ?_
  rotate_left
  ·go_simp
   rfl
  refine hK _ _ ⟨b0, b1, b2, b3, b4, b5, b6, b7, b8, b9, b10, b11, b12, true, b14, b15, b16, .pointer (some ⟨g5, 0, none⟩), x6, x7, x8, x26, x27, x28, x29, x30, x31, .agg #[.slice E0 r1.length e0, .slice E1 r2.length e1'], x33, x34, x35, p0, p1, p2, p3, .slice E0 r1.length e0, .slice E1 r2.length e1', v2, v3, v4, v5, g5, g6, g7, rfl, ?_, f0,
   fun h => ⟨(f1 h).1, (f1 h).2.1.far2 flat_int k3 nil_ne nil_ne (fun _ e => by cases e) _, (f1 h).2.2.far2 flat38 k3 nil_ne nil_ne (fun _ e => by cases e) _⟩,
   f2,
   fun h => ⟨(f3 h).1, (f3 h).2.1.far2 flat_int k3 nil_ne nil_ne (fun _ e => by cases e) _, (f3 h).2.2.far2 flat38 k3 nil_ne nil_ne (fun _ e => by cases e) _⟩,
   fun h => ⟨(f4 h).1, (f4 h).2.1.far2 flat_int k3 nil_ne nil_ne (fun _ e => by cases e) _, (f4 h).2.2.1.far2 flat38 k3 nil_ne nil_ne (fun _ e => by cases e) _, (f4 h).2.2.2.1.far2 flat_int k3 nil_ne nil_ne (fun _ e => by cases e) _, (f4 h).2.2.2.2.1.far2 flat_int k3 nil_ne nil_ne (fun _ e => by cases e) _, (f4 h).2.2.2.2.2.1.far2 flat_int k3 nil_ne nil_ne (fun _ e => by cases e) _, (f4 h).2.2.2.2.2.2.far2 flat_int k3 nil_ne nil_ne (fun _ e => by cases e) _⟩,
   f5,
   f6,
   f7,
   f8,
   f9,
   fun _ => ⟨rfl, k1, size_put2 k2 _ _, k3.put2 _ _⟩,
   fun h => ⟨(f11 h).1, (f11 h).2.1, size_put2 (f11 h).2.2.1 _ _, (f11 h).2.2.2.far2 (e1 n10 h).symm _ _⟩,
   fun h => ⟨(f12 h).1, (f12 h).2.1, size_put2 (f12 h).2.2.1 _ _, (f12 h).2.2.2.far2 (e2 n10 h).symm _ _⟩,
   fun _ => ⟨n4, n10⟩,
   d14,
   d15,
   e1,
   e2,
   e3,
   f16,
   sb.put2 k1 _ _⟩
  simp only [Act.put, List.setIfInBounds_toArray, List.set_cons_zero, List.set_cons_succ]
 ·-- 14
  have nb : b14 = false := need_not hr
  have n11 : b11 = true := need (j := 11) hr rfl (by decide)
  have n7 : b7 = true := need (j := 7) hr rfl (by decide)
  have n13 : b13 = true := need (j := 13) hr rfl (by decide)
  have n4 : b4 = true := need (j := 4) hr rfl (by decide)
  have n10 : b10 = true := need (j := 10) hr rfl (by decide)
  have n12 : b12 = true := need (j := 12) hr rfl (by decide)
  refine wpOp_step (i := 14) (o := { dst := none, op := Op.store 29 (Operand.tmp 6) (Operand.tmp 33), type := 0, pos := "law.go:79", after := #[{ on := 11, ground := Ground.data }, { on := 7, ground := Ground.data }, { on := 13, ground := Ground.chain }, { on := 0, ground := Ground.phase }, { on := 1, ground := Ground.phase }, { on := 2, ground := Ground.phase }, { on := 3, ground := Ground.phase }, { on := 4, ground := Ground.phase }, { on := 5, ground := Ground.phase }, { on := 6, ground := Ground.phase }, { on := 7, ground := Ground.phase }, { on := 8, ground := Ground.textOnly Departure.lateStores }, { on := 9, ground := Ground.textOnly Departure.lateStores }, { on := 10, ground := Ground.phase }, { on := 11, ground := Ground.phase }, { on := 12, ground := Ground.phase }, { on := 13, ground := Ground.phase }], guard := none }) (by rfl) (fun K hK => ?_)
  obtain ⟨rfl, k1, k2, k3⟩ := f11 n11
  obtain ⟨_, rfl⟩ := f7 n7
  have nb' : b14 = false := nb
  subst nb'
  replace k3 : Box2 w' g6 29 (.slice none 0 0) (.slice none 0 0) := k3
  obtain ⟨E0, e0, rfl, _⟩ := (f4 n4).2.2.2.1.get
  obtain ⟨E1, e1', rfl, _⟩ := (f4 n4).2.2.2.2.1.get
  have hs0 := k3.c0
  have hs1 := k3.c1
  have hf0 := blk_frozen k3.get 0
  have hf1 := blk_frozen k3.get 1
  refine skip_ (w1 := ?_) (by rfl) rfl ?_ ?_
  rotate_left
  ·go_simp
   rfl
  refine hK _ _ ⟨b0, b1, b2, b3, b4, b5, b6, b7, b8, b9, b10, b11, b12, b13, true, b15, b16, x5, .pointer (some ⟨g6, 0, none⟩), x7, x8, x26, x27, x28, x29, x30, x31, x32, .agg #[.slice E0 r3.length e0, .slice E1 r4.length e1'], x34, x35, p0, p1, p2, p3, v0, v1, .slice E0 r3.length e0, .slice E1 r4.length e1', v4, v5, g5, g6, g7, rfl, ?_, f0,
   fun h => ⟨(f1 h).1, (f1 h).2.1.far2 flat_int k3 nil_ne nil_ne (fun _ e => by cases e) _, (f1 h).2.2.far2 flat38 k3 nil_ne nil_ne (fun _ e => by cases e) _⟩,
   f2,
   fun h => ⟨(f3 h).1, (f3 h).2.1.far2 flat_int k3 nil_ne nil_ne (fun _ e => by cases e) _, (f3 h).2.2.far2 flat38 k3 nil_ne nil_ne (fun _ e => by cases e) _⟩,
   fun h => ⟨(f4 h).1, (f4 h).2.1.far2 flat_int k3 nil_ne nil_ne (fun _ e => by cases e) _, (f4 h).2.2.1.far2 flat38 k3 nil_ne nil_ne (fun _ e => by cases e) _, (f4 h).2.2.2.1.far2 flat_int k3 nil_ne nil_ne (fun _ e => by cases e) _, (f4 h).2.2.2.2.1.far2 flat_int k3 nil_ne nil_ne (fun _ e => by cases e) _, (f4 h).2.2.2.2.2.1.far2 flat_int k3 nil_ne nil_ne (fun _ e => by cases e) _, (f4 h).2.2.2.2.2.2.far2 flat_int k3 nil_ne nil_ne (fun _ e => by cases e) _⟩,
   f5,
   f6,
   f7,
   f8,
   f9,
   fun h => ⟨(f10 h).1, (f10 h).2.1, size_put2 (f10 h).2.2.1 _ _, (f10 h).2.2.2.far2 (e1 h n11) _ _⟩,
   fun _ => ⟨rfl, k1, size_put2 k2 _ _, k3.put2 _ _⟩,
   fun h => ⟨(f12 h).1, (f12 h).2.1, size_put2 (f12 h).2.2.1 _ _, (f12 h).2.2.2.far2 (e3 n11 h).symm _ _⟩,
   d13,
   fun _ => ⟨n4, n11⟩,
   d15,
   e1,
   e2,
   e3,
   f16,
   sb.put2 k1 _ _⟩
  simp only [Act.put, List.setIfInBounds_toArray, List.set_cons_zero, List.set_cons_succ]
 ·-- 15
  have nb : b15 = false := need_not hr
  have n12 : b12 = true := need (j := 12) hr rfl (by decide)
  have n8 : b8 = true := need (j := 8) hr rfl (by decide)
  have n14 : b14 = true := need (j := 14) hr rfl (by decide)
  have n4 : b4 = true := need (j := 4) hr rfl (by decide)
  have n10 : b10 = true := need (j := 10) hr rfl (by decide)
  have n11 : b11 = true := need (j := 11) hr rfl (by decide)
  refine wpOp_step (i := 15) (o := { dst := none, op := Op.store 29 (Operand.tmp 7) (Operand.tmp 34), type := 0, pos := "law.go:79", after := #[{ on := 12, ground := Ground.data }, { on := 8, ground := Ground.data }, { on := 14, ground := Ground.chain }, { on := 0, ground := Ground.phase }, { on := 1, ground := Ground.phase }, { on := 2, ground := Ground.phase }, { on := 3, ground := Ground.phase }, { on := 4, ground := Ground.phase }, { on := 5, ground := Ground.phase }, { on := 6, ground := Ground.phase }, { on := 7, ground := Ground.phase }, { on := 8, ground := Ground.phase }, { on := 9, ground := Ground.textOnly Departure.lateStores }, { on := 10, ground := Ground.phase }, { on := 11, ground := Ground.phase }, { on := 12, ground := Ground.phase }, { on := 13, ground := Ground.phase }, { on := 14, ground := Ground.phase }], guard := none }) (by rfl) (fun K hK => ?_)
  obtain ⟨rfl, k1, k2, k3⟩ := f12 n12
  obtain ⟨_, rfl⟩ := f8 n8
  have nb' : b15 = false := nb
  subst nb'
  replace k3 : Box2 w' g7 29 (.slice none 0 0) (.slice none 0 0) := k3
  obtain ⟨E0, e0, rfl, _⟩ := (f4 n4).2.2.2.2.2.1.get
  obtain ⟨E1, e1', rfl, _⟩ := (f4 n4).2.2.2.2.2.2.get
  have hs0 := k3.c0
  have hs1 := k3.c1
  have hf0 := blk_frozen k3.get 0
  have hf1 := blk_frozen k3.get 1
  refine skip_ (w1 := ?_) (by rfl) rfl ?_ ?_
  rotate_left
  ·go_simp
   rfl
  refine hK _ _ ⟨b0, b1, b2, b3, b4, b5, b6, b7, b8, b9, b10, b11, b12, b13, b14, true, b16, x5, x6, .pointer (some ⟨g7, 0, none⟩), x8, x26, x27, x28, x29, x30, x31, x32, x33, .agg #[.slice E0 r5.length e0, .slice E1 r6.length e1'], x35, p0, p1, p2, p3, v0, v1, v2, v3, .slice E0 r5.length e0, .slice E1 r6.length e1', g5, g6, g7, rfl, ?_, f0,
   fun h => ⟨(f1 h).1, (f1 h).2.1.far2 flat_int k3 nil_ne nil_ne (fun _ e => by cases e) _, (f1 h).2.2.far2 flat38 k3 nil_ne nil_ne (fun _ e => by cases e) _⟩,
   f2,
   fun h => ⟨(f3 h).1, (f3 h).2.1.far2 flat_int k3 nil_ne nil_ne (fun _ e => by cases e) _, (f3 h).2.2.far2 flat38 k3 nil_ne nil_ne (fun _ e => by cases e) _⟩,
   fun h => ⟨(f4 h).1, (f4 h).2.1.far2 flat_int k3 nil_ne nil_ne (fun _ e => by cases e) _, (f4 h).2.2.1.far2 flat38 k3 nil_ne nil_ne (fun _ e => by cases e) _, (f4 h).2.2.2.1.far2 flat_int k3 nil_ne nil_ne (fun _ e => by cases e) _, (f4 h).2.2.2.2.1.far2 flat_int k3 nil_ne nil_ne (fun _ e => by cases e) _, (f4 h).2.2.2.2.2.1.far2 flat_int k3 nil_ne nil_ne (fun _ e => by cases e) _, (f4 h).2.2.2.2.2.2.far2 flat_int k3 nil_ne nil_ne (fun _ e => by cases e) _⟩,
   f5,
   f6,
   f7,
   f8,
   f9,
   fun h => ⟨(f10 h).1, (f10 h).2.1, size_put2 (f10 h).2.2.1 _ _, (f10 h).2.2.2.far2 (e2 h n12) _ _⟩,
   fun h => ⟨(f11 h).1, (f11 h).2.1, size_put2 (f11 h).2.2.1 _ _, (f11 h).2.2.2.far2 (e3 h n12) _ _⟩,
   fun _ => ⟨rfl, k1, size_put2 k2 _ _, k3.put2 _ _⟩,
   d13,
   d14,
   fun _ => ⟨n4, n12⟩,
   e1,
   e2,
   e3,
   f16,
   sb.put2 k1 _ _⟩
  simp only [Act.put, List.setIfInBounds_toArray, List.set_cons_zero, List.set_cons_succ]
 ·-- 16
  have nb : b16 = false := need_not hr
  have n9 : b9 = true := need (j := 9) hr rfl (by decide)
  have n15 : b15 = true := need (j := 15) hr rfl (by decide)
  refine wpOp_step (i := 16) (o := { dst := some 8, op := Op.assign (Operand.tmp 35), type := 30, pos := "law.go:79", after := #[{ on := 9, ground := Ground.data }, { on := 15, ground := Ground.chain }, { on := 0, ground := Ground.phase }, { on := 1, ground := Ground.phase }, { on := 2, ground := Ground.phase }, { on := 3, ground := Ground.phase }, { on := 4, ground := Ground.phase }, { on := 5, ground := Ground.phase }, { on := 6, ground := Ground.phase }, { on := 7, ground := Ground.phase }, { on := 8, ground := Ground.phase }, { on := 9, ground := Ground.phase }, { on := 10, ground := Ground.phase }, { on := 11, ground := Ground.phase }, { on := 12, ground := Ground.phase }, { on := 13, ground := Ground.phase }, { on := 14, ground := Ground.phase }, { on := 15, ground := Ground.phase }], guard := none }) (by rfl) (fun K hK => ?_)
  obtain ⟨_, rfl⟩ := f9 n9
  refine event_step (v := .int .i64 r7) (w1 := w') rfl ?_ ?_
  ·first | (go_simp; done) | (go_simp; rfl)
  refine hK _ _ ⟨b0, b1, b2, b3, b4, b5, b6, b7, b8, b9, b10, b11, b12, b13, b14, b15, true, x5, x6, x7, .int .i64 r7, x26, x27, x28, x29, x30, x31, x32, x33, x34, .int .i64 r7, p0, p1, p2, p3, v0, v1, v2, v3, v4, v5, g5, g6, g7, rfl, ?_, f0,
   f1,
   f2,
   f3,
   f4,
   f5,
   f6,
   f7,
   f8,
   f9,
   f10,
   f11,
   f12,
   d13,
   d14,
   d15,
   e1,
   e2,
   e3,
   fun _ => rfl,
   sb⟩
  simp only [Act.put, List.setIfInBounds_toArray, List.set_cons_zero, List.set_cons_succ]
set_option maxHeartbeats 4000000 in
set_option maxRecDepth 100000 in
theorem law7_few (k : Nat) (A0 : Option Addr) (c0 : Nat) (l0 : List Int) (A1 : Option Addr) (c1 : Nat) (l1 : List S38) (A2 : Option Addr) (c2 : Nat) (m0 : List Int) (A3 : Option Addr) (c3 : Nat) (m1 : List S38) (w : World) (G0 : Row (Kd.int .i64) w A0 c0 l0) (G1 : Row k38 w A1 c1 l1) (M0 : Row (Kd.int .i64) w A2 c2 m0) (M1 : Row k38 w A3 c3 m1)
  (hA : scarfjointlaw05_awake.f k = some true) (hF : scarfjointref05_Few.f l0 l1 = some false) :
  Calls Try.prog 7 #[.agg #[.slice A0 l0.length c0, .slice A1 l1.length c1], .agg #[.slice A2 m0.length c2, .slice A3 m1.length c3]] w fun e w' => e = .returned (.bool true) ∧ Below w.heap.size w w' := by
 have hu25 := Try.underlying25
 have hu29 := Try.underlying29
 have hu38 := Try.underlying38
 have HA_ := Aside0.mk hA
 have HF_ := Aside0.mk hF
 clear hA hF
 have SB := Since.refl w
 go_enter Try.func7, Try.ntmps7
 go_upto_region 1 with fail
 obtain ⟨BX, BY, hb⟩ := two_new w (.slice A0 l0.length c0) (.slice A1 l1.length c1) 25 (.slice A2 m0.length c2) (.slice A3 m1.length c3) 25
 replace G0 := G0.below hb
 replace G1 := G1.below hb
 replace M0 := M0.below hb
 replace M1 := M1.below hb
 replace SB := SB.step hb
 clear hb
 generalize hw : ((w.alloc (.cells #[.slice A0 l0.length c0, .slice A1 l1.length c1] 25)).alloc (.cells #[.slice A2 m0.length c2, .slice A3 m1.length c3] 25)) = w0 at *
 clear hw
 have BXx0 := BX.c0
 have BXx1 := BX.c1
 have BYx0 := BY.c0
 have BYx1 := BY.c1
 go_wp2_with fail
 refine (scarfjointlaw05_awake.calls k true _ HA_.out).mono ?_
 rintro e w1 ⟨rfl, hb⟩
 replace hb := wS (show Below w0.heap.size w0 _ from by repeat (first | exact Below.refl _ _ | apply wA | apply wN | apply wD)) hb
 replace G0 := G0.below hb
 replace G1 := G1.below hb
 replace M0 := M0.below hb
 replace M1 := M1.below hb
 replace BX := BX.below hb
 replace BY := BY.below hb
 replace SB := SB.step hb
 clear hb
 have BXx0 := BX.c0
 have BXx1 := BX.c1
 have BYx0 := BY.c0
 have BYx1 := BY.c1
 go_wp2_with fail
 refine (scarfjointref05_Few.calls _ _ l0 _ _ l1 false _ G0.at_ G0.cap G1.at_ G1.cap HF_.out).mono ?_
 rintro e w2 ⟨rfl, hb⟩
 replace hb := wS (show Below w1.heap.size w1 _ from by repeat (first | exact Below.refl _ _ | apply wA | apply wN | apply wD)) hb
 replace G0 := G0.below hb
 replace G1 := G1.below hb
 replace M0 := M0.below hb
 replace M1 := M1.below hb
 replace BX := BX.below hb
 replace BY := BY.below hb
 replace SB := SB.step hb
 clear hb
 have BXx0 := BX.c0
 have BXx1 := BX.c1
 have BYx0 := BY.c0
 have BYx1 := BY.c1
 go_wp2_with fail
 refine (scarfjointlaw05_awake.calls k true _ HA_.out).mono ?_
 rintro e w3 ⟨rfl, hb⟩
 replace hb := wS (show Below w2.heap.size w2 _ from by repeat (first | exact Below.refl _ _ | apply wA | apply wN | apply wD)) hb
 replace G0 := G0.below hb
 replace G1 := G1.below hb
 replace M0 := M0.below hb
 replace M1 := M1.below hb
 replace BX := BX.below hb
 replace BY := BY.below hb
 replace SB := SB.step hb
 clear hb
 go_wp2_with fail
 try go_wp2_with fail
 go_ret
 exact ⟨rfl, SB.get⟩
set_option maxHeartbeats 4000000 in
set_option maxRecDepth 100000 in
theorem law7_few2 (k : Nat) (A0 : Option Addr) (c0 : Nat) (l0 : List Int) (A1 : Option Addr) (c1 : Nat) (l1 : List S38) (A2 : Option Addr) (c2 : Nat) (m0 : List Int) (A3 : Option Addr) (c3 : Nat) (m1 : List S38) (w : World) (G0 : Row (Kd.int .i64) w A0 c0 l0) (G1 : Row k38 w A1 c1 l1) (M0 : Row (Kd.int .i64) w A2 c2 m0) (M1 : Row k38 w A3 c3 m1)
  (hA : scarfjointlaw05_awake.f k = some true) (hF : scarfjointref05_Few.f l0 l1 = some true) (hH : scarfjointref05_Few.f m0 m1 = some false) :
  Calls Try.prog 7 #[.agg #[.slice A0 l0.length c0, .slice A1 l1.length c1], .agg #[.slice A2 m0.length c2, .slice A3 m1.length c3]] w fun e w' => e = .returned (.bool true) ∧ Below w.heap.size w w' := by
 have hu25 := Try.underlying25
 have hu29 := Try.underlying29
 have hu38 := Try.underlying38
 have HA_ := Aside0.mk hA
 have HF_ := Aside0.mk hF
 have HH_ := Aside0.mk hH
 clear hA hF hH
 have SB := Since.refl w
 go_enter Try.func7, Try.ntmps7
 go_upto_region 1 with fail
 obtain ⟨BX, BY, hb⟩ := two_new w (.slice A0 l0.length c0) (.slice A1 l1.length c1) 25 (.slice A2 m0.length c2) (.slice A3 m1.length c3) 25
 replace G0 := G0.below hb
 replace G1 := G1.below hb
 replace M0 := M0.below hb
 replace M1 := M1.below hb
 replace SB := SB.step hb
 clear hb
 generalize hw : ((w.alloc (.cells #[.slice A0 l0.length c0, .slice A1 l1.length c1] 25)).alloc (.cells #[.slice A2 m0.length c2, .slice A3 m1.length c3] 25)) = w0 at *
 clear hw
 have BXx0 := BX.c0
 have BXx1 := BX.c1
 have BYx0 := BY.c0
 have BYx1 := BY.c1
 go_wp2_with fail
 refine (scarfjointlaw05_awake.calls k true _ HA_.out).mono ?_
 rintro e w1 ⟨rfl, hb⟩
 replace hb := wS (show Below w0.heap.size w0 _ from by repeat (first | exact Below.refl _ _ | apply wA | apply wN | apply wD)) hb
 replace G0 := G0.below hb
 replace G1 := G1.below hb
 replace M0 := M0.below hb
 replace M1 := M1.below hb
 replace BX := BX.below hb
 replace BY := BY.below hb
 replace SB := SB.step hb
 clear hb
 have BXx0 := BX.c0
 have BXx1 := BX.c1
 have BYx0 := BY.c0
 have BYx1 := BY.c1
 go_wp2_with fail
 refine (scarfjointref05_Few.calls _ _ l0 _ _ l1 true _ G0.at_ G0.cap G1.at_ G1.cap HF_.out).mono ?_
 rintro e w2 ⟨rfl, hb⟩
 replace hb := wS (show Below w1.heap.size w1 _ from by repeat (first | exact Below.refl _ _ | apply wA | apply wN | apply wD)) hb
 replace G0 := G0.below hb
 replace G1 := G1.below hb
 replace M0 := M0.below hb
 replace M1 := M1.below hb
 replace BX := BX.below hb
 replace BY := BY.below hb
 replace SB := SB.step hb
 clear hb
 have BXx0 := BX.c0
 have BXx1 := BX.c1
 have BYx0 := BY.c0
 have BYx1 := BY.c1
 go_wp2_with fail
 refine (scarfjointref05_Few.calls _ _ m0 _ _ m1 false _ M0.at_ M0.cap M1.at_ M1.cap HH_.out).mono ?_
 rintro e w2' ⟨rfl, hb⟩
 replace hb := wS (show Below w2.heap.size w2 _ from by repeat (first | exact Below.refl _ _ | apply wA | apply wN | apply wD)) hb
 replace G0 := G0.below hb
 replace G1 := G1.below hb
 replace M0 := M0.below hb
 replace M1 := M1.below hb
 replace BX := BX.below hb
 replace BY := BY.below hb
 replace SB := SB.step hb
 clear hb
 have BXx0 := BX.c0
 have BXx1 := BX.c1
 have BYx0 := BY.c0
 have BYx1 := BY.c1
 go_wp2_with fail
 refine (scarfjointlaw05_awake.calls k true _ HA_.out).mono ?_
 rintro e w3 ⟨rfl, hb⟩
 replace hb := wS (show Below w2'.heap.size w2' _ from by repeat (first | exact Below.refl _ _ | apply wA | apply wN | apply wD)) hb
 replace G0 := G0.below hb
 replace G1 := G1.below hb
 replace M0 := M0.below hb
 replace M1 := M1.below hb
 replace BX := BX.below hb
 replace BY := BY.below hb
 replace SB := SB.step hb
 clear hb
 go_wp2_with fail
 try go_wp2_with fail
 go_ret
 exact ⟨rfl, SB.get⟩
set_option maxHeartbeats 4000000 in
set_option maxRecDepth 100000 in
theorem law7_main (k : Nat) (A0 : Option Addr) (c0 : Nat) (l0 : List Int) (A1 : Option Addr) (c1 : Nat) (l1 : List S38) (A2 : Option Addr) (c2 : Nat) (m0 : List Int) (A3 : Option Addr) (c3 : Nat) (m1 : List S38) (w : World) (G0 : Row (Kd.int .i64) w A0 c0 l0) (G1 : Row k38 w A1 c1 l1) (M0 : Row (Kd.int .i64) w A2 c2 m0) (M1 : Row k38 w A3 c3 m1)
  (hA : scarfjointlaw05_awake.f k = some true) (hF : scarfjointref05_Few.f l0 l1 = some true) (hH : scarfjointref05_Few.f m0 m1 = some true)
  (hC : scarfjointref05_Copied.f l0 l1 = some (l0, l1)) (hD : scarfjointref05_Copied.f m0 m1 = some (m0, m1)) (r1 : List Int) (r2 : List S38) (r3 r4 r5 r6 : List Int) (r7 : Int)
  (hU : graph_Union.f k l0 l1 m0 m1 = some (r1, r2, r3, r4, r5, r6, r7)) (hU' : scarfjointref05_Union.f k l0 l1 m0 m1 = some (r1, r2, r3, r4, r5, r6, r7))
  (hS : scarfjointref05_Same.f k r1 r2 r1 r2 = some true) (hs : scarfjointlaw05_same.f k r3 r4 r3 r4 = some true) (hs' : scarfjointlaw05_same.f k r5 r6 r5 r6 = some true) :
  Calls Try.prog 7 #[.agg #[.slice A0 l0.length c0, .slice A1 l1.length c1], .agg #[.slice A2 m0.length c2, .slice A3 m1.length c3]] w fun e w' => e = .returned (.bool true) ∧ Below w.heap.size w w' := by
 have hu25 := Try.underlying25
 have hu29 := Try.underlying29
 have hu38 := Try.underlying38
 have HA_ := Aside0.mk hA
 have HF_ := Aside0.mk hF
 have HH_ := Aside0.mk hH
 have HC_ := Aside0.mk hC
 have HD_ := Aside0.mk hD
 have HU_ := Aside0.mk hU
 have HU'_ := Aside0.mk hU'
 have HS_ := Aside0.mk hS
 have HS__ := Aside0.mk hs
 have HS'_ := Aside0.mk hs'
 clear hA hF hH hC hD hU hU' hS hs hs'
 have SB := Since.refl w
 go_enter Try.func7, Try.ntmps7
 go_upto_region 1 with fail
 obtain ⟨BX, BY, hb⟩ := two_new w (.slice A0 l0.length c0) (.slice A1 l1.length c1) 25 (.slice A2 m0.length c2) (.slice A3 m1.length c3) 25
 replace G0 := G0.below hb
 replace G1 := G1.below hb
 replace M0 := M0.below hb
 replace M1 := M1.below hb
 replace SB := SB.step hb
 clear hb
 generalize hw : ((w.alloc (.cells #[.slice A0 l0.length c0, .slice A1 l1.length c1] 25)).alloc (.cells #[.slice A2 m0.length c2, .slice A3 m1.length c3] 25)) = w0 at *
 clear hw
 have BXx0 := BX.c0
 have BXx1 := BX.c1
 have BYx0 := BY.c0
 have BYx1 := BY.c1
 go_wp2_with fail
 refine (scarfjointlaw05_awake.calls k true _ HA_.out).mono ?_
 rintro e w1 ⟨rfl, hb⟩
 replace hb := wS (show Below w0.heap.size w0 _ from by repeat (first | exact Below.refl _ _ | apply wA | apply wN | apply wD)) hb
 replace G0 := G0.below hb
 replace G1 := G1.below hb
 replace M0 := M0.below hb
 replace M1 := M1.below hb
 replace BX := BX.below hb
 replace BY := BY.below hb
 replace SB := SB.step hb
 clear hb
 have BXx0 := BX.c0
 have BXx1 := BX.c1
 have BYx0 := BY.c0
 have BYx1 := BY.c1
 go_wp2_with fail
 refine (scarfjointref05_Few.calls _ _ l0 _ _ l1 true _ G0.at_ G0.cap G1.at_ G1.cap HF_.out).mono ?_
 rintro e w2 ⟨rfl, hb⟩
 replace hb := wS (show Below w1.heap.size w1 _ from by repeat (first | exact Below.refl _ _ | apply wA | apply wN | apply wD)) hb
 replace G0 := G0.below hb
 replace G1 := G1.below hb
 replace M0 := M0.below hb
 replace M1 := M1.below hb
 replace BX := BX.below hb
 replace BY := BY.below hb
 replace SB := SB.step hb
 clear hb
 have BXx0 := BX.c0
 have BXx1 := BX.c1
 have BYx0 := BY.c0
 have BYx1 := BY.c1
 go_wp2_with fail
 refine (scarfjointref05_Few.calls _ _ m0 _ _ m1 true _ M0.at_ M0.cap M1.at_ M1.cap HH_.out).mono ?_
 rintro e w3 ⟨rfl, hb⟩
 replace hb := wS (show Below w2.heap.size w2 _ from by repeat (first | exact Below.refl _ _ | apply wA | apply wN | apply wD)) hb
 replace G0 := G0.below hb
 replace G1 := G1.below hb
 replace M0 := M0.below hb
 replace M1 := M1.below hb
 replace BX := BX.below hb
 replace BY := BY.below hb
 replace SB := SB.step hb
 clear hb
 have BXx0 := BX.c0
 have BXx1 := BX.c1
 have BYx0 := BY.c0
 have BYx1 := BY.c1
 go_upto_region 3 with fail
 refine drawn_ (J7 w3 w.heap.size (w.heap.size + 1) A0 c0 l0 A1 c1 l1 A2 c2 m0 A3 c3 m1 r1 r2 r3 r4 r5 r6 r7) T7 tab7 (by kernel_rfl) ?_ (J7_step k w3 w.heap.size (w.heap.size + 1) A0 c0 l0 A1 c1 l1 A2 c2 m0 A3 c3 m1 r1 r2 r3 r4 r5 r6 r7 BX BY G0 G1 M0 M1 HC_.out HD_.out HU_.out) ?_
 ·exact ⟨false, false, false, false, false, false, false, false, false, false, false, false, false, false, false, false, false, undef, undef, undef, undef, undef, undef, undef, undef, undef, undef, undef, undef, undef, undef, undef, undef, undef, undef, undef, undef, undef, undef, undef, undef, 0, 0, 0, rfl, rfl, fun h => absurd h (by decide), fun h => absurd h (by decide), fun h => absurd h (by decide), fun h => absurd h (by decide), fun h => absurd h (by decide), fun h => absurd h (by decide), fun h => absurd h (by decide), fun h => absurd h (by decide), fun h => absurd h (by decide), fun h => absurd h (by decide), fun h => absurd h (by decide), fun h => absurd h (by decide), fun h => absurd h (by decide), fun h => absurd h (by decide), fun h => absurd h (by decide), fun h => absurd h (by decide), fun h => absurd h (by decide), fun h => absurd h (by decide), fun h => absurd h (by decide), fun h => absurd h (by decide), ⟨wD (Below.refl _ _)⟩⟩
 rintro l a wd ⟨b0, b1, b2, b3, b4, b5, b6, b7, b8, b9, b10, b11, b12, b13, b14, b15, b16, x5, x6, x7, x8, x26, x27, x28, x29, x30, x31, x32, x33, x34, x35, p0, p1, p2, p3, v0, v1, v2, v3, v4, v5, g5, g6, g7, rfl, rfl, f0, f1, f2, f3, f4, f5, f6, f7, f8, f9, f10, f11, f12, d13, d14, d15, e1, e2, e3, f16, sb⟩ _ hr
 obtain rfl : b0 = true := all_done hr 0 rfl rfl
 obtain rfl : b2 = true := all_done hr 2 rfl rfl
 obtain rfl : b1 = true := all_done hr 1 rfl rfl
 obtain rfl : b3 = true := all_done hr 3 rfl rfl
 obtain rfl : b4 = true := all_done hr 4 rfl rfl
 obtain rfl : b5 = true := all_done hr 5 rfl rfl
 obtain rfl : b6 = true := all_done hr 6 rfl rfl
 obtain rfl : b7 = true := all_done hr 7 rfl rfl
 obtain rfl : b8 = true := all_done hr 8 rfl rfl
 obtain rfl : b9 = true := all_done hr 9 rfl rfl
 obtain rfl : b10 = true := all_done hr 10 rfl rfl
 obtain rfl : b11 = true := all_done hr 11 rfl rfl
 obtain rfl : b12 = true := all_done hr 12 rfl rfl
 obtain rfl : b13 = true := all_done hr 13 rfl rfl
 obtain rfl : b14 = true := all_done hr 14 rfl rfl
 obtain rfl : b15 = true := all_done hr 15 rfl rfl
 obtain rfl : b16 = true := all_done hr 16 rfl rfl
 clear hr f0 f1 f2 f3 f5 f6 f7 f8 f9 d13 d14 d15
 obtain ⟨-, k0, k1, k2, k3, k4, k5⟩ := f4 rfl
 obtain ⟨rfl, -, -, BA⟩ := f10 rfl
 obtain ⟨rfl, -, -, BM⟩ := f11 rfl
 obtain ⟨rfl, -, -, BN⟩ := f12 rfl
 obtain rfl := f16 rfl
 replace BA : Box2 wd g5 25 v0 v1 := BA
 replace BM : Box2 wd g6 29 v2 v3 := BM
 replace BN : Box2 wd g7 29 v4 v5 := BN
 clear f4 f10 f11 f12 f16 e1 e2 e3
 obtain ⟨P0, e0, rfl, Q0⟩ := k0.get
 clear k0
 obtain ⟨P1, e1, rfl, Q1⟩ := k1.get
 clear k1
 obtain ⟨P2, e2, rfl, Q2⟩ := k2.get
 clear k2
 obtain ⟨P3, e3, rfl, Q3⟩ := k3.get
 clear k3
 obtain ⟨P4, e4, rfl, Q4⟩ := k4.get
 clear k4
 obtain ⟨P5, e5, rfl, Q5⟩ := k5.get
 clear k5
 have hb := sb.get
 replace G0 := G0.below hb
 replace G1 := G1.below hb
 replace M0 := M0.below hb
 replace M1 := M1.below hb
 replace BX := BX.below hb
 replace BY := BY.below hb
 replace SB := SB.step hb
 clear hb sb
 have BXx0 := BX.c0
 have BXx1 := BX.c1
 have BYx0 := BY.c0
 have BYx1 := BY.c1
 have BAx0 := BA.c0
 have BAx1 := BA.c1
 have BMx0 := BM.c0
 have BMx1 := BM.c1
 have BNx0 := BN.c0
 have BNx1 := BN.c1
 go_wp2_with fail
 refine (scarfjointref05_Union.calls k _ _ l0 _ _ l1 _ _ m0 _ _ m1 r1 r2 r3 r4 r5 r6 r7 _ G0.at_ G0.cap G1.at_ G1.cap M0.at_ M0.cap M1.at_ M1.cap HU'_.out).mono ?_
 rintro e w8 ⟨y0, y1, y2, y3, y4, y5, rfl, q0, q1, q2, q3, q4, q5, hb⟩
 replace hb := wS (show Below wd.heap.size wd _ from by repeat (first | exact Below.refl _ _ | apply wA | apply wN | apply wD)) hb
 replace G0 := G0.below hb
 replace G1 := G1.below hb
 replace M0 := M0.below hb
 replace M1 := M1.below hb
 replace Q0 := Q0.below hb
 replace Q1 := Q1.below hb
 replace Q2 := Q2.below hb
 replace Q3 := Q3.below hb
 replace Q4 := Q4.below hb
 replace Q5 := Q5.below hb
 replace BX := BX.below hb
 replace BY := BY.below hb
 replace BA := BA.below hb
 replace BM := BM.below hb
 replace BN := BN.below hb
 replace SB := SB.step hb
 clear hb
 obtain ⟨N0, n0, rfl, R0⟩ := Row.of_R q0
 clear q0
 obtain ⟨N1, n1, rfl, R1⟩ := Row.of_R q1
 clear q1
 obtain ⟨N2, n2, rfl, R2⟩ := Row.of_R q2
 clear q2
 obtain ⟨N3, n3, rfl, R3⟩ := Row.of_R q3
 clear q3
 obtain ⟨N4, n4, rfl, R4⟩ := Row.of_R q4
 clear q4
 obtain ⟨N5, n5, rfl, R5⟩ := Row.of_R q5
 clear q5
 go_upto_region 5 with fail
 obtain ⟨BB, BP, BQ, hb⟩ := tri_new w8 (.slice N0 r1.length n0) (.slice N1 r2.length n1) 25 (.slice N2 r3.length n2) (.slice N3 r4.length n3) 29 (.slice N4 r5.length n4) (.slice N5 r6.length n5) 29
 replace G0 := G0.below hb
 replace G1 := G1.below hb
 replace M0 := M0.below hb
 replace M1 := M1.below hb
 replace Q0 := Q0.below hb
 replace Q1 := Q1.below hb
 replace Q2 := Q2.below hb
 replace Q3 := Q3.below hb
 replace Q4 := Q4.below hb
 replace Q5 := Q5.below hb
 replace R0 := R0.below hb
 replace R1 := R1.below hb
 replace R2 := R2.below hb
 replace R3 := R3.below hb
 replace R4 := R4.below hb
 replace R5 := R5.below hb
 replace BX := BX.below hb
 replace BY := BY.below hb
 replace BA := BA.below hb
 replace BM := BM.below hb
 replace BN := BN.below hb
 replace SB := SB.step hb
 clear hb
 generalize hw : (((w8.alloc (.cells #[.slice N0 r1.length n0, .slice N1 r2.length n1] 25)).alloc (.cells #[.slice N2 r3.length n2, .slice N3 r4.length n3] 29)).alloc (.cells #[.slice N4 r5.length n4, .slice N5 r6.length n5] 29)) = w9 at *
 clear hw
 have BXx0 := BX.c0
 have BXx1 := BX.c1
 have BYx0 := BY.c0
 have BYx1 := BY.c1
 have BAx0 := BA.c0
 have BAx1 := BA.c1
 have BMx0 := BM.c0
 have BMx1 := BM.c1
 have BNx0 := BN.c0
 have BNx1 := BN.c1
 have BBx0 := BB.c0
 have BBx1 := BB.c1
 have BPx0 := BP.c0
 have BPx1 := BP.c1
 have BQx0 := BQ.c0
 have BQx1 := BQ.c1
 go_wp2_with fail
 refine (scarfjointref05_Same.calls k _ _ r1 _ _ r2 _ _ r1 _ _ r2 true _ Q0.at_ Q0.cap Q1.at_ Q1.cap R0.at_ R0.cap R1.at_ R1.cap HS_.out).mono ?_
 rintro e w10 ⟨rfl, hb⟩
 replace hb := wS (show Below w9.heap.size w9 _ from by repeat (first | exact Below.refl _ _ | apply wA | apply wN | apply wD)) hb
 replace G0 := G0.below hb
 replace G1 := G1.below hb
 replace M0 := M0.below hb
 replace M1 := M1.below hb
 replace Q0 := Q0.below hb
 replace Q1 := Q1.below hb
 replace Q2 := Q2.below hb
 replace Q3 := Q3.below hb
 replace Q4 := Q4.below hb
 replace Q5 := Q5.below hb
 replace R0 := R0.below hb
 replace R1 := R1.below hb
 replace R2 := R2.below hb
 replace R3 := R3.below hb
 replace R4 := R4.below hb
 replace R5 := R5.below hb
 replace BX := BX.below hb
 replace BY := BY.below hb
 replace BA := BA.below hb
 replace BM := BM.below hb
 replace BN := BN.below hb
 replace BB := BB.below hb
 replace BP := BP.below hb
 replace BQ := BQ.below hb
 replace SB := SB.step hb
 clear hb
 have BXx0 := BX.c0
 have BXx1 := BX.c1
 have BYx0 := BY.c0
 have BYx1 := BY.c1
 have BAx0 := BA.c0
 have BAx1 := BA.c1
 have BMx0 := BM.c0
 have BMx1 := BM.c1
 have BNx0 := BN.c0
 have BNx1 := BN.c1
 have BBx0 := BB.c0
 have BBx1 := BB.c1
 have BPx0 := BP.c0
 have BPx1 := BP.c1
 have BQx0 := BQ.c0
 have BQx1 := BQ.c1
 go_wp2_with fail
 refine (scarfjointlaw05_same.calls k _ _ r3 _ _ r4 _ _ r3 _ _ r4 true _ Q2.at_ Q2.cap Q3.at_ Q3.cap R2.at_ R2.cap R3.at_ R3.cap HS__.out).mono ?_
 rintro e w11 ⟨rfl, hb⟩
 replace hb := wS (show Below w10.heap.size w10 _ from by repeat (first | exact Below.refl _ _ | apply wA | apply wN | apply wD)) hb
 replace G0 := G0.below hb
 replace G1 := G1.below hb
 replace M0 := M0.below hb
 replace M1 := M1.below hb
 replace Q0 := Q0.below hb
 replace Q1 := Q1.below hb
 replace Q2 := Q2.below hb
 replace Q3 := Q3.below hb
 replace Q4 := Q4.below hb
 replace Q5 := Q5.below hb
 replace R0 := R0.below hb
 replace R1 := R1.below hb
 replace R2 := R2.below hb
 replace R3 := R3.below hb
 replace R4 := R4.below hb
 replace R5 := R5.below hb
 replace BX := BX.below hb
 replace BY := BY.below hb
 replace BA := BA.below hb
 replace BM := BM.below hb
 replace BN := BN.below hb
 replace BB := BB.below hb
 replace BP := BP.below hb
 replace BQ := BQ.below hb
 replace SB := SB.step hb
 clear hb
 have BXx0 := BX.c0
 have BXx1 := BX.c1
 have BYx0 := BY.c0
 have BYx1 := BY.c1
 have BAx0 := BA.c0
 have BAx1 := BA.c1
 have BMx0 := BM.c0
 have BMx1 := BM.c1
 have BNx0 := BN.c0
 have BNx1 := BN.c1
 have BBx0 := BB.c0
 have BBx1 := BB.c1
 have BPx0 := BP.c0
 have BPx1 := BP.c1
 have BQx0 := BQ.c0
 have BQx1 := BQ.c1
 go_wp2_with fail
 refine (scarfjointlaw05_same.calls k _ _ r5 _ _ r6 _ _ r5 _ _ r6 true _ Q4.at_ Q4.cap Q5.at_ Q5.cap R4.at_ R4.cap R5.at_ R5.cap HS'_.out).mono ?_
 rintro e w12 ⟨rfl, hb⟩
 replace hb := wS (show Below w11.heap.size w11 _ from by repeat (first | exact Below.refl _ _ | apply wA | apply wN | apply wD)) hb
 replace G0 := G0.below hb
 replace G1 := G1.below hb
 replace M0 := M0.below hb
 replace M1 := M1.below hb
 replace Q0 := Q0.below hb
 replace Q1 := Q1.below hb
 replace Q2 := Q2.below hb
 replace Q3 := Q3.below hb
 replace Q4 := Q4.below hb
 replace Q5 := Q5.below hb
 replace R0 := R0.below hb
 replace R1 := R1.below hb
 replace R2 := R2.below hb
 replace R3 := R3.below hb
 replace R4 := R4.below hb
 replace R5 := R5.below hb
 replace BX := BX.below hb
 replace BY := BY.below hb
 replace BA := BA.below hb
 replace BM := BM.below hb
 replace BN := BN.below hb
 replace BB := BB.below hb
 replace BP := BP.below hb
 replace BQ := BQ.below hb
 replace SB := SB.step hb
 clear hb
 go_wp2_with fail
 try go_wp2_with fail
 go_ret
 exact ⟨rfl, SB.get⟩
end Go.Proofs.Ytmbnibonggbjgaa.X

/- Plain laws: the reference's Valid and the program's are one; a list is the same as itself. -/
namespace Go.Proofs.Ytmbnibonggbjgaa.Pl
open Go.RowKit Go.Proofs.YtmbnibonggbjgaaW.PrintWords Go.Proofs.Ytmbnibonggbjgaa.X
set_option linter.unusedVariables false

theorem rd_mid (pre : List Int) (x : Int) (r : List Int) : rd (pre ++ x :: r) (pre.length : Int) = x := by
  unfold rd; rw [Int.toNat_natCast, List.getD_eq_getElem?_getD, List.getElem?_append_right (Nat.le_refl _)]; simp
theorem rd38_mid (pre : List S38) (x : S38) (r : List S38) : rd_T38 (pre ++ x :: r) (pre.length : Int) = x := by
  unfold rd_T38; rw [Int.toNat_natCast, List.getD_eq_getElem?_getD, List.getElem?_append_right (Nat.le_refl _)]; simp
theorem lt_mid {α : Type} (pre : List α) (x : α) (r : List α) : (pre.length : Int) < ((pre ++ x :: r).length : Int) := by simp; omega
theorem snoc_mid {α : Type} (pre : List α) (x : α) (r : List α) : pre ++ x :: r = (pre ++ [x]) ++ r := by simp
theorem wrap_mid {α : Type} (pre : List α) (x : α) (r : List α) (h : (pre ++ x :: r).length ≤ 9223372036854775807) : wrap64 ((pre.length : Int) + 1) = ((pre ++ [x]).length : Int) := by
  simp at h ⊢
  unfold wrap64
  omega
theorem wrap_id {i : Int} (h0 : 0 ≤ i) (h : i ≤ 9223372036854775807) : wrap64 i = i := by unfold wrap64; omega

theorem kind_eq (t : Int) : scarfjointref05_kind.f t = some (kindB t) := by
  unfold scarfjointref05_kind.f kindB
  by_cases h : t ≥ 0
  · rw [if_pos h]; simp [h]
  · rw [if_neg h]; simp [h]
theorem right_eq (e : S38) (n : Int) : scarfjointref05_right.f e.f0 e.f1 e.f2 n = some (edgeB n e) := by
  unfold scarfjointref05_right.f edgeB
  rw [kind_eq]
  simp only [Option.bind_some]
  cases kindB e.f0
  · simp
  · simp only [if_true, Bool.true_and]
    by_cases h1 : e.f1 ≥ 0
    · rw [if_pos h1]
      by_cases h2 : e.f1 < n
      · rw [if_pos h2]
        by_cases h3 : e.f2 ≥ 0
        · rw [if_pos h3]; simp [h1, h2, h3]
        · rw [if_neg h3]; simp [h3]
      · rw [if_neg h2]; simp [h2]
    · rw [if_neg h1]; simp [h1]

theorem valid_l1 (l0 : List Int) (l1 : List S38) (hl : l1.length ≤ 9223372036854775807) : ∀ (r pre : List S38), l1 = pre ++ r →
    Ev (fun k => scarfjointref05_Valid.l1 k (pre.length : Int) l0 l1) (if r.any (fun e => !edgeB l0.length e) = true then 6 else 0) := by
  intro r
  induction r with
  | nil =>
    rintro pre rfl
    refine Ev.step (fun k => by simp only [scarfjointref05_Valid.l1]; rw [if_neg (by simp)]) ?_
    exact Ev.now _
  | cons x r ih =>
    rintro pre rfl
    have ih' := ih (pre ++ [x]) (snoc_mid pre x r)
    cases hb : edgeB l0.length x with
    | true =>
      refine Ev.step (fun k => by simp only [scarfjointref05_Valid.l1]; rw [if_pos (lt_mid pre x r), if_pos (by omega), rd38_mid, right_eq, hb, wrap_mid pre x r hl]) ?_
      simpa [hb] using ih'
    | false =>
      refine Ev.step (fun k => by simp only [scarfjointref05_Valid.l1]; rw [if_pos (lt_mid pre x r), if_pos (by omega), rd38_mid, right_eq, hb]) ?_
      simpa [hb] using Ev.now (6 : Int)

theorem valid_l0 (l0 : List Int) (l1 : List S38) (hl0 : l0.length ≤ 9223372036854775807) (hl : l1.length ≤ 9223372036854775807) : ∀ (r pre : List Int), l0 = pre ++ r →
    Ev (fun k => scarfjointref05_Valid.l0 k (pre.length : Int) l0 l1) (if r.any (fun t => !kindB t) = true then 6 else if l1.any (fun e => !edgeB l0.length e) = true then 6 else 0) := by
  intro r
  induction r with
  | nil =>
    rintro pre rfl
    refine Ev.step (fun k => by simp only [scarfjointref05_Valid.l0]; rw [if_neg (by simp)]) ?_
    have h := valid_l1 pre l1 hl l1 [] rfl
    simpa using h
  | cons x r ih =>
    rintro pre rfl
    have ih' := ih (pre ++ [x]) (snoc_mid pre x r)
    cases hb : kindB x with
    | true =>
      refine Ev.step (fun k => by simp only [scarfjointref05_Valid.l0]; rw [if_pos (lt_mid pre x r), if_pos (by omega), rd_mid, kind_eq, hb, wrap_mid pre x r hl0]) ?_
      simpa [hb] using ih'
    | false =>
      refine Ev.step (fun k => by simp only [scarfjointref05_Valid.l0]; rw [if_pos (lt_mid pre x r), if_pos (by omega), rd_mid, kind_eq, hb]) ?_
      simpa [hb] using Ev.now (6 : Int)

theorem valid_ev (l0 : List Int) (l1 : List S38) : Ev (fun k => scarfjointref05_Valid.f k l0 l1) (validE l0 l1) := by
  unfold validE scarfjointref05_Valid.f
  by_cases h0 : l0.length > 40
  · rw [if_pos h0]
    simp only [if_pos (show (l0.length : Int) > 40 by omega)]
    exact Ev.step (fun k => by simp only [scarfjointref05_Valid.j0, if_true]) (Ev.now _)
  · rw [if_neg h0]
    simp only [if_neg (show ¬ (l0.length : Int) > 40 by omega)]
    by_cases h1 : l1.length > 80
    · rw [if_pos h1]
      refine Ev.step (fun k => by simp only [scarfjointref05_Valid.j0]; rw [if_pos (by simp; omega)]) (Ev.now _)
    · rw [if_neg h1]
      refine Ev.step (fun k => by simp only [scarfjointref05_Valid.j0]; rw [if_neg (by simp; omega)]) ?_
      exact valid_l0 l0 l1 (by omega) (by omega) l0 [] rfl

theorem few_eq (l0 : List Int) (l1 : List S38) : scarfjointref05_Few.f l0 l1 = some (decide (l0.length ≤ 45 ∧ l1.length ≤ 90)) := by
  unfold scarfjointref05_Few.f
  by_cases h : (l0.length : Int) ≤ 45
  · rw [if_pos h]
    have h' : l0.length ≤ 45 := by omega
    simp [h']; omega
  · rw [if_neg h]
    have h' : ¬ l0.length ≤ 45 := by omega
    simp [h']
theorem copied_eq (l0 : List Int) (l1 : List S38) (h0 : l0.length ≤ 1000000) (h1 : l1.length ≤ 1000000) : scarfjointref05_Copied.f l0 l1 = some (l0, l1) := by
  unfold scarfjointref05_Copied.f
  simp only [Option.bind_some]
  rw [if_pos (by simp; omega), if_pos (by simp; omega)]
  simp

theorem sameInts_l0 (l : List Int) (hl : l.length ≤ 9223372036854775807) : ∀ (r pre : List Int), l = pre ++ r → Ev (fun k => scarfjointref05_SameInts.l0 k l l (pre.length : Int)) true := by
  intro r
  induction r with
  | nil =>
    rintro pre rfl
    exact Ev.step (fun k => by simp only [scarfjointref05_SameInts.l0]; rw [if_neg (by simp)]) (Ev.now _)
  | cons x r ih =>
    rintro pre rfl
    refine Ev.step (fun k => by simp only [scarfjointref05_SameInts.l0]; rw [if_pos (lt_mid pre x r), if_pos (by omega), if_pos (lt_mid pre x r), if_pos trivial, wrap_mid pre x r hl]) (ih (pre ++ [x]) (snoc_mid pre x r))
theorem sameInts_self (l : List Int) (hl : l.length ≤ 1000000) : Ev (fun k => scarfjointref05_SameInts.f k l l) true := by
  unfold scarfjointref05_SameInts.f
  simp only [if_true]
  exact sameInts_l0 l (by omega) l [] rfl
theorem same_l0 (l : List S38) (a b : List Int) (hl : l.length ≤ 9223372036854775807) : ∀ (r pre : List S38), l = pre ++ r → Ev (fun k => scarfjointref05_Same.l0 k (pre.length : Int) a l b l) true := by
  intro r
  induction r with
  | nil =>
    rintro pre rfl
    exact Ev.step (fun k => by simp only [scarfjointref05_Same.l0]; rw [if_neg (by simp)]) (Ev.now _)
  | cons x r ih =>
    rintro pre rfl
    refine Ev.step (fun k => by simp only [scarfjointref05_Same.l0]; rw [if_pos (lt_mid pre x r), if_pos (by omega), if_pos (lt_mid pre x r), if_neg (by simp), wrap_mid pre x r hl]) (ih (pre ++ [x]) (snoc_mid pre x r))
theorem same_self (l0 : List Int) (l1 : List S38) (h0 : l0.length ≤ 1000000) (h1 : l1.length ≤ 1000000) : Ev (fun k => scarfjointref05_Same.f k l0 l1 l0 l1) true := by
  unfold scarfjointref05_Same.f
  refine Ev.bind (sameInts_self l0 h0) ?_
  simp only [if_true]
  refine Ev.step (fun k => by simp only [scarfjointref05_Same.j0]; rw [if_neg (by simp)]) ?_
  exact same_l0 l1 l0 l0 (by omega) l1 [] rfl
end Go.Proofs.Ytmbnibonggbjgaa.Pl

/- Plain laws: the numbers from one on, so many. -/
namespace Go.Proofs.Ytmbnibonggbjgaa.Pl
open Go.RowKit Go.Proofs.YtmbnibonggbjgaaW.PrintWords Go.Proofs.Ytmbnibonggbjgaa.X
set_option linter.unusedVariables false

def numsFrom (a : Int) (n : Nat) : List Int := (List.range n).map (fun (i : Nat) => a + (i : Int))
theorem numsFrom_succ (a : Int) (n : Nat) : numsFrom a (n + 1) = numsFrom a n ++ [a + (n : Int)] := by simp [numsFrom, List.range_succ]
theorem numsFrom_len (a : Int) (n : Nat) : (numsFrom a n).length = n := by simp [numsFrom]
theorem gnumbers_l0 (a : Int) (n : Nat) (ha : 0 ≤ a) (hb : a ≤ 1000000) (hn : n ≤ 1000000) : ∀ (d i : Nat), i + d = n → Ev (fun k => graph_numbers.l0 k a (numsFrom a i) (n : Int) (i : Int)) (numsFrom a n) := by
  intro d
  induction d with
  | zero =>
    intro i hi
    obtain rfl : i = n := by omega
    exact Ev.step (fun k => by simp only [graph_numbers.l0]; rw [if_neg (by omega)]) (Ev.now _)
  | succ d ih =>
    intro i hi
    refine Ev.step (fun k => by simp only [graph_numbers.l0]; rw [if_pos (by omega), if_pos (by rw [numsFrom_len]; omega), wrap_id (by omega) (by omega), wrap_id (i := (i : Int) + 1) (by omega) (by omega), ← numsFrom_succ]) ?_
    exact ih (i + 1) (by omega)
theorem gnumbers_ev (a : Int) (n : Nat) (ha : 0 ≤ a) (hb : a ≤ 1000000) (hn : n ≤ 1000000) : Ev (fun k => graph_numbers.f k a (n : Int)) (numsFrom a n) := by
  unfold graph_numbers.f
  exact gnumbers_l0 a n ha hb hn n 0 (by omega)
theorem rnumbers_l0 (a : Int) (n : Nat) (ha : 0 ≤ a) (hb : a ≤ 1000000) (hn : n ≤ 1000000) : ∀ (d i : Nat), i + d = n → Ev (fun k => scarfjointref05_Numbers.l0 k a (n : Int) (numsFrom a i) (i : Int)) (numsFrom a n) := by
  intro d
  induction d with
  | zero =>
    intro i hi
    obtain rfl : i = n := by omega
    exact Ev.step (fun k => by simp only [scarfjointref05_Numbers.l0]; rw [if_neg (by omega)]) (Ev.now _)
  | succ d ih =>
    intro i hi
    refine Ev.step (fun k => by simp only [scarfjointref05_Numbers.l0]; rw [if_pos (by omega), if_pos (by rw [numsFrom_len]; omega), wrap_id (by omega) (by omega), wrap_id (i := (i : Int) + 1) (by omega) (by omega), ← numsFrom_succ]) ?_
    exact ih (i + 1) (by omega)
theorem rnumbers_ev (a : Int) (n : Nat) (ha : 0 ≤ a) (hb : a ≤ 1000000) (hn : n ≤ 1000000) : Ev (fun k => scarfjointref05_Numbers.f k a (n : Int)) (numsFrom a n) := by
  unfold scarfjointref05_Numbers.f
  exact rnumbers_l0 a n ha hb hn n 0 (by omega)
end Go.Proofs.Ytmbnibonggbjgaa.Pl

/- Plain laws: the edges of a valid graph have their ends in it. -/
namespace Go.Proofs.Ytmbnibonggbjgaa.Pl
open Go.RowKit Go.Proofs.YtmbnibonggbjgaaW.PrintWords Go.Proofs.Ytmbnibonggbjgaa.X
set_option linter.unusedVariables false

def okE (n : Nat) (e : S38) : Prop := (0 ≤ e.f1 ∧ e.f1 < (n : Int)) ∧ (0 ≤ e.f2 ∧ e.f2 < (n : Int))
theorem okE_of {l0 : List Int} {l1 : List S38} (h : validE l0 l1 = 0) : l0.length ≤ 40 ∧ l1.length ≤ 80 ∧ ∀ e ∈ l1, okE l0.length e := by
  unfold validE at h
  split at h
  · exact absurd h (by decide)
  · split at h
    · exact absurd h (by decide)
    · split at h
      · exact absurd h (by decide)
      · split at h
        · exact absurd h (by decide)
        · rename_i h1 h2 _ h4
          refine ⟨by omega, by omega, fun e he => ?_⟩
          have hb : edgeB l0.length e = true := by
            cases hb : edgeB l0.length e
            · exact absurd (List.any_eq_true.mpr ⟨e, he, by rw [hb]; rfl⟩) h4
            · rfl
          unfold edgeB at hb
          simp only [Bool.and_eq_true, decide_eq_true_eq] at hb
          exact hb.2
end Go.Proofs.Ytmbnibonggbjgaa.Pl

/- Plain laws: the disjoint union, as the program and the reference tell it. -/
namespace Go.Proofs.Ytmbnibonggbjgaa.Pl
open Go.RowKit Go.Proofs.YtmbnibonggbjgaaW.PrintWords Go.Proofs.Ytmbnibonggbjgaa.X
set_option linter.unusedVariables false

abbrev Uni := List Int × (List S38) × List Int × List Int × List Int × List Int × Int
def addE (n : Int) (e : S38) : S38 := ⟨e.f0, wrap64 (e.f1 + n), wrap64 (e.f2 + n)⟩
def uniOk (l0 : List Int) (l1 : List S38) (m0 : List Int) (m1 : List S38) : Uni :=
  (l0 ++ m0, l1 ++ m1.map (addE l0.length), numsFrom 0 l0.length, numsFrom 0 l1.length, numsFrom l0.length m0.length, numsFrom l1.length m1.length, 0)
def union (l0 : List Int) (l1 : List S38) (m0 : List Int) (m1 : List S38) : Uni :=
  if validE l0 l1 = 0 then (if validE m0 m1 = 0 then (if l0.length + m0.length > 40 ∨ l1.length + m1.length > 80 then ([], [], [], [], [], [], 3) else uniOk l0 l1 m0 m1) else ([], [], [], [], [], [], validE m0 m1)) else ([], [], [], [], [], [], validE l0 l1)
theorem gunion_l1 (l0 : List Int) (l1 : List S38) (m0 : List Int) (m1 : List S38) (h0 : l0.length ≤ 1000000) (h1 : l1.length ≤ 1000000) (g0 : m0.length ≤ 1000000) (g1 : m1.length ≤ 1000000) :
    ∀ (r pre acc : List S38), m1 = pre ++ r → acc.length ≤ l1.length + pre.length →
    Ev (fun k => graph_Union.l1 k l0.length l1.length m1 (m1.length : Int) (pre.length : Int) m0 m1 (l0 ++ m0) acc)
      (l0 ++ m0, acc ++ r.map (addE l0.length), numsFrom 0 l0.length, numsFrom 0 l1.length, numsFrom l0.length m0.length, numsFrom l1.length m1.length, 0) := by
  intro r
  induction r with
  | nil =>
    rintro pre acc rfl h
    refine Ev.step (fun k => by simp only [graph_Union.l1]; rw [if_neg (by simp)]) ?_
    refine Ev.bind (gnumbers_ev 0 l0.length (by omega) (by omega) (by omega)) ?_
    refine Ev.bind (gnumbers_ev 0 l1.length (by omega) (by omega) (by omega)) ?_
    refine Ev.bind (gnumbers_ev l0.length m0.length (by omega) (by omega) (by omega)) ?_
    refine Ev.bind (gnumbers_ev l1.length (pre ++ []).length (by omega) (by omega) (by omega)) ?_
    simpa using Ev.now _
  | cons x r ih =>
    rintro pre acc rfl h
    have hp : pre.length ≤ 1000000 := by simp at g1; omega
    refine Ev.step (fun k => by simp only [graph_Union.l1]; rw [if_pos (lt_mid pre x r), if_pos (by omega), if_pos (lt_mid pre x r), if_pos (by omega), rd38_mid, wrap_mid pre x r (by omega)]) ?_
    have := ih (pre ++ [x]) (acc ++ [addE l0.length x]) (snoc_mid pre x r) (by simp; omega)
    simpa [addE] using this
theorem runion_l0 (l0 : List Int) (l1 : List S38) (m0 : List Int) (m1 : List S38) (h0 : l0.length ≤ 1000000) (h1 : l1.length ≤ 1000000) (g0 : m0.length ≤ 1000000) (g1 : m1.length ≤ 1000000) :
    ∀ (r pre acc : List S38), m1 = pre ++ r → acc.length ≤ l1.length + pre.length →
    Ev (fun k => scarfjointref05_Union.l0 k l0.length l1.length (pre.length : Int) m0 m1 (l0 ++ m0) acc)
      (l0 ++ m0, acc ++ r.map (addE l0.length), numsFrom 0 l0.length, numsFrom 0 l1.length, numsFrom l0.length m0.length, numsFrom l1.length m1.length, 0) := by
  intro r
  induction r with
  | nil =>
    rintro pre acc rfl h
    refine Ev.step (fun k => by simp only [scarfjointref05_Union.l0]; rw [if_neg (by simp)]) ?_
    refine Ev.bind (rnumbers_ev 0 l0.length (by omega) (by omega) (by omega)) ?_
    refine Ev.bind (rnumbers_ev 0 l1.length (by omega) (by omega) (by omega)) ?_
    refine Ev.bind (rnumbers_ev l0.length m0.length (by omega) (by omega) (by omega)) ?_
    refine Ev.bind (rnumbers_ev l1.length (pre ++ []).length (by omega) (by omega) (by omega)) ?_
    simpa using Ev.now _
  | cons x r ih =>
    rintro pre acc rfl h
    have hp : pre.length ≤ 1000000 := by simp at g1; omega
    refine Ev.step (fun k => by simp only [scarfjointref05_Union.l0]; rw [if_pos (lt_mid pre x r), if_pos (by omega), if_pos (by omega), rd38_mid, wrap_mid pre x r (by omega)]) ?_
    have := ih (pre ++ [x]) (acc ++ [addE l0.length x]) (snoc_mid pre x r) (by simp; omega)
    simpa [addE] using this
theorem wrap_add {a b : Nat} (ha : a ≤ 1000000) (hb : b ≤ 1000000) : wrap64 ((a : Int) + (b : Int)) = (a : Int) + (b : Int) := by unfold wrap64; omega
theorem gunion_tail (l0 : List Int) (l1 : List S38) (m0 : List Int) (m1 : List S38) (h0 : l0.length ≤ 40) (h1 : l1.length ≤ 80) (g0 : m0.length ≤ 40) (g1 : m1.length ≤ 80) :
    ∀ c : Bool, c = decide (l0.length + m0.length > 40 ∨ l1.length + m1.length > 80) → Ev (fun k => graph_Union.j1 k l0.length l1.length c l0 l1 m0 m1) (if l0.length + m0.length > 40 ∨ l1.length + m1.length > 80 then ([], [], [], [], [], [], 3) else uniOk l0 l1 m0 m1) := by
  rintro c rfl
  by_cases h : l0.length + m0.length > 40 ∨ l1.length + m1.length > 80
  · rw [decide_eq_true h, if_pos h]
    refine Ev.step (fun k => by simp only [graph_Union.j1, if_true]; rfl) ?_
    exact Ev.now _
  · rw [decide_eq_false h, if_neg h]
    refine Ev.step (fun k => by simp only [graph_Union.j1]; rw [if_neg (by decide)]) ?_
    have hc : slices_Concat_int_int.f [l0, m0] = some (l0 ++ m0) := by
      unfold slices_Concat_int_int.f
      rw [if_pos (by simp; omega)]
      simp
    have he : api_Edge_46.f l1 = some l1 := by
      unfold api_Edge_46.f
      simp only [Option.bind_some]
      rw [if_pos (by simp; omega)]
      simp
    simp only [hc, he, Option.bind_some]
    exact gunion_l1 l0 l1 m0 m1 (by omega) (by omega) (by omega) (by omega) m1 [] l1 rfl (by omega)
theorem runion_tail (l0 : List Int) (l1 : List S38) (m0 : List Int) (m1 : List S38) (h0 : l0.length ≤ 40) (h1 : l1.length ≤ 80) (g0 : m0.length ≤ 40) (g1 : m1.length ≤ 80) :
    ∀ c : Bool, c = decide (l0.length + m0.length > 40 ∨ l1.length + m1.length > 80) → Ev (fun k => scarfjointref05_Union.j0 k l0.length l1.length c l0 l1 m0 m1) (if l0.length + m0.length > 40 ∨ l1.length + m1.length > 80 then ([], [], [], [], [], [], 3) else uniOk l0 l1 m0 m1) := by
  rintro c rfl
  by_cases h : l0.length + m0.length > 40 ∨ l1.length + m1.length > 80
  · rw [decide_eq_true h, if_pos h]
    refine Ev.step (fun k => by simp only [scarfjointref05_Union.j0, if_true]; rfl) ?_
    exact Ev.now _
  · rw [decide_eq_false h, if_neg h]
    refine Ev.step (fun k => by simp only [scarfjointref05_Union.j0]; rw [if_neg (by decide)]) ?_
    simp only [copied_eq l0 l1 (by omega) (by omega), Option.bind_some, if_pos (show l0.length + m0.length < 17592186044416 by omega)]
    exact runion_l0 l0 l1 m0 m1 (by omega) (by omega) (by omega) (by omega) m1 [] l1 rfl (by omega)
theorem gunion_ev (l0 : List Int) (l1 : List S38) (m0 : List Int) (m1 : List S38) : Ev (fun k => graph_Union.f k l0 l1 m0 m1) (union l0 l1 m0 m1) := by
  unfold graph_Union.f union
  simp only [Option.bind_some]
  have e0 : rd_T25 [(⟨l0, l1⟩ : S25), ⟨m0, m1⟩] 0 = ⟨l0, l1⟩ := rfl
  have e1 : rd_T25 [(⟨l0, l1⟩ : S25), ⟨m0, m1⟩] 1 = ⟨m0, m1⟩ := rfl
  by_cases hv : validE l0 l1 = 0
  rotate_left
  · refine Ev.step (fun k => by simp only [graph_Union.l0]; rw [if_pos (by simp), if_pos (by omega), if_pos (by simp), e0]) ?_
    simp only [graph_Valid.f, Option.bind_some, if_neg hv]
    exact Ev.now _
  rw [if_pos hv]
  have hw : wrap64 ((0 : Int) + 1) = 1 := by unfold wrap64; omega
  refine Ev.step (f := fun k => graph_Union.l0 k [(⟨l0, l1⟩ : S25), ⟨m0, m1⟩] (([(⟨l0, l1⟩ : S25), ⟨m0, m1⟩] : List S25).length : Int) 1 l0 l1 m0 m1) (fun k => by
    rw [graph_Union.l0, if_pos (by simp), if_pos (by omega), if_pos (by simp), e0]
    simp only [graph_Valid.f, Option.bind_some, hv, if_true, hw]) ?_
  by_cases hv' : validE m0 m1 = 0
  rotate_left
  · refine Ev.step (fun k => by simp only [graph_Union.l0]; rw [if_pos (by simp), if_pos (by omega), if_pos (by simp), e1]) ?_
    simp only [graph_Valid.f, Option.bind_some, if_neg hv']
    exact Ev.now _
  rw [if_pos hv']
  have hw' : wrap64 ((1 : Int) + 1) = 2 := by unfold wrap64; omega
  refine Ev.step (f := fun k => graph_Union.l0 k [(⟨l0, l1⟩ : S25), ⟨m0, m1⟩] (([(⟨l0, l1⟩ : S25), ⟨m0, m1⟩] : List S25).length : Int) 2 l0 l1 m0 m1) (fun k => by
    rw [graph_Union.l0, if_pos (by simp), if_pos (by omega), if_pos (by simp), e1]
    simp only [graph_Valid.f, Option.bind_some, hv', if_true, hw']) ?_
  obtain ⟨h0, h1, _⟩ := okE_of hv
  obtain ⟨g0, g1, _⟩ := okE_of hv'
  by_cases hn : l0.length + m0.length > 40
  · refine Ev.step (fun k => by simp only [graph_Union.l0]; rw [if_neg (by simp), wrap_add (by omega) (by omega), if_pos (by omega)]) ?_
    exact gunion_tail l0 l1 m0 m1 h0 h1 g0 g1 true (decide_eq_true (.inl hn)).symm
  · refine Ev.step (fun k => by simp only [graph_Union.l0]; rw [if_neg (by simp), wrap_add (a := l0.length) (b := m0.length) (by omega) (by omega), if_neg (by omega), wrap_add (a := l1.length) (b := m1.length) (by omega) (by omega)]) ?_
    exact gunion_tail l0 l1 m0 m1 h0 h1 g0 g1 _ (by simp [hn]; omega)
theorem runion_ev (l0 : List Int) (l1 : List S38) (m0 : List Int) (m1 : List S38) : Ev (fun k => scarfjointref05_Union.f k l0 l1 m0 m1) (union l0 l1 m0 m1) := by
  unfold scarfjointref05_Union.f union
  refine Ev.bind (valid_ev l0 l1) ?_
  by_cases hv : validE l0 l1 = 0
  rotate_left
  · simp only [if_neg hv]
    exact Ev.now _
  simp only [if_pos hv]
  refine Ev.bind (valid_ev m0 m1) ?_
  by_cases hv' : validE m0 m1 = 0
  rotate_left
  · simp only [if_neg hv']
    exact Ev.now _
  simp only [if_pos hv']
  obtain ⟨h0, h1, _⟩ := okE_of hv
  obtain ⟨g0, g1, _⟩ := okE_of hv'
  rw [wrap_add (a := l0.length) (b := m0.length) (by omega) (by omega), wrap_add (a := l1.length) (b := m1.length) (by omega) (by omega)]
  by_cases hn : l0.length + m0.length > 40
  · simp only [if_pos (show (l0.length : Int) + (m0.length : Int) > 40 by omega)]
    exact runion_tail l0 l1 m0 m1 h0 h1 g0 g1 true (decide_eq_true (.inl hn)).symm
  · simp only [if_neg (show ¬ (l0.length : Int) + (m0.length : Int) > 40 by omega)]
    exact runion_tail l0 l1 m0 m1 h0 h1 g0 g1 _ (by simp [hn]; omega)
theorem union_len (l0 : List Int) (l1 : List S38) (m0 : List Int) (m1 : List S38) (r1 : List Int) (r2 : List S38) (r3 r4 r5 r6 : List Int) (r7 : Int) (h : union l0 l1 m0 m1 = (r1, r2, r3, r4, r5, r6, r7)) :
    r1.length ≤ 1000 ∧ r2.length ≤ 1000 ∧ r3.length ≤ 1000 ∧ r4.length ≤ 1000 ∧ r5.length ≤ 1000 ∧ r6.length ≤ 1000 := by
  unfold union at h
  split at h
  · rename_i hv
    split at h
    · rename_i hv'
      obtain ⟨h0, h1, _⟩ := okE_of hv
      obtain ⟨g0, g1, _⟩ := okE_of hv'
      split at h
      · simp only [Prod.mk.injEq] at h
        obtain ⟨rfl, rfl, rfl, rfl, rfl, rfl, rfl⟩ := h
        simp
      · simp only [uniOk, Prod.mk.injEq] at h
        obtain ⟨rfl, rfl, rfl, rfl, rfl, rfl, rfl⟩ := h
        simp only [List.length_append, List.length_map, numsFrom_len]
        omega
    · simp only [Prod.mk.injEq] at h
      obtain ⟨rfl, rfl, rfl, rfl, rfl, rfl, rfl⟩ := h
      simp
  · simp only [Prod.mk.injEq] at h
    obtain ⟨rfl, rfl, rfl, rfl, rfl, rfl, rfl⟩ := h
    simp
end Go.Proofs.Ytmbnibonggbjgaa.Pl

/- Plain laws: a list is equal to itself. -/
namespace Go.Proofs.Ytmbnibonggbjgaa.Pl
open Go.RowKit Go.Proofs.YtmbnibonggbjgaaW.PrintWords Go.Proofs.Ytmbnibonggbjgaa.X
set_option linter.unusedVariables false

theorem equal_l0 (l : List Int) (hl : l.length ≤ 9223372036854775807) : ∀ (r pre : List Int), l = pre ++ r → Ev (fun k => slices_Equal_int_int.l0 k l l (l.length : Int) (pre.length : Int)) true := by
  intro r
  induction r with
  | nil =>
    rintro pre rfl
    exact Ev.step (fun k => by simp only [slices_Equal_int_int.l0]; rw [if_neg (by simp)]) (Ev.now _)
  | cons x r ih =>
    rintro pre rfl
    refine Ev.step (fun k => by simp only [slices_Equal_int_int.l0]; rw [if_pos (lt_mid pre x r), if_pos (by omega), if_pos (lt_mid pre x r), if_pos (lt_mid pre x r), if_pos trivial, wrap_mid pre x r hl]) (ih (pre ++ [x]) (snoc_mid pre x r))
theorem equal_self (l : List Int) (hl : l.length ≤ 1000000) : Ev (fun k => slices_Equal_int_int.f k l l) true := by
  unfold slices_Equal_int_int.f
  simp only [if_true]
  exact equal_l0 l (by omega) l [] rfl
end Go.Proofs.Ytmbnibonggbjgaa.Pl

namespace Go.Proofs.Ytmbnibonggbjgaa.Pl
open Go.RowKit Go.Proofs.YtmbnibonggbjgaaW.PrintWords Go.Proofs.Ytmbnibonggbjgaa.X
theorem awake_ev : Ev (fun k => scarfjointlaw05_awake.f k) true := Ev.of (fun k => scarfjointlaw05_awake.mono k) (k := 40) (by decide +kernel)
end Go.Proofs.Ytmbnibonggbjgaa.Pl

/- The plain law of GraphUnion, and the walk with it: the law answers true. -/
namespace Go.Proofs.Ytmbnibonggbjgaa.Pure
open Go.RowKit Go.Proofs.YtmbnibonggbjgaaW.PrintWords Go.Proofs.Ytmbnibonggbjgaa.X Go.Proofs.Ytmbnibonggbjgaa.Pl
set_option linter.unusedVariables false

theorem lsame_self (a b : List Int) (ha : a.length ≤ 1000000) (hb : b.length ≤ 1000000) : Ev (fun k => scarfjointlaw05_same.f k a b a b) true := by
  unfold scarfjointlaw05_same.f
  refine Ev.bind (equal_self a ha) ?_
  simp only [if_true]
  exact Ev.bind (equal_self b hb) (Ev.now _)
theorem GraphUnion_walk (A0 : Option Addr) (c0 : Nat) (l0 : List Int) (A1 : Option Addr) (c1 : Nat) (l1 : List S38) (A2 : Option Addr) (c2 : Nat) (m0 : List Int) (A3 : Option Addr) (c3 : Nat) (m1 : List S38) (w : World)
    (h0 : Kd.C (Kd.int .i64) w A0 l0.length l0) (hc0 : l0.length ≤ c0) (h1 : Kd.C k38 w A1 l1.length l1) (hc1 : l1.length ≤ c1) (h2 : Kd.C (Kd.int .i64) w A2 m0.length m0) (hc2 : m0.length ≤ c2) (h3 : Kd.C k38 w A3 m1.length m1) (hc3 : m1.length ≤ c3) :
    Calls Try.prog 7 #[.agg #[.slice A0 l0.length c0, .slice A1 l1.length c1], .agg #[.slice A2 m0.length c2, .slice A3 m1.length c3]] w fun e w' => e = .returned (.bool true) ∧ Below w.heap.size w w' := by
  obtain ⟨K0, hA⟩ := awake_ev
  have hF := few_eq l0 l1
  have hH := few_eq m0 m1
  by_cases hf : l0.length ≤ 45 ∧ l1.length ≤ 90
  rotate_left
  · rw [decide_eq_false hf] at hF
    exact law7_few K0 A0 c0 l0 A1 c1 l1 A2 c2 m0 A3 c3 m1 w ⟨hc0, h0⟩ ⟨hc1, h1⟩ ⟨hc2, h2⟩ ⟨hc3, h3⟩ (hA K0 (Nat.le_refl _)) hF
  rw [decide_eq_true hf] at hF
  by_cases hh : m0.length ≤ 45 ∧ m1.length ≤ 90
  rotate_left
  · rw [decide_eq_false hh] at hH
    exact law7_few2 K0 A0 c0 l0 A1 c1 l1 A2 c2 m0 A3 c3 m1 w ⟨hc0, h0⟩ ⟨hc1, h1⟩ ⟨hc2, h2⟩ ⟨hc3, h3⟩ (hA K0 (Nat.le_refl _)) hF hH
  rw [decide_eq_true hh] at hH
  obtain ⟨r1, r2, r3, r4, r5, r6, r7, hr⟩ : ∃ r1 r2 r3 r4 r5 r6 r7, union l0 l1 m0 m1 = (r1, r2, r3, r4, r5, r6, r7) := ⟨_, _, _, _, _, _, _, rfl⟩
  obtain ⟨g1, g2, g3, g4, g5, g6⟩ := union_len l0 l1 m0 m1 r1 r2 r3 r4 r5 r6 r7 hr
  obtain ⟨K1, hU⟩ := gunion_ev l0 l1 m0 m1
  obtain ⟨K2, hU'⟩ := runion_ev l0 l1 m0 m1
  obtain ⟨K3, hS⟩ := same_self r1 r2 (by omega) (by omega)
  obtain ⟨K4, hs⟩ := lsame_self r3 r4 (by omega) (by omega)
  obtain ⟨K5, hs'⟩ := lsame_self r5 r6 (by omega) (by omega)
  obtain ⟨k, k0, k1, k2, k3, k4, k5⟩ : ∃ k, K0 ≤ k ∧ K1 ≤ k ∧ K2 ≤ k ∧ K3 ≤ k ∧ K4 ≤ k ∧ K5 ≤ k := ⟨K0 + K1 + K2 + K3 + K4 + K5, by omega, by omega, by omega, by omega, by omega, by omega⟩
  exact law7_main k A0 c0 l0 A1 c1 l1 A2 c2 m0 A3 c3 m1 w ⟨hc0, h0⟩ ⟨hc1, h1⟩ ⟨hc2, h2⟩ ⟨hc3, h3⟩ (hA k k0) hF hH (copied_eq l0 l1 (by omega) (by omega)) (copied_eq m0 m1 (by omega) (by omega)) r1 r2 r3 r4 r5 r6 r7
    ((hU k k1).trans (congrArg some hr)) ((hU' k k2).trans (congrArg some hr)) (hS k k3) (hs k k4) (hs' k k5)
end Go.Proofs.Ytmbnibonggbjgaa.Pure

/- The seat's own argument types, by 'Opens'. -/
namespace Go.Proofs.Ytmbnibonggbjgaa.Open
open Go.RowKit Go.Proofs.YtmbnibonggbjgaaW.PrintWords Go.Proofs.Ytmbnibonggbjgaa.X
set_option linter.unusedVariables false
abbrev okInt (n : Int) : Prop := (Lit.int .i64 n).wf = true
theorem open22 : Opens Try.prog 22 (Kd.slice 3 (Kd.int .i64)) (fun l => ∀ x ∈ l, okInt x) := opens_slice Try.underlying22 (opens_int Try.underlying3) (by kernel_rfl)
theorem open38 : Opens Try.prog 38 k38 (fun e : S38 => okInt e.f0 ∧ okInt e.f1 ∧ okInt e.f2) :=
  opens_iso (opens_struct3 Try.underlying38 rfl (by kernel_rfl) (by kernel_rfl) (by kernel_rfl) (opens_int Try.underlying3) (opens_int Try.underlying3) (opens_int Try.underlying3)) _ (fun p => ⟨p.1, p.2.1, p.2.2⟩) (fun _ => rfl)
theorem open23 : Opens Try.prog 23 (Kd.slice 38 k38) (fun l => ∀ e ∈ l, okInt e.f0 ∧ okInt e.f1 ∧ okInt e.f2) := opens_slice Try.underlying23 open38 (by kernel_rfl)
theorem open25 : Opens Try.prog 25 k25 (fun g : S25 => (∀ x ∈ g.f0, okInt x) ∧ ∀ e ∈ g.f1, okInt e.f0 ∧ okInt e.f1 ∧ okInt e.f2) :=
  opens_iso (opens_struct2 Try.underlying25 rfl (by kernel_rfl) (by kernel_rfl) open22 open23) _ (fun p => ⟨p.1, p.2⟩) (fun _ => rfl)
end Go.Proofs.Ytmbnibonggbjgaa.Open


namespace Go.Proofs.Ytmbnibonggbjgaa.graphUnion
open Go.ChangeShapes Go.WideShapes Go.ChangeAt Go.RowKit
open Go.ChangeMaps (open_string shut_string)
open Go.Proofs.YtmbnibonggbjgaaW.PrintWords Go.Proofs.Ytmbnibonggbjgaa.X
set_option linter.unusedVariables false
theorem own : ownKnob Try.prog.godebug = none := by kernel_rfl
theorem laidOut : laidOutB Try.prog = true := by kernel_rfl
set_option maxRecDepth 100000 in
theorem lifted (os : Os) (started : os.Started) (H : Type) (enc : TypeId × Value → H) :
    ReturnsInHanded {} Try.checked os 7 .any (Rows.graphUnionSpec.pre6 enc Try.prog Try.f7 Rows.graphUnionRow.domain false) (Rows.graphUnionSpec.post enc Try.prog Try.f7 false true false false) := by
  refine returnsInHanded_of_change_sized (C := Try.checked) own started (by kernel_rfl) Try.func7
    (ChangeSpec.witness6 (enc := enc) (C := Try.checked) false ⟨#[], #[.agg #[.slice none 0 0, .slice none 0 0], .agg #[.slice none 0 0, .slice none 0 0]], []⟩ 8 (by kernel_rfl) (by kernel_rfl) (by kernel_rfl) (by kernel_rfl)) ?_
  intro W base args ds gs before hval0 hW hcnd hsz0 _
  clear hsz0
  have hval : ∀ (j : Nat) t v, Try.f7.params[j]? = some t → args[j]? = some v → Value.okWide Try.prog W .any base t v := hval0
  have hW' := hW
  obtain ⟨p, q, hA0, hV, rfl, hfz, hnd⟩ := hW
  have hA : DataW.TrodAll enc Try.prog W 0 (fun _ => true) true Try.f7.params.toList args.toList ds p := hA0
  rw [Try.params7] at hA hval
  obtain ⟨v0, vs0, d0, ds0, p0, q0, hargs, rfl, rfl, h0, r0⟩ := trodAll_cons hA
  obtain ⟨v1, vs1, d1, ds1, p1, q1, rfl, rfl, rfl, h1, r1⟩ := trodAll_cons r0
  obtain ⟨rfl, rfl, rfl⟩ := trodAll_nil r1
  obtain rfl : args = #[v0, v1] := by cases args; simp_all
  obtain ⟨rfl, rfl⟩ := trodVars_none hV
  have k0 := h0
  have lt0 : ∀ x ∈ p0, x.block < W.heap.size := by obtain ⟨m, hm⟩ := k0; exact DataW.trod_lt m _ _ _ hm
  obtain ⟨cs0, rfl, hz0⟩ := okWide_struct Try.underlying25 (hval 0 25 v0 rfl rfl)
  obtain ⟨m0, hm0⟩ := h0
  obtain ⟨x0, K0, g0⟩ := Open.open25 hm0
  replace K0 : k25.K W x0 cs0.toList := K0
  obtain ⟨A0_0, c0_0, A0_1, c0_1, e0, hc0_0, hr0_0, hc0_1, hr0_1⟩ := k25_open K0
  obtain rfl : cs0 = #[.slice A0_0 x0.f0.length c0_0, .slice A0_1 x0.f1.length c0_1] := by apply Array.toList_inj.mp; rw [e0]
  have k1 := h1
  have lt1 : ∀ x ∈ p1, x.block < W.heap.size := by obtain ⟨m, hm⟩ := k1; exact DataW.trod_lt m _ _ _ hm
  obtain ⟨cs1, rfl, hz1⟩ := okWide_struct Try.underlying25 (hval 1 25 v1 rfl rfl)
  obtain ⟨m1, hm1⟩ := h1
  obtain ⟨x1, K1, g1⟩ := Open.open25 hm1
  replace K1 : k25.K W x1 cs1.toList := K1
  obtain ⟨A1_0, c1_0, A1_1, c1_1, e1, hc1_0, hr1_0, hc1_1, hr1_1⟩ := k25_open K1
  obtain rfl : cs1 = #[.slice A1_0 x1.f0.length c1_0, .slice A1_1 x1.f1.length c1_1] := by apply Array.toList_inj.mp; rw [e1]
  clear hA0 hval0
  refine (Pure.GraphUnion_walk _ _ x0.f0 _ _ x0.f1 _ _ x1.f0 _ _ x1.f1 W hr0_0 hc0_0 hr0_1 hc0_1 hr1_0 hc1_0 hr1_1 hc1_1).mono fun e W' ⟨he, bel⟩ => ?_
  subst he
  exact ⟨_, rfl, _, _, _, [], _, [], hW', trodAll_mk1 (shut_bool Try.underlying4 _), (trodAll_cons_mk (Below.trod laidOut (by kernel_rfl) (of_decide_eq_true (by kernel_rfl)) k0 bel lt0) (trodAll_cons_mk (Below.trod laidOut (by kernel_rfl) (of_decide_eq_true (by kernel_rfl)) k1 bel lt1) trodAll_mk0)), rfl, bel.frame _, fun h => by cases h⟩
theorem over : Rows.graphUnionRow.holds Try.pinned (OpenSpec.ofChange Rows.graphUnionSpec) :=
  OpenClaim.holds_of_wide 7 Try.f7 rfl rfl rfl rfl rfl rfl rfl ⟨rfl, rfl, rfl, rfl, rfl⟩ rfl rfl rfl rfl rfl (by kernel_rfl) Try.func7 (by kernel_rfl)
    (of_decide_eq_true (by kernel_rfl)) (by unfold Func.isWrapper; first | (rw [if_pos (by decide +kernel)]; kernel_rfl) | (rw [if_neg (by decide +kernel)]; exact ⟨rfl, rfl⟩))
    (fun os started H enc _ => lifted os started H enc)
theorem proved : Rows.GraphUnionSaid := over
#print axioms proved
end Go.Proofs.Ytmbnibonggbjgaa.graphUnion
namespace Go.Proofs.Ytmbnibonggbjgaa
/-- The row, under a short name, for the claim. -/
theorem graphUnion_holds : Rows.GraphUnionSaid := graphUnion.proved
end Go.Proofs.Ytmbnibonggbjgaa
