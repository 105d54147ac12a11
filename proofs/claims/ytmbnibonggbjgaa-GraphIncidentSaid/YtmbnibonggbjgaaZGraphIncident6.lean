/- The law GraphIncident returns true at every input, and its arguments read afterwards as they read before. No condition. -/
import Derived.Test.YtmbnibonggbjgaaZGraphIncident5
import Derived.Test.YtmbnibonggbjgaaRows
/- Plain laws: the reference's Valid and the program's are one; a list is the same as itself. -/
namespace Go.Proofs.Ytmbnibonggbjgaa.Pl
open Go.RowKit Go.Proofs.YtmbnibonggbjgaaW.PrintWords Go.Proofs.Ytmbnibonggbjgaa.X
set_option linter.unusedVariables false

theorem rd_mid (pre : List Int) (x : Int) (r : List Int) : rd (pre ++ x :: r) (pre.length : Int) = x := by
  unfold rd; rw [Int.toNat_natCast, List.getD_eq_getElem?_getD, List.getElem?_append_right (Nat.le_refl _)]; simp
theorem rd38_mid (pre : List S38) (x : S38) (r : List S38) : rd_T38 (pre ++ x :: r) (pre.length : Int) = x := by
  unfold rd_T38; rw [Int.toNat_natCast, List.getD_eq_getElem?_getD, List.getElem?_append_right (Nat.le_refl _)]; simp
theorem lt_mid {α : Type} (pre : List α) (x : α) (r : List α) : (pre.length : Int) < ((pre ++ x :: r).length : Int) := by simp; omega
theorem snoc_mid {α : Type} (pre : List α) (x : α) (r : List α) : pre ++ x :: r = (pre ++ [x]) ++ r := by simp
theorem wrap_mid {α : Type} (pre : List α) (x : α) (r : List α) (h : (pre ++ x :: r).length ≤ 9223372036854775807) : wrap64 ((pre.length : Int) + 1) = ((pre ++ [x]).length : Int) := by
  simp at h ⊢
  unfold wrap64
  omega
theorem wrap_id {i : Int} (h0 : 0 ≤ i) (h : i ≤ 9223372036854775807) : wrap64 i = i := by unfold wrap64; omega

theorem kind_eq (t : Int) : scarfjointref05_kind.f t = some (kindB t) := by
  unfold scarfjointref05_kind.f kindB
  by_cases h : t ≥ 0
  · rw [if_pos h]; simp [h]
  · rw [if_neg h]; simp [h]
theorem right_eq (e : S38) (n : Int) : scarfjointref05_right.f e.f0 e.f1 e.f2 n = some (edgeB n e) := by
  unfold scarfjointref05_right.f edgeB
  rw [kind_eq]
  simp only [Option.bind_some]
  cases kindB e.f0
  · simp
  · simp only [if_true, Bool.true_and]
    by_cases h1 : e.f1 ≥ 0
    · rw [if_pos h1]
      by_cases h2 : e.f1 < n
      · rw [if_pos h2]
        by_cases h3 : e.f2 ≥ 0
        · rw [if_pos h3]; simp [h1, h2, h3]
        · rw [if_neg h3]; simp [h3]
      · rw [if_neg h2]; simp [h2]
    · rw [if_neg h1]; simp [h1]

theorem valid_l1 (l0 : List Int) (l1 : List S38) (hl : l1.length ≤ 9223372036854775807) : ∀ (r pre : List S38), l1 = pre ++ r →
    Ev (fun k => scarfjointref05_Valid.l1 k (pre.length : Int) l0 l1) (if r.any (fun e => !edgeB l0.length e) = true then 6 else 0) := by
  intro r
  induction r with
  | nil =>
    rintro pre rfl
    refine Ev.step (fun k => by simp only [scarfjointref05_Valid.l1]; rw [if_neg (by simp)]) ?_
    exact Ev.now _
  | cons x r ih =>
    rintro pre rfl
    have ih' := ih (pre ++ [x]) (snoc_mid pre x r)
    cases hb : edgeB l0.length x with
    | true =>
      refine Ev.step (fun k => by simp only [scarfjointref05_Valid.l1]; rw [if_pos (lt_mid pre x r), if_pos (by omega), rd38_mid, right_eq, hb, wrap_mid pre x r hl]) ?_
      simpa [hb] using ih'
    | false =>
      refine Ev.step (fun k => by simp only [scarfjointref05_Valid.l1]; rw [if_pos (lt_mid pre x r), if_pos (by omega), rd38_mid, right_eq, hb]) ?_
      simpa [hb] using Ev.now (6 : Int)

theorem valid_l0 (l0 : List Int) (l1 : List S38) (hl0 : l0.length ≤ 9223372036854775807) (hl : l1.length ≤ 9223372036854775807) : ∀ (r pre : List Int), l0 = pre ++ r →
    Ev (fun k => scarfjointref05_Valid.l0 k (pre.length : Int) l0 l1) (if r.any (fun t => !kindB t) = true then 6 else if l1.any (fun e => !edgeB l0.length e) = true then 6 else 0) := by
  intro r
  induction r with
  | nil =>
    rintro pre rfl
    refine Ev.step (fun k => by simp only [scarfjointref05_Valid.l0]; rw [if_neg (by simp)]) ?_
    have h := valid_l1 pre l1 hl l1 [] rfl
    simpa using h
  | cons x r ih =>
    rintro pre rfl
    have ih' := ih (pre ++ [x]) (snoc_mid pre x r)
    cases hb : kindB x with
    | true =>
      refine Ev.step (fun k => by simp only [scarfjointref05_Valid.l0]; rw [if_pos (lt_mid pre x r), if_pos (by omega), rd_mid, kind_eq, hb, wrap_mid pre x r hl0]) ?_
      simpa [hb] using ih'
    | false =>
      refine Ev.step (fun k => by simp only [scarfjointref05_Valid.l0]; rw [if_pos (lt_mid pre x r), if_pos (by omega), rd_mid, kind_eq, hb]) ?_
      simpa [hb] using Ev.now (6 : Int)

theorem valid_ev (l0 : List Int) (l1 : List S38) : Ev (fun k => scarfjointref05_Valid.f k l0 l1) (validE l0 l1) := by
  unfold validE scarfjointref05_Valid.f
  by_cases h0 : l0.length > 40
  · rw [if_pos h0]
    simp only [if_pos (show (l0.length : Int) > 40 by omega)]
    exact Ev.step (fun k => by simp only [scarfjointref05_Valid.j0, if_true]) (Ev.now _)
  · rw [if_neg h0]
    simp only [if_neg (show ¬ (l0.length : Int) > 40 by omega)]
    by_cases h1 : l1.length > 80
    · rw [if_pos h1]
      refine Ev.step (fun k => by simp only [scarfjointref05_Valid.j0]; rw [if_pos (by simp; omega)]) (Ev.now _)
    · rw [if_neg h1]
      refine Ev.step (fun k => by simp only [scarfjointref05_Valid.j0]; rw [if_neg (by simp; omega)]) ?_
      exact valid_l0 l0 l1 (by omega) (by omega) l0 [] rfl

theorem few_eq (l0 : List Int) (l1 : List S38) : scarfjointref05_Few.f l0 l1 = some (decide (l0.length ≤ 45 ∧ l1.length ≤ 90)) := by
  unfold scarfjointref05_Few.f
  by_cases h : (l0.length : Int) ≤ 45
  · rw [if_pos h]
    have h' : l0.length ≤ 45 := by omega
    simp [h']; omega
  · rw [if_neg h]
    have h' : ¬ l0.length ≤ 45 := by omega
    simp [h']
theorem copied_eq (l0 : List Int) (l1 : List S38) (h0 : l0.length ≤ 1000000) (h1 : l1.length ≤ 1000000) : scarfjointref05_Copied.f l0 l1 = some (l0, l1) := by
  unfold scarfjointref05_Copied.f
  simp only [Option.bind_some]
  rw [if_pos (by simp; omega), if_pos (by simp; omega)]
  simp

theorem sameInts_l0 (l : List Int) (hl : l.length ≤ 9223372036854775807) : ∀ (r pre : List Int), l = pre ++ r → Ev (fun k => scarfjointref05_SameInts.l0 k l l (pre.length : Int)) true := by
  intro r
  induction r with
  | nil =>
    rintro pre rfl
    exact Ev.step (fun k => by simp only [scarfjointref05_SameInts.l0]; rw [if_neg (by simp)]) (Ev.now _)
  | cons x r ih =>
    rintro pre rfl
    refine Ev.step (fun k => by simp only [scarfjointref05_SameInts.l0]; rw [if_pos (lt_mid pre x r), if_pos (by omega), if_pos (lt_mid pre x r), if_pos trivial, wrap_mid pre x r hl]) (ih (pre ++ [x]) (snoc_mid pre x r))
theorem sameInts_self (l : List Int) (hl : l.length ≤ 1000000) : Ev (fun k => scarfjointref05_SameInts.f k l l) true := by
  unfold scarfjointref05_SameInts.f
  simp only [if_true]
  exact sameInts_l0 l (by omega) l [] rfl
theorem same_l0 (l : List S38) (a b : List Int) (hl : l.length ≤ 9223372036854775807) : ∀ (r pre : List S38), l = pre ++ r → Ev (fun k => scarfjointref05_Same.l0 k (pre.length : Int) a l b l) true := by
  intro r
  induction r with
  | nil =>
    rintro pre rfl
    exact Ev.step (fun k => by simp only [scarfjointref05_Same.l0]; rw [if_neg (by simp)]) (Ev.now _)
  | cons x r ih =>
    rintro pre rfl
    refine Ev.step (fun k => by simp only [scarfjointref05_Same.l0]; rw [if_pos (lt_mid pre x r), if_pos (by omega), if_pos (lt_mid pre x r), if_neg (by simp), wrap_mid pre x r hl]) (ih (pre ++ [x]) (snoc_mid pre x r))
theorem same_self (l0 : List Int) (l1 : List S38) (h0 : l0.length ≤ 1000000) (h1 : l1.length ≤ 1000000) : Ev (fun k => scarfjointref05_Same.f k l0 l1 l0 l1) true := by
  unfold scarfjointref05_Same.f
  refine Ev.bind (sameInts_self l0 h0) ?_
  simp only [if_true]
  refine Ev.step (fun k => by simp only [scarfjointref05_Same.j0]; rw [if_neg (by simp)]) ?_
  exact same_l0 l1 l0 l0 (by omega) l1 [] rfl
end Go.Proofs.Ytmbnibonggbjgaa.Pl

namespace Go.Proofs.Ytmbnibonggbjgaa.X
open Go.RowKit Go.Proofs.YtmbnibonggbjgaaW.PrintWords Go.Proofs.YtmbnibonggbjgaaW.PrintLast Go.Proofs.YtmbnibonggbjgaaW.PrintMore
open Go.Proofs.YtmbnibonggbjgaaW.PrintWords renaming blk_drewN → bN, blk_drew → bD, blk_alloc → bA, below_alloc → wA, pw_below_drewN → wN, below_drew1 → wD, blk_below → bB, below_step → wS, blk_at → bT, blk_grown → bG
open Go.Proofs.YtmbnibonggbjgaaW.PrintWords.Kd renaming R_alloc → rA, R_drewN → rN, R_drew → rD, R_below → rB, R_grown → rG, C_below → cB, C_alloc → cA, C_drewN → cN, C_drew → cD
attribute [local go_sem] max2_int min2_int max_two min_two max_three min_three max_four min_four
set_option linter.unusedVariables false
set_option linter.unusedSimpArgs false
attribute [local go_sem high] eqA38
/-! ### api_Edge_54: function 54 -/
def api_Edge_54.l0 : Nat → List (S38) → List (S38) → Int → Int → Option (Bool)
 | 0, _, _, _, _ => none
 | k + 1, x0, x1, x12, x13 => if x13 < x12 then (if 0 ≤ x13 then (if x13 < (x0.length : Int) then (if x13 < (x1.length : Int) then (if (!(((rd_T38 x0 x13).f0) == ((rd_T38 x1 x13).f0)) || (!(((rd_T38 x0 x13).f1) == ((rd_T38 x1 x13).f1)) || (!(((rd_T38 x0 x13).f2) == ((rd_T38 x1 x13).f2))))) = true then (some false) else (api_Edge_54.l0 k x0 x1 x12 (wrap64 (x13 + 1)))) else (none)) else (none)) else (none)) else (some true)
def api_Edge_54.f (k : Nat) (l0 : List (S38)) (l1 : List (S38)) : Option (Bool) := if (l0.length : Int) = (l1.length : Int) then (api_Edge_54.l0 k l0 l1 (l0.length : Int) 0) else (some false)
theorem api_Edge_54.mono_l : ∀ k, (∀ y0 y1 y2 y3, LeO (api_Edge_54.l0 k y0 y1 y2 y3) (api_Edge_54.l0 (k + 1) y0 y1 y2 y3))
 | 0 => fun _ _ _ _ r h => by simp [api_Edge_54.l0] at h
 | k + 1 => by
  have ih0 := api_Edge_54.mono_l k
  ·intro y0 y1 y2 y3
   unfold api_Edge_54.l0
   repeat' first
   | (with_reducible exact ih0 _ _ _ _)
   | (with_reducible exact LeO.refl _)
   | (with_reducible exact LeO.none _)
   | (with_reducible refine LeO.ite ?_ ?_)
   | (with_reducible refine LeO.bind ?_ (fun _ => ?_))
   | exact ih0 _ _ _ _
   | exact LeO.none _
   | refine LeO.ite ?_ ?_
   | refine LeO.bind ?_ (fun _ => ?_)
theorem api_Edge_54.mono : ∀ a0 a1 k, LeO (api_Edge_54.f k a0 a1) (api_Edge_54.f (k + 1) a0 a1) := by
 intro a0 a1 k
 have ih0 := api_Edge_54.mono_l k
 unfold api_Edge_54.f
 repeat' first
   | (with_reducible exact ih0 _ _ _ _)
   | (with_reducible exact LeO.refl _)
   | (with_reducible exact LeO.none _)
   | (with_reducible refine LeO.ite ?_ ?_)
   | (with_reducible refine LeO.bind ?_ (fun _ => ?_))
   | exact ih0 _ _ _ _
   | exact LeO.none _
   | refine LeO.ite ?_ ?_
   | refine LeO.bind ?_ (fun _ => ?_)
set_option maxHeartbeats 8000000 in
set_option maxRecDepth 100000 in
theorem api_Edge_54.calls (k : Nat) (A0 : Option Addr) (c0 : Nat) (l0 : List (S38)) (A1 : Option Addr) (c1 : Nat) (l1 : List (S38)) (r : Bool) (w : World) (hr0 : Kd.C k38 w A0 l0.length l0) (hc0 : l0.length ≤ c0) (hr1 : Kd.C k38 w A1 l1.length l1) (hc1 : l1.length ≤ c1) (h : api_Edge_54.f k l0 l1 = some r) :
  Calls Try.prog 54 #[.slice A0 l0.length c0, .slice A1 l1.length c1] w fun e w' => e = .returned (.bool r) ∧ Drawn0 w w' := by
 have hu38 := Try.underlying38
 have HR0 := Aside0.mk hr0
 have HC0 := Aside0.mk hc0
 clear hr0 hc0
 have HR1 := Aside0.mk hr1
 have HC1 := Aside0.mk hc1
 clear hr1 hc1
 have H : (if (l0.length : Int) = (l1.length : Int) then (api_Edge_54.l0 k l0 l1 (l0.length : Int) 0) else (some false)) = some r := h
 clear h
 by_cases c3 : (l0.length : Int) = (l1.length : Int)
 ·rw [if_pos c3] at H
  have c3b0 : ((l0.length : Int) == (l1.length : Int)) = true := beq_iff_eq.mpr c3
  have c3b1 : ((l0.length : Int) != (l1.length : Int)) = false := bne_eq_false_iff_eq.mpr c3
  have c3b2 : (l0.length == l1.length) = true := by first | simpa using c3 | (simp at c3 ⊢; omega)
  clear c3
  have H' := Aside0.mk H
  clear H
  go_enter Try.func54, Try.ntmps54
  go_wp2
  repeat (go_quiet (fail); try go_wp2)
  go_loopg [13] k (fun kq v13 w' => ∃ (x13_1 : Int), v13 = .int .i64 x13_1 ∧ Aside0 (api_Edge_54.l0 kq l0 l1 (l0.length : Int) x13_1 = some r) ∧ Aside0 (kq ≤ k) ∧ Drawn0 w w')
  case atStart => exact ⟨(0), rS, H', ⟨Nat.le_refl _⟩, by repeat (first | exact Drawn0.refl _ | apply Drawn0.step)⟩
  case round =>
   clear H'
   try clear c1
   try clear p2
   try clear c3
   try clear c3b0
   try clear c3b1
   try clear c3b2
   obtain ⟨x13_1, rfl, HA, HK1, ⟨m1, rfl⟩⟩ := hrel
   cases gk with
   | zero => exact absurd HA.out (by simp [api_Edge_54.l0])
   | succ k1 =>
    have H := HA.out
    clear HA
    simp only [api_Edge_54.l0] at H
    by_cases c4 : x13_1 < (l0.length : Int)
    ·rw [if_pos c4] at H
     have c4b0 : decide (x13_1 < (l0.length : Int)) = true := decide_eq_true c4
     clear c4
     by_cases c5 : 0 ≤ x13_1
     ·rw [if_pos c5] at H
      have c5b0 : decide (0 ≤ x13_1) = true := decide_eq_true c5
      clear c5
      by_cases c6 : x13_1 < (l0.length : Int)
      ·rw [if_pos c6] at H
       have c6b0 : decide (x13_1 < (l0.length : Int)) = true := decide_eq_true c6
       clear c6
       by_cases c7 : x13_1 < (l1.length : Int)
       ·rw [if_pos c7] at H
        have c7b0 : decide (x13_1 < (l1.length : Int)) = true := decide_eq_true c7
        clear c7
        by_cases c8 : (!(((rd_T38 l0 x13_1).f0) == ((rd_T38 l1 x13_1).f0)) || (!(((rd_T38 l0 x13_1).f1) == ((rd_T38 l1 x13_1).f1)) || (!(((rd_T38 l0 x13_1).f2) == ((rd_T38 l1 x13_1).f2))))) = true
        ·rw [if_pos c8] at H
         have c8b0 : (!(((rd_T38 l0 x13_1).f0) == ((rd_T38 l1 x13_1).f0)) || (!(((rd_T38 l0 x13_1).f1) == ((rd_T38 l1 x13_1).f1)) || (!(((rd_T38 l0 x13_1).f2) == ((rd_T38 l1 x13_1).f2))))) = true := c8
         clear c8
         obtain rfl := Option.some.inj H
         have p101 : 0 ≤ (x13_1 : Int) := oT
         have q101 : x13_1 < (l0.length : Int) := oT
         obtain ⟨ad101, e101, hx101_0, hx101_1, hx101_2⟩ := at_T38 HR0.out x13_1 p101 q101
         cases e101
         replace p101 := eq_true p101
         replace q101 := eq_true q101
         have p102 : 0 ≤ (x13_1 : Int) := oT
         have q102 : x13_1 < (l1.length : Int) := oT
         obtain ⟨ad102, e102, hx102_0, hx102_1, hx102_2⟩ := at_T38 HR1.out x13_1 p102 q102
         cases e102
         replace p102 := eq_true p102
         replace q102 := eq_true q102
         go_wp2
         repeat (go_quiet (fail); try go_wp2)
         go_ret
         exact ⟨by first | rfl | (simp; done) | (simp [*]; done), by repeat (first | exact Drawn0.refl _ | apply Drawn0.step)⟩
        ·rw [if_neg c8] at H
         have c8b0 : (!(((rd_T38 l0 x13_1).f0) == ((rd_T38 l1 x13_1).f0)) || (!(((rd_T38 l0 x13_1).f1) == ((rd_T38 l1 x13_1).f1)) || (!(((rd_T38 l0 x13_1).f2) == ((rd_T38 l1 x13_1).f2))))) = false := by simpa using c8
         clear c8
         have H' := Aside0.mk H
         clear H
         have p101 : 0 ≤ (x13_1 : Int) := oT
         have q101 : x13_1 < (l0.length : Int) := oT
         obtain ⟨ad101, e101, hx101_0, hx101_1, hx101_2⟩ := at_T38 HR0.out x13_1 p101 q101
         cases e101
         replace p101 := eq_true p101
         replace q101 := eq_true q101
         have p102 : 0 ≤ (x13_1 : Int) := oT
         have q102 : x13_1 < (l1.length : Int) := oT
         obtain ⟨ad102, e102, hx102_0, hx102_1, hx102_2⟩ := at_T38 HR1.out x13_1 p102 q102
         cases e102
         replace p102 := eq_true p102
         replace q102 := eq_true q102
         go_wp2
         repeat (go_quiet (fail); try go_wp2)
         go_roundg k1
         case measure => have := HK1.out; omega
         case rel => exact ⟨(wrap64 (x13_1 + 1)), rS, H', ⟨by have := HK1.out; omega⟩, by repeat (first | exact Drawn0.refl _ | apply Drawn0.step)⟩
       ·rw [if_neg c7] at H
        exact absurd H (by simp)
      ·rw [if_neg c6] at H
       exact absurd H (by simp)
     ·rw [if_neg c5] at H
      exact absurd H (by simp)
    ·rw [if_neg c4] at H
     have c4b0 : decide (x13_1 < (l0.length : Int)) = false := decide_eq_false c4
     clear c4
     obtain rfl := Option.some.inj H
     go_wp2
     repeat (go_quiet (fail); try go_wp2)
     go_ret
     exact ⟨by first | rfl | (simp; done) | (simp [*]; done), by repeat (first | exact Drawn0.refl _ | apply Drawn0.step)⟩
 ·rw [if_neg c3] at H
  have c3b0 : ((l0.length : Int) == (l1.length : Int)) = false := beq_eq_false_iff_ne.mpr c3
  have c3b1 : ((l0.length : Int) != (l1.length : Int)) = true := bne_iff_ne.mpr c3
  have c3b2 : (l0.length == l1.length) = false := by first | simpa using c3 | (simp at c3 ⊢; omega)
  obtain rfl := Option.some.inj H
  go_enter Try.func54, Try.ntmps54
  go_wp2
  repeat (go_quiet (fail); try go_wp2)
  go_ret
  exact ⟨by first | rfl | (simp; done) | (simp [*]; done), by repeat (first | exact Drawn0.refl _ | apply Drawn0.step)⟩
end Go.Proofs.Ytmbnibonggbjgaa.X

namespace Go.Proofs.Ytmbnibonggbjgaa.X
open Go.RowKit Go.Proofs.YtmbnibonggbjgaaW.PrintWords Go.Proofs.YtmbnibonggbjgaaW.PrintLast Go.Proofs.YtmbnibonggbjgaaW.PrintMore
open Go.Proofs.YtmbnibonggbjgaaW.PrintWords renaming blk_drewN → bN, blk_drew → bD, blk_alloc → bA, below_alloc → wA, pw_below_drewN → wN, below_drew1 → wD, blk_below → bB, below_step → wS, blk_at → bT, blk_grown → bG
open Go.Proofs.YtmbnibonggbjgaaW.PrintWords.Kd renaming R_alloc → rA, R_drewN → rN, R_drew → rD, R_below → rB, R_grown → rG, C_below → cB, C_alloc → cA, C_drewN → cN, C_drew → cD
attribute [local go_sem] max2_int min2_int max_two min_two max_three min_three max_four min_four
set_option linter.unusedVariables false
set_option linter.unusedSimpArgs false
/-! ### graph_Same: function 28 -/
def graph_Same.f (k : Nat) (l0_0 : List Int) (l0_1 : List (S38)) (l1_0 : List Int) (l1_1 : List (S38)) : Option (Bool) := (slices_Equal_int_int.f k l0_0 l1_0).bind fun t103 => (if t103 = true then ((api_Edge_54.f k l0_1 l1_1).bind fun t104 => (some t104)) else (some false))
theorem graph_Same.mono : ∀ a0 a1 a2 a3 k, LeO (graph_Same.f k a0 a1 a2 a3) (graph_Same.f (k + 1) a0 a1 a2 a3) := by
 intro a0 a1 a2 a3 k
 unfold graph_Same.f
 repeat' first
   | (with_reducible exact api_Edge_54.mono _ _ _)
   | (with_reducible exact slices_Equal_int_int.mono _ _ _)
   | (with_reducible exact LeO.refl _)
   | (with_reducible exact LeO.none _)
   | (with_reducible refine LeO.ite ?_ ?_)
   | (with_reducible refine LeO.bind ?_ (fun _ => ?_))
   | exact api_Edge_54.mono _ _ _
   | exact slices_Equal_int_int.mono _ _ _
   | exact LeO.none _
   | refine LeO.ite ?_ ?_
   | refine LeO.bind ?_ (fun _ => ?_)
set_option maxHeartbeats 8000000 in
set_option maxRecDepth 100000 in
theorem graph_Same.calls (k : Nat) (A0_0 : Option Addr) (c0_0 : Nat) (l0_0 : List Int) (A0_1 : Option Addr) (c0_1 : Nat) (l0_1 : List (S38)) (A1_0 : Option Addr) (c1_0 : Nat) (l1_0 : List Int) (A1_1 : Option Addr) (c1_1 : Nat) (l1_1 : List (S38)) (r : Bool) (w : World) (hr0_0 : Kd.C (Kd.int .i64) w A0_0 l0_0.length l0_0) (hc0_0 : l0_0.length ≤ c0_0) (hr0_1 : Kd.C k38 w A0_1 l0_1.length l0_1) (hc0_1 : l0_1.length ≤ c0_1) (hr1_0 : Kd.C (Kd.int .i64) w A1_0 l1_0.length l1_0) (hc1_0 : l1_0.length ≤ c1_0) (hr1_1 : Kd.C k38 w A1_1 l1_1.length l1_1) (hc1_1 : l1_1.length ≤ c1_1) (h : graph_Same.f k l0_0 l0_1 l1_0 l1_1 = some r) :
  Calls Try.prog 28 #[.agg #[.slice A0_0 l0_0.length c0_0, .slice A0_1 l0_1.length c0_1], .agg #[.slice A1_0 l1_0.length c1_0, .slice A1_1 l1_1.length c1_1]] w fun e w' => e = .returned (.bool r) ∧ Below w.heap.size w w' := by
 have hu25 := Try.underlying25
 have HR0_0 := Aside0.mk hr0_0
 have HC0_0 := Aside0.mk hc0_0
 clear hr0_0 hc0_0
 have HR0_1 := Aside0.mk hr0_1
 have HC0_1 := Aside0.mk hc0_1
 clear hr0_1 hc0_1
 have HR1_0 := Aside0.mk hr1_0
 have HC1_0 := Aside0.mk hc1_0
 clear hr1_0 hc1_0
 have HR1_1 := Aside0.mk hr1_1
 have HC1_1 := Aside0.mk hc1_1
 clear hr1_1 hc1_1
 have HB := Aside0.mk (Below.refl w.heap.size w)
 have H : ((slices_Equal_int_int.f k l0_0 l1_0).bind fun t103 => (if t103 = true then ((api_Edge_54.f k l0_1 l1_1).bind fun t104 => (some t104)) else (some false))) = some r := h
 clear h
 replace H := Option.bind_eq_some_iff.mp H
 obtain ⟨t103, A30, H⟩ := H
 replace H : (if t103 = true then ((api_Edge_54.f k l0_1 l1_1).bind fun t104 => (some t104)) else (some false)) = some r := H
 have A3 := Aside0.mk A30
 clear A30
 by_cases c4 : t103 = true
 ·subst c4
  have H1 : ((api_Edge_54.f k l0_1 l1_1).bind fun t104 => (some t104)) = some r := by rw [if_pos rfl] at H; exact H
  clear H
  have H := H1
  clear H1
  replace H := Option.bind_eq_some_iff.mp H
  obtain ⟨t104, A50, H⟩ := H
  replace H : (some t104) = some r := H
  have A5 := Aside0.mk A50
  clear A50
  obtain rfl := Option.some.inj H
  go_enter Try.func28, Try.ntmps28
  go_wp2_with (first | ((with_reducible refine gate_dst (N := 2) rfl ?_); refine box_event ?hg (N := 2) ?hd (cs := #[.slice A0_0 l0_0.length c0_0, .slice A0_1 l0_1.length c0_1]) (t := 25) ?hr ?_; (case hd => rfl); (case hg => rfl); (case hr => first | (go_simp; done) | (go_simp; rfl)); intro gb101 hg w6 hbox hb; have n0_ := Aside0.mk (wS hB hb); have n1_ := Aside0.mk (hbox); have n2_ := Aside0.mk ((by rw [hg]; exact (below_size hB) : w.heap.size ≤ gb101)); have n3_ := Aside0.mk ((by rw [hg]; exact (below_size hB) : w.heap.size ≤ gb101)); clear HB; have HB := n0_; have BK101 := n1_; have GW101 := n2_; have GE101 := n3_; clear n0_ n1_ n2_ n3_; clear hb hbox hg) | ((with_reducible refine gate_dst (N := 3) rfl ?_); refine box_event ?hg (N := 3) ?hd (cs := #[.slice A1_0 l1_0.length c1_0, .slice A1_1 l1_1.length c1_1]) (t := 25) ?hr ?_; (case hd => rfl); (case hg => rfl); (case hr => first | (go_simp; done) | (go_simp; rfl)); intro gb102 hg w7 hbox hb; have n0_ := Aside0.mk (bB (g := gb101) (o := .cells #[.slice A0_0 l0_0.length c0_0, .slice A0_1 l0_1.length c0_1] 25 (0, 0)) (by (with_reducible repeat (first | refine bN ?_ _ | refine bD ?_ | refine bA ?_ _)); exact BK101.out) hb); have n1_ := Aside0.mk (wS (by repeat (first | (with_reducible first | exact HB.out | apply wA | apply wN | apply wD | refine below_set ?_ GE101.out) | exact HB.out)) hb); have n2_ := Aside0.mk (hbox); have n3_ := Aside0.mk ((by rw [hg]; exact (below_size (by repeat (first | (with_reducible first | exact HB.out | apply wA | apply wN | apply wD | refine below_set ?_ GE101.out) | exact HB.out))) : w.heap.size ≤ gb102)); have n4_ := Aside0.mk ((by rw [hg]; exact (below_size (by repeat (first | (with_reducible first | exact HB.out | apply wA | apply wN | apply wD | refine below_set ?_ GE101.out) | exact HB.out))) : w.heap.size ≤ gb102)); have n5_ := Aside0.mk ((by rw [hg]; exact Nat.ne_of_lt (blk_lt (g := gb101) (o := .cells #[.slice A0_0 l0_0.length c0_0, .slice A0_1 l0_1.length c0_1] 25 (0, 0)) (by (with_reducible repeat (first | refine bN ?_ _ | refine bD ?_ | refine bA ?_ _)); exact BK101.out)) : gb101 ≠ gb102)); have n6_ := Aside0.mk ((by rw [hg]; exact Nat.ne_of_gt (blk_lt (g := gb101) (o := .cells #[.slice A0_0 l0_0.length c0_0, .slice A0_1 l0_1.length c0_1] 25 (0, 0)) (by (with_reducible repeat (first | refine bN ?_ _ | refine bD ?_ | refine bA ?_ _)); exact BK101.out)) : gb102 ≠ gb101)); clear BK101; clear HB; have BK101 := n0_; have HB := n1_; have BK102 := n2_; have GW102 := n3_; have GE102 := n4_; have NB101_102 := n5_; have NB102_101 := n6_; clear n0_ n1_ n2_ n3_ n4_ n5_ n6_; clear hb hbox hg; have hnb8 := NB101_102.out; have hnc8 := NB102_101.out; have hcz9_0 : w7.cell? ⟨gb101, 0, none⟩ = some (.slice A0_0 l0_0.length c0_0) := (blk_cell BK101.out 0).trans rfl; have hcz9_1 : w7.cell? ⟨gb101, 1, none⟩ = some (.slice A0_1 l0_1.length c0_1) := (blk_cell BK101.out 1).trans rfl; have hfz9_0 := blk_frozen BK101.out 0; have hfz9_1 := blk_frozen BK101.out 1; have hcz10_0 : w7.cell? ⟨gb102, 0, none⟩ = some (.slice A1_0 l1_0.length c1_0) := (blk_cell BK102.out 0).trans rfl; have hcz10_1 : w7.cell? ⟨gb102, 1, none⟩ = some (.slice A1_1 l1_1.length c1_1) := (blk_cell BK102.out 1).trans rfl; have hfz10_0 := blk_frozen BK102.out 0; have hfz10_1 := blk_frozen BK102.out 1) | ((with_reducible refine gate_callee (f := 22) rfl ?_); refine goesL_ (some 9) rfl rfl Try.func22 (by kernel_rfl) rfl #[.slice A0_0 l0_0.length c0_0, .slice A1_0 l1_0.length c1_0] rfl aM ?_; (with_reducible refine (slices_Equal_int_int.calls k _ _ l0_0 _ _ l1_0 true _ ?side1 ?side2 ?side3 ?side4 A3.out).mono ?_); (case side1 => repeat (first | exact (cB HR0_0.out HB.out) | (with_reducible refine cA ?_ _) | (with_reducible refine cN ?_ _) | (with_reducible refine cD ?_))); (case side2 => exact HC0_0.out); (case side3 => repeat (first | exact (cB HR1_0.out HB.out) | (with_reducible refine cA ?_ _) | (with_reducible refine cN ?_ _) | (with_reducible refine cD ?_))); (case side4 => exact HC1_0.out); rintro e w' ⟨rfl, ⟨nd, rfl⟩⟩; refine ⟨_, rfl, ?_⟩) | (go_at_call 54; (with_reducible refine (api_Edge_54.calls k _ _ l0_1 _ _ l1_1 t104 _ ?side1 ?side2 ?side3 ?side4 A5.out).mono ?_); (case side1 => repeat (first | exact (cB HR0_1.out (by repeat (first | (with_reducible first | exact HB.out | apply wA | apply wN | apply wD | refine below_set ?_ GE101.out | refine below_set ?_ GE102.out) | exact HB.out))) | (with_reducible refine cA ?_ _) | (with_reducible refine cN ?_ _) | (with_reducible refine cD ?_))); (case side2 => exact HC0_1.out); (case side3 => repeat (first | exact (cB HR1_1.out (by repeat (first | (with_reducible first | exact HB.out | apply wA | apply wN | apply wD | refine below_set ?_ GE101.out | refine below_set ?_ GE102.out) | exact HB.out))) | (with_reducible refine cA ?_ _) | (with_reducible refine cN ?_ _) | (with_reducible refine cD ?_))); (case side4 => exact HC1_1.out); rintro e w' ⟨rfl, ⟨nd, rfl⟩⟩))
  go_ret
  exact ⟨by first | rfl | (simp [errW_none, errW_some] <;> rfl) | (simp [*, errW_none, errW_some] <;> rfl), by repeat (first | (with_reducible first | exact HB.out | apply wA | apply wN | apply wD | refine below_set ?_ GE101.out | refine below_set ?_ GE102.out) | exact HB.out)⟩
 ·replace c4 := Bool.eq_false_iff.mpr c4
  subst c4
  have H1 : (some false) = some r := by rw [if_neg (show ¬ (false = true) by decide)] at H; exact H
  clear H
  have H := H1
  clear H1
  obtain rfl := Option.some.inj H
  go_enter Try.func28, Try.ntmps28
  go_wp2_with (first | ((with_reducible refine gate_dst (N := 2) rfl ?_); refine box_event ?hg (N := 2) ?hd (cs := #[.slice A0_0 l0_0.length c0_0, .slice A0_1 l0_1.length c0_1]) (t := 25) ?hr ?_; (case hd => rfl); (case hg => rfl); (case hr => first | (go_simp; done) | (go_simp; rfl)); intro gb101 hg w11 hbox hb; have n0_ := Aside0.mk (wS hB hb); have n1_ := Aside0.mk (hbox); have n2_ := Aside0.mk ((by rw [hg]; exact (below_size hB) : w.heap.size ≤ gb101)); have n3_ := Aside0.mk ((by rw [hg]; exact (below_size hB) : w.heap.size ≤ gb101)); clear HB; have HB := n0_; have BK101 := n1_; have GW101 := n2_; have GE101 := n3_; clear n0_ n1_ n2_ n3_; clear hb hbox hg) | ((with_reducible refine gate_dst (N := 3) rfl ?_); refine box_event ?hg (N := 3) ?hd (cs := #[.slice A1_0 l1_0.length c1_0, .slice A1_1 l1_1.length c1_1]) (t := 25) ?hr ?_; (case hd => rfl); (case hg => rfl); (case hr => first | (go_simp; done) | (go_simp; rfl)); intro gb102 hg w12 hbox hb; have n0_ := Aside0.mk (bB (g := gb101) (o := .cells #[.slice A0_0 l0_0.length c0_0, .slice A0_1 l0_1.length c0_1] 25 (0, 0)) (by (with_reducible repeat (first | refine bN ?_ _ | refine bD ?_ | refine bA ?_ _)); exact BK101.out) hb); have n1_ := Aside0.mk (wS (by repeat (first | (with_reducible first | exact HB.out | apply wA | apply wN | apply wD | refine below_set ?_ GE101.out) | exact HB.out)) hb); have n2_ := Aside0.mk (hbox); have n3_ := Aside0.mk ((by rw [hg]; exact (below_size (by repeat (first | (with_reducible first | exact HB.out | apply wA | apply wN | apply wD | refine below_set ?_ GE101.out) | exact HB.out))) : w.heap.size ≤ gb102)); have n4_ := Aside0.mk ((by rw [hg]; exact (below_size (by repeat (first | (with_reducible first | exact HB.out | apply wA | apply wN | apply wD | refine below_set ?_ GE101.out) | exact HB.out))) : w.heap.size ≤ gb102)); have n5_ := Aside0.mk ((by rw [hg]; exact Nat.ne_of_lt (blk_lt (g := gb101) (o := .cells #[.slice A0_0 l0_0.length c0_0, .slice A0_1 l0_1.length c0_1] 25 (0, 0)) (by (with_reducible repeat (first | refine bN ?_ _ | refine bD ?_ | refine bA ?_ _)); exact BK101.out)) : gb101 ≠ gb102)); have n6_ := Aside0.mk ((by rw [hg]; exact Nat.ne_of_gt (blk_lt (g := gb101) (o := .cells #[.slice A0_0 l0_0.length c0_0, .slice A0_1 l0_1.length c0_1] 25 (0, 0)) (by (with_reducible repeat (first | refine bN ?_ _ | refine bD ?_ | refine bA ?_ _)); exact BK101.out)) : gb102 ≠ gb101)); clear BK101; clear HB; have BK101 := n0_; have HB := n1_; have BK102 := n2_; have GW102 := n3_; have GE102 := n4_; have NB101_102 := n5_; have NB102_101 := n6_; clear n0_ n1_ n2_ n3_ n4_ n5_ n6_; clear hb hbox hg; have hnb13 := NB101_102.out; have hnc13 := NB102_101.out; have hcz14_0 : w12.cell? ⟨gb101, 0, none⟩ = some (.slice A0_0 l0_0.length c0_0) := (blk_cell BK101.out 0).trans rfl; have hcz14_1 : w12.cell? ⟨gb101, 1, none⟩ = some (.slice A0_1 l0_1.length c0_1) := (blk_cell BK101.out 1).trans rfl; have hfz14_0 := blk_frozen BK101.out 0; have hfz14_1 := blk_frozen BK101.out 1; have hcz15_0 : w12.cell? ⟨gb102, 0, none⟩ = some (.slice A1_0 l1_0.length c1_0) := (blk_cell BK102.out 0).trans rfl; have hcz15_1 : w12.cell? ⟨gb102, 1, none⟩ = some (.slice A1_1 l1_1.length c1_1) := (blk_cell BK102.out 1).trans rfl; have hfz15_0 := blk_frozen BK102.out 0; have hfz15_1 := blk_frozen BK102.out 1) | ((with_reducible refine gate_callee (f := 22) rfl ?_); refine goesL_ (some 9) rfl rfl Try.func22 (by kernel_rfl) rfl #[.slice A0_0 l0_0.length c0_0, .slice A1_0 l1_0.length c1_0] rfl aM ?_; (with_reducible refine (slices_Equal_int_int.calls k _ _ l0_0 _ _ l1_0 false _ ?side1 ?side2 ?side3 ?side4 A3.out).mono ?_); (case side1 => repeat (first | exact (cB HR0_0.out HB.out) | (with_reducible refine cA ?_ _) | (with_reducible refine cN ?_ _) | (with_reducible refine cD ?_))); (case side2 => exact HC0_0.out); (case side3 => repeat (first | exact (cB HR1_0.out HB.out) | (with_reducible refine cA ?_ _) | (with_reducible refine cN ?_ _) | (with_reducible refine cD ?_))); (case side4 => exact HC1_0.out); rintro e w' ⟨rfl, ⟨nd, rfl⟩⟩; refine ⟨_, rfl, ?_⟩))
  go_ret
  exact ⟨by first | rfl | (simp [errW_none, errW_some] <;> rfl) | (simp [*, errW_none, errW_some] <;> rfl), by repeat (first | (with_reducible first | exact HB.out | apply wA | apply wN | apply wD | refine below_set ?_ GE101.out | refine below_set ?_ GE102.out) | exact HB.out)⟩
end Go.Proofs.Ytmbnibonggbjgaa.X

/- Plain laws: the program's Same at the same graph, and at one of other lengths. -/
namespace Go.Proofs.Ytmbnibonggbjgaa.Pl
open Go.RowKit Go.Proofs.YtmbnibonggbjgaaW.PrintWords Go.Proofs.Ytmbnibonggbjgaa.X
set_option linter.unusedVariables false

theorem equal_l0 (l : List Int) (hl : l.length ≤ 9223372036854775807) : ∀ (r pre : List Int), l = pre ++ r → Ev (fun k => slices_Equal_int_int.l0 k l l (l.length : Int) (pre.length : Int)) true := by
  intro r
  induction r with
  | nil =>
    rintro pre rfl
    exact Ev.step (fun k => by simp only [slices_Equal_int_int.l0]; rw [if_neg (by simp)]) (Ev.now _)
  | cons x r ih =>
    rintro pre rfl
    refine Ev.step (fun k => by simp only [slices_Equal_int_int.l0]; rw [if_pos (lt_mid pre x r), if_pos (by omega), if_pos (lt_mid pre x r), if_pos (lt_mid pre x r), if_pos trivial, wrap_mid pre x r hl]) (ih (pre ++ [x]) (snoc_mid pre x r))
theorem equal_self (l : List Int) (hl : l.length ≤ 1000000) : Ev (fun k => slices_Equal_int_int.f k l l) true := by
  unfold slices_Equal_int_int.f
  simp only [if_true]
  exact equal_l0 l (by omega) l [] rfl
theorem equal_ne (l m : List Int) (h : l.length ≠ m.length) : Ev (fun k => slices_Equal_int_int.f k l m) false := by
  unfold slices_Equal_int_int.f
  simp only [if_neg (show ¬ (l.length : Int) = (m.length : Int) by omega)]
  exact Ev.now _
theorem edges_l0 (l : List S38) (hl : l.length ≤ 9223372036854775807) : ∀ (r pre : List S38), l = pre ++ r → Ev (fun k => api_Edge_54.l0 k l l (l.length : Int) (pre.length : Int)) true := by
  intro r
  induction r with
  | nil =>
    rintro pre rfl
    exact Ev.step (fun k => by simp only [api_Edge_54.l0]; rw [if_neg (by simp)]) (Ev.now _)
  | cons x r ih =>
    rintro pre rfl
    refine Ev.step (fun k => by simp only [api_Edge_54.l0]; rw [if_pos (lt_mid pre x r), if_pos (by omega), if_pos (lt_mid pre x r), if_pos (lt_mid pre x r), if_neg (by simp), wrap_mid pre x r hl]) (ih (pre ++ [x]) (snoc_mid pre x r))
theorem edges_self (l : List S38) (hl : l.length ≤ 1000000) : Ev (fun k => api_Edge_54.f k l l) true := by
  unfold api_Edge_54.f
  simp only [if_true]
  exact edges_l0 l (by omega) l [] rfl
theorem edges_ne (l m : List S38) (h : l.length ≠ m.length) : Ev (fun k => api_Edge_54.f k l m) false := by
  unfold api_Edge_54.f
  simp only [if_neg (show ¬ (l.length : Int) = (m.length : Int) by omega)]
  exact Ev.now _
theorem gsame_self (l0 : List Int) (l1 : List S38) (h0 : l0.length ≤ 1000000) (h1 : l1.length ≤ 1000000) : Ev (fun k => graph_Same.f k l0 l1 l0 l1) true := by
  unfold graph_Same.f
  refine Ev.bind (equal_self l0 h0) ?_
  simp only [if_true]
  exact Ev.bind (edges_self l1 h1) (Ev.now _)
theorem gsame_nodes (l0 m0 : List Int) (l1 m1 : List S38) (h : l0.length ≠ m0.length) : Ev (fun k => graph_Same.f k l0 l1 m0 m1) false := by
  unfold graph_Same.f
  refine Ev.bind (equal_ne l0 m0 h) ?_
  simpa using Ev.now false
theorem gsame_edges (l0 : List Int) (l1 m1 : List S38) (h0 : l0.length ≤ 1000000) (h : l1.length ≠ m1.length) : Ev (fun k => graph_Same.f k l0 l1 l0 m1) false := by
  unfold graph_Same.f
  refine Ev.bind (equal_self l0 h0) ?_
  simp only [if_true]
  exact Ev.bind (edges_ne l1 m1 h) (Ev.now _)
end Go.Proofs.Ytmbnibonggbjgaa.Pl

/- A plain law on labels: putting the smaller label on both ends of each edge, round by round, comes to an end after as many rounds as there are nodes. -/
namespace Go.Proofs.Ytmbnibonggbjgaa.Pl
open Go.RowKit Go.Proofs.YtmbnibonggbjgaaW.PrintWords Go.Proofs.YtmbnibonggbjgaaW.PrintMore Go.Proofs.Ytmbnibonggbjgaa.X
set_option linter.unusedVariables false

def gt (L : List Int) (i : Nat) : Int := L.getD i 0
def estep (L : List Int) (e : S38) : List Int := (L.set e.f1.toNat (mn (rd L e.f1) (rd L e.f2))).set e.f2.toNat (mn (rd L e.f1) (rd L e.f2))
def pass (E : List S38) (L : List Int) : List Int := E.foldl estep L
def it (E : List S38) : Nat → List Int → List Int
  | 0, L => L
  | r + 1, L => it E r (pass E L)
def inN (n : Nat) (e : S38) : Prop := e.f1.toNat < n ∧ e.f2.toNat < n

theorem mn_l (x y : Int) : mn x y ≤ x := by unfold mn; split <;> omega
theorem mn_r (x y : Int) : mn x y ≤ y := by unfold mn; split <;> omega
theorem mn_ge {x y z : Int} (h : z ≤ x) (k : z ≤ y) : z ≤ mn x y := by unfold mn; split <;> omega
theorem gt_set (L : List Int) (j i : Nat) (v : Int) (h : j < L.length) : gt (L.set j v) i = if i = j then v else gt L i := by
  unfold gt
  rw [List.getD_eq_getElem?_getD, List.getD_eq_getElem?_getD, List.getElem?_set]
  by_cases e : i = j
  · subst e; simp [h]
  · have e' : ¬ j = i := fun h => e h.symm
    simp [e, e']
theorem len_estep (L : List Int) (e : S38) : (estep L e).length = L.length := by simp [estep]
theorem len_fold (E : List S38) : ∀ L : List Int, (E.foldl estep L).length = L.length := by
  induction E with
  | nil => intro L; rfl
  | cons e E ih => intro L; rw [List.foldl_cons, ih, len_estep]
theorem gt_estep {n : Nat} {L : List Int} (hL : L.length = n) {e : S38} (he : inN n e) (i : Nat) : gt (estep L e) i = if i = e.f1.toNat ∨ i = e.f2.toNat then mn (gt L e.f1.toNat) (gt L e.f2.toNat) else gt L i := by
  unfold estep
  rw [gt_set _ _ _ _ (by simp [hL]; exact he.2), gt_set _ _ _ _ (by rw [hL]; exact he.1)]
  by_cases h2 : i = e.f2.toNat
  · rw [if_pos h2, if_pos (Or.inr h2)]; rfl
  · rw [if_neg h2]
    by_cases h1 : i = e.f1.toNat
    · rw [if_pos h1, if_pos (Or.inl h1)]; rfl
    · rw [if_neg h1, if_neg (by rintro (h | h); exact h1 h; exact h2 h)]
theorem estep_le {n : Nat} {L : List Int} (hL : L.length = n) {e : S38} (he : inN n e) (i : Nat) : gt (estep L e) i ≤ gt L i := by
  rw [gt_estep hL he]
  split
  · rename_i h
    rcases h with h | h
    · rw [h]; exact mn_l _ _
    · rw [h]; exact mn_r _ _
  · exact Int.le_refl _
theorem fold_le {n : Nat} : ∀ (E : List S38) (L : List Int), L.length = n → (∀ e ∈ E, inN n e) → ∀ i, gt (E.foldl estep L) i ≤ gt L i := by
  intro E
  induction E with
  | nil => intro L _ _ i; exact Int.le_refl _
  | cons e E ih =>
    intro L hL hE i
    rw [List.foldl_cons]
    have h1 := ih (estep L e) (by rw [len_estep]; exact hL) (fun x hx => hE x (List.mem_cons_of_mem _ hx)) i
    have h2 := estep_le hL (hE e List.mem_cons_self) i
    omega
theorem len_it (E : List S38) : ∀ (r : Nat) (L : List Int), (it E r L).length = L.length := by
  intro r
  induction r with
  | zero => intro L; rfl
  | succ r ih => intro L; show (it E r (pass E L)).length = _; rw [ih]; exact len_fold E L
theorem it_succ (E : List S38) : ∀ (r : Nat) (L : List Int), it E (r + 1) L = pass E (it E r L) := by
  intro r
  induction r with
  | zero => intro L; rfl
  | succ r ih => intro L; show it E (r + 1) (pass E L) = _; rw [ih (pass E L)]; rfl
theorem it_add (E : List S38) : ∀ (r s : Nat) (L : List Int), it E (r + s) L = it E s (it E r L) := by
  intro r
  induction r with
  | zero => intro s L; rw [Nat.zero_add]; rfl
  | succ r ih => intro s L; rw [Nat.add_right_comm]; exact ih s (pass E L)
theorem it_fix (E : List S38) (L : List Int) (h : pass E L = L) : ∀ r, it E r L = L := by
  intro r
  induction r with
  | zero => rfl
  | succ r ih => show it E r (pass E L) = L; rw [h]; exact ih
theorem ext_gt {n : Nat} {L M : List Int} (hL : L.length = n) (hM : M.length = n) (h : ∀ i, i < n → gt L i = gt M i) : L = M := by
  apply List.ext_getElem (by omega)
  intro i h1 h2
  have := h i (by omega)
  unfold gt at this
  rw [List.getD_eq_getElem?_getD, List.getD_eq_getElem?_getD, List.getElem?_eq_getElem h1, List.getElem?_eq_getElem h2] at this
  simpa using this
theorem it_le {n : Nat} (E : List S38) (hE : ∀ e ∈ E, inN n e) : ∀ (r : Nat) (L : List Int), L.length = n → ∀ i, gt (it E r L) i ≤ gt L i := by
  intro r
  induction r with
  | zero => intro L _ i; exact Int.le_refl _
  | succ r ih =>
    intro L hL i
    have h1 := ih (pass E L) (by rw [pass, len_fold]; exact hL) i
    have h2 := fold_le E L hL hE i
    exact Int.le_trans h1 h2

/-- At a fixed point both ends of each edge have one label. -/
theorem fix_edge {n : Nat} : ∀ (E : List S38) (L : List Int), L.length = n → (∀ e ∈ E, inN n e) → E.foldl estep L = L → ∀ e ∈ E, gt L e.f1.toNat = gt L e.f2.toNat := by
  intro E
  induction E with
  | nil => intro L _ _ _ e he; exact absurd he (by simp)
  | cons e E ih =>
    intro L hL hE hf x hx
    rw [List.foldl_cons] at hf
    have he := hE e List.mem_cons_self
    have hE' : ∀ x ∈ E, inN n x := fun x hx => hE x (List.mem_cons_of_mem _ hx)
    have h0 : estep L e = L := by
      refine ext_gt (n := n) (by rw [len_estep]; exact hL) hL fun i _ => ?_
      have h1 := fold_le E (estep L e) (by rw [len_estep]; exact hL) hE' i
      rw [hf] at h1
      have h2 := estep_le hL he i
      omega
    rw [h0] at hf
    rcases List.mem_cons.mp hx with rfl | hx
    · have ha := gt_estep hL he x.f1.toNat
      have hb := gt_estep hL he x.f2.toNat
      rw [if_pos (Or.inl rfl), h0] at ha
      rw [if_pos (Or.inr rfl), h0] at hb
      rw [ha, ← hb]
    · exact ih L hL hE' hf x hx

/-- Labels of a part closed under the edges don't fall below a bound that holds there. -/
theorem fold_low {n : Nat} (U : Nat → Prop) (m0 : Int) : ∀ (E : List S38) (L : List Int), L.length = n → (∀ e ∈ E, inN n e) → (∀ e ∈ E, (U e.f1.toNat ↔ U e.f2.toNat)) → (∀ i, U i → m0 ≤ gt L i) → ∀ i, U i → m0 ≤ gt (E.foldl estep L) i := by
  intro E
  induction E with
  | nil => intro L _ _ _ h; exact h
  | cons e E ih =>
    intro L hL hE hU h
    rw [List.foldl_cons]
    refine ih (estep L e) (by rw [len_estep]; exact hL) (fun x hx => hE x (List.mem_cons_of_mem _ hx)) (fun x hx => hU x (List.mem_cons_of_mem _ hx)) fun i hi => ?_
    rw [gt_estep hL (hE e List.mem_cons_self)]
    have hu := hU e List.mem_cons_self
    split
    · rename_i hh
      have hb : U e.f1.toNat ∧ U e.f2.toNat := by
        rcases hh with hh | hh
        · rw [hh] at hi; exact ⟨hi, hu.mp hi⟩
        · rw [hh] at hi; exact ⟨hu.mpr hi, hi⟩
      exact mn_ge (h _ hb.1) (h _ hb.2)
    · exact h i hi
theorem it_low {n : Nat} (U : Nat → Prop) (m0 : Int) (E : List S38) (hE : ∀ e ∈ E, inN n e) (hU : ∀ e ∈ E, (U e.f1.toNat ↔ U e.f2.toNat)) : ∀ (r : Nat) (L : List Int), L.length = n → (∀ i, U i → m0 ≤ gt L i) → ∀ i, U i → m0 ≤ gt (it E r L) i := by
  intro r
  induction r with
  | zero => intro L _ h; exact h
  | succ r ih => intro L hL h; exact ih (pass E L) (by rw [pass, len_fold]; exact hL) (fold_low U m0 E L hL hE hU h)

/-- In a pass, an end whose other end has its last label comes to its last label. -/
theorem fold_hit {n : Nat} (S : List Int) : ∀ (E : List S38) (L : List Int), L.length = n → (∀ e ∈ E, inN n e) → (∀ i, gt S i ≤ gt (E.foldl estep L) i) → (∀ e ∈ E, gt S e.f1.toNat = gt S e.f2.toNat) →
    ∀ e ∈ E, ∀ a b : Nat, (a = e.f1.toNat ∧ b = e.f2.toNat ∨ a = e.f2.toNat ∧ b = e.f1.toNat) → gt L a = gt S a → gt (E.foldl estep L) b = gt S b := by
  intro E
  induction E with
  | nil => intro L _ _ _ _ e he; exact absurd he (by simp)
  | cons x E ih =>
    intro L hL hE hS hf e he a b hab ha
    have hx := hE x List.mem_cons_self
    have hE' : ∀ y ∈ E, inN n y := fun y hy => hE y (List.mem_cons_of_mem _ hy)
    have hL' : (estep L x).length = n := by rw [len_estep]; exact hL
    rw [List.foldl_cons] at hS ⊢
    have hmid : ∀ i, gt S i ≤ gt (estep L x) i := fun i => Int.le_trans (hS i) (fold_le E _ hL' hE' i)
    rcases List.mem_cons.mp he with rfl | he
    · have h1 := fold_le E (estep L e) hL' hE' b
      have h2 := gt_estep hL hx b
      have hb : b = e.f1.toNat ∨ b = e.f2.toNat := by rcases hab with ⟨_, h⟩ | ⟨_, h⟩; exact .inr h; exact .inl h
      rw [if_pos hb] at h2
      have h3 : gt S a = gt S b := by
        have := hf e List.mem_cons_self
        rcases hab with ⟨p, q⟩ | ⟨p, q⟩
        · rw [p, q]; exact this
        · rw [p, q]; exact this.symm
      have h4 : mn (gt L e.f1.toNat) (gt L e.f2.toNat) ≤ gt L a := by
        rcases hab with ⟨p, _⟩ | ⟨p, _⟩
        · rw [p]; exact mn_l _ _
        · rw [p]; exact mn_r _ _
      have h5 := hS b
      omega
    · refine ih (estep L x) hL' hE' hS (fun y hy => hf y (List.mem_cons_of_mem _ hy)) e he a b hab ?_
      have h1 := estep_le hL hx a
      have h2 := hmid a
      omega

theorem countP_lt {p q : Nat → Bool} : ∀ (l : List Nat), (∀ i ∈ l, p i = true → q i = true) → (∃ j ∈ l, q j = true ∧ p j = false) → l.countP p + 1 ≤ l.countP q := by
  intro l
  induction l with
  | nil => rintro _ ⟨j, hj, _⟩; exact absurd hj (by simp)
  | cons x l ih =>
    intro h hj
    rw [List.countP_cons, List.countP_cons]
    have hl : l.countP p ≤ l.countP q := List.countP_mono_left (fun i hi => h i (List.mem_cons_of_mem _ hi))
    obtain ⟨j, hj, hq, hp⟩ := hj
    rcases List.mem_cons.mp hj with rfl | hj
    · rw [hq, hp]; simp; omega
    · have := ih (fun i hi => h i (List.mem_cons_of_mem _ hi)) ⟨j, hj, hq, hp⟩
      have hx := h x List.mem_cons_self
      cases hpx : p x
      · cases hqx : q x <;> simp <;> omega
      · rw [hx hpx]; simp; omega

theorem least_of (L : List Int) (U : Nat → Prop) : ∀ (n : Nat), (∃ w, w < n ∧ U w) → ∃ w, w < n ∧ U w ∧ ∀ i, i < n → U i → gt L w ≤ gt L i := by
  intro n
  induction n with
  | zero => rintro ⟨w, hw, _⟩; omega
  | succ n ih =>
    rintro ⟨w, hw, hU⟩
    by_cases h : ∃ w, w < n ∧ U w
    · obtain ⟨v, hv, hUv, hl⟩ := ih h
      by_cases hn : U n ∧ gt L n < gt L v
      · refine ⟨n, by omega, hn.1, fun i hi hUi => ?_⟩
        by_cases e : i = n
        · rw [e]; exact Int.le_refl _
        · have := hl i (by omega) hUi; omega
      · refine ⟨v, by omega, hUv, fun i hi hUi => ?_⟩
        by_cases e : i = n
        · rw [e] at hUi ⊢
          by_cases h2 : gt L n < gt L v
          · exact absurd ⟨hUi, h2⟩ hn
          · omega
        · exact hl i (by omega) hUi
    · have e : w = n := by
        by_cases e : w = n
        · exact e
        · exact absurd ⟨w, by omega, hU⟩ h
      subst e
      refine ⟨w, by omega, hU, fun i hi hUi => ?_⟩
      by_cases e : i = w
      · rw [e]; exact Int.le_refl _
      · exact absurd ⟨i, by omega, hUi⟩ h

/-- Where the labels come to a fixed point at all, they have come to it after as many rounds as there are nodes. -/
theorem rounds_enough {n : Nat} (E : List S38) (hE : ∀ e ∈ E, inN n e) (L : List Int) (hL : L.length = n) (m : Nat) (hm : pass E (it E m L) = it E m L) : it E n L = it E m L := by
  have hlen : ∀ r, (it E r L).length = n := fun r => (len_it E r L).trans hL
  have hlow : ∀ r i, gt (it E m L) i ≤ gt (it E r L) i := by
    intro r i
    by_cases h : r ≤ m
    · have := it_le E hE (m - r) (it E r L) (hlen r) i
      rw [← it_add, Nat.add_sub_cancel' h] at this
      exact this
    · have : it E r L = it E m L := by
        rw [show r = m + (r - m) by omega, it_add]
        exact it_fix E _ hm _
      rw [this]; exact Int.le_refl _
  have hfix := fix_edge E (it E m L) (hlen m) hE hm
  have key : ∀ r, it E r L = it E m L ∨ r ≤ (List.range n).countP (fun i => decide (gt (it E r L) i = gt (it E m L) i)) := by
    intro r
    induction r with
    | zero => exact .inr (Nat.zero_le _)
    | succ r ih =>
      by_cases hr : it E r L = it E m L
      · left; rw [it_succ, hr]; exact hm
      · right
        have hc : r ≤ (List.range n).countP (fun i => decide (gt (it E r L) i = gt (it E m L) i)) := by
          rcases ih with h | h
          · exact absurd h hr
          · exact h
        -- nodes that are not yet at their last label
        have hex : ∃ w, w < n ∧ ¬ gt (it E r L) w = gt (it E m L) w := by
          by_cases h : ∃ w, w < n ∧ ¬ gt (it E r L) w = gt (it E m L) w
          · exact h
          · exfalso; apply hr
            refine ext_gt (hlen r) (hlen m) fun i hi => ?_
            by_cases e : gt (it E r L) i = gt (it E m L) i
            · exact e
            · exact absurd ⟨i, hi, e⟩ h
        have hedge : ∃ e ∈ E, ¬ ((¬ gt (it E r L) e.f1.toNat = gt (it E m L) e.f1.toNat) ↔ (¬ gt (it E r L) e.f2.toNat = gt (it E m L) e.f2.toNat)) := by
          by_cases h : ∃ e ∈ E, ¬ ((¬ gt (it E r L) e.f1.toNat = gt (it E m L) e.f1.toNat) ↔ (¬ gt (it E r L) e.f2.toNat = gt (it E m L) e.f2.toNat))
          · exact h
          · exfalso
            have hU : ∀ e ∈ E, ((¬ gt (it E r L) e.f1.toNat = gt (it E m L) e.f1.toNat ∧ e.f1.toNat < n) ↔ (¬ gt (it E r L) e.f2.toNat = gt (it E m L) e.f2.toNat ∧ e.f2.toNat < n)) := by
              intro e he
              have h1 := hE e he
              have h2 : (¬ gt (it E r L) e.f1.toNat = gt (it E m L) e.f1.toNat) ↔ (¬ gt (it E r L) e.f2.toNat = gt (it E m L) e.f2.toNat) := by
                by_cases hh : ((¬ gt (it E r L) e.f1.toNat = gt (it E m L) e.f1.toNat) ↔ (¬ gt (it E r L) e.f2.toNat = gt (it E m L) e.f2.toNat))
                · exact hh
                · exact absurd ⟨e, he, hh⟩ h
              exact ⟨fun k => ⟨h2.mp k.1, h1.2⟩, fun k => ⟨h2.mpr k.1, h1.1⟩⟩
            obtain ⟨w, hw, hwU, hwl⟩ := least_of (it E r L) (fun i => ¬ gt (it E r L) i = gt (it E m L) i) n hex
            have h3 := it_low (n := n) (fun i => ¬ gt (it E r L) i = gt (it E m L) i ∧ i < n) (gt (it E r L) w) E hE hU m (it E r L) (hlen r) (fun i hi => hwl i hi.2 hi.1) w ⟨hwU, hw⟩
            rw [← it_add, Nat.add_comm, it_add, it_fix E _ hm r] at h3
            have h4 := hlow r w
            exact hwU (by omega)
        obtain ⟨e, he, hne⟩ := hedge
        have hsucc : it E (r + 1) L = E.foldl estep (it E r L) := it_succ E r L
        have hhit := fold_hit (it E m L) E (it E r L) (hlen r) hE (fun i => by rw [← hsucc]; exact hlow (r + 1) i) hfix e he
        have hin := hE e he
        have hstep := countP_lt (p := fun i => decide (gt (it E r L) i = gt (it E m L) i)) (q := fun i => decide (gt (it E (r + 1) L) i = gt (it E m L) i)) (List.range n)
          (fun i _ hi => by
            have hi := of_decide_eq_true hi
            apply decide_eq_true
            have h1 := hlow (r + 1) i
            have h2 := fold_le E (it E r L) (hlen r) hE i
            rw [← hsucc] at h2
            omega)
          (by
            by_cases ha : gt (it E r L) e.f1.toNat = gt (it E m L) e.f1.toNat
            · have hb : ¬ gt (it E r L) e.f2.toNat = gt (it E m L) e.f2.toNat := by
                intro hb; exact hne ⟨fun k => absurd ha k, fun k => absurd hb k⟩
              refine ⟨e.f2.toNat, List.mem_range.mpr hin.2, decide_eq_true ?_, decide_eq_false hb⟩
              rw [hsucc]; exact hhit _ _ (.inl ⟨rfl, rfl⟩) ha
            · have hb : gt (it E r L) e.f2.toNat = gt (it E m L) e.f2.toNat := by
                by_cases hb : gt (it E r L) e.f2.toNat = gt (it E m L) e.f2.toNat
                · exact hb
                · exact absurd ⟨fun _ => hb, fun _ => ha⟩ hne
              refine ⟨e.f1.toNat, List.mem_range.mpr hin.1, decide_eq_true ?_, decide_eq_false ha⟩
              rw [hsucc]; exact hhit _ _ (.inr ⟨rfl, rfl⟩) hb)
        omega
  rcases key n with h | h
  · exact h
  · refine ext_gt (hlen n) (hlen m) fun i hi => ?_
    have h1 : (List.range n).countP (fun i => decide (gt (it E n L) i = gt (it E m L) i)) = (List.range n).length := by
      have := List.countP_le_length (p := fun i => decide (gt (it E n L) i = gt (it E m L) i)) (l := List.range n)
      rw [List.length_range] at this ⊢
      omega
    have h2 := List.countP_eq_length.mp h1 i (List.mem_range.mpr hi)
    exact of_decide_eq_true h2
end Go.Proofs.Ytmbnibonggbjgaa.Pl

/- Plain laws: the edges of a node, as the program and the reference tell them. -/
namespace Go.Proofs.Ytmbnibonggbjgaa.Pl
open Go.RowKit Go.Proofs.YtmbnibonggbjgaaW.PrintWords Go.Proofs.Ytmbnibonggbjgaa.X
set_option linter.unusedVariables false

def idxs (p : S38 → Bool) : Int → List S38 → List Int
  | _, [] => []
  | i, x :: r => if p x = true then i :: idxs p (i + 1) r else idxs p (i + 1) r
theorem idxs_len (p : S38 → Bool) : ∀ (r : List S38) (i : Int), (idxs p i r).length ≤ r.length := by
  intro r
  induction r with
  | nil => intro i; simp [idxs]
  | cons x r ih => intro i; have := ih (i + 1); unfold idxs; split <;> simp <;> omega
theorem pre_snoc (pre : List S38) (x : S38) : ((pre ++ [x]).length : Int) = (pre.length : Int) + 1 := by simp

theorem gincident_l0 (l : List S38) (a : Int) (hl : l.length ≤ 1000000) : ∀ (r pre : List S38) (c1 c2 : List Int), l = pre ++ r → c1.length ≤ pre.length → c2.length ≤ pre.length →
    Ev (fun k => graph_Incident.l0 k a c1 c2 l (l.length : Int) (pre.length : Int)) (c1 ++ idxs (fun e => decide (e.f2 = a)) pre.length r, c2 ++ idxs (fun e => decide (e.f1 = a)) pre.length r, 0) := by
  intro r
  induction r with
  | nil =>
    rintro pre c1 c2 rfl h1 h2
    refine Ev.step (fun k => by simp only [graph_Incident.l0]; rw [if_neg (by simp)]) ?_
    simpa [idxs] using Ev.now _
  | cons x r ih =>
    rintro pre c1 c2 rfl h1 h2
    have hp : pre.length ≤ 1000000 := by simp at hl; omega
    have tail : ∀ d1 : List Int, d1.length ≤ pre.length + 1 → Ev (fun k => graph_Incident.j1 k a d1 c2 (pre.length : Int) (pre ++ x :: r) ((pre ++ x :: r).length : Int) (pre.length : Int) x.f0 x.f1 x.f2)
        (d1 ++ idxs (fun e => decide (e.f2 = a)) ((pre.length : Int) + 1) r, c2 ++ idxs (fun e => decide (e.f1 = a)) (pre.length : Int) (x :: r), 0) := by
      intro d1 hd
      by_cases hx : x.f1 = a
      · refine Ev.step (fun k => by simp only [graph_Incident.j1]; rw [if_pos hx, if_pos (by omega), wrap_mid pre x r (by omega)]) ?_
        have := ih (pre ++ [x]) d1 (c2 ++ [(pre.length : Int)]) (snoc_mid pre x r) (by simp; omega) (by simp; omega)
        simpa [idxs, hx] using this
      · refine Ev.step (fun k => by simp only [graph_Incident.j1]; rw [if_neg hx, wrap_mid pre x r (by omega)]) ?_
        have := ih (pre ++ [x]) d1 c2 (snoc_mid pre x r) (by simp; omega) (by simp; omega)
        simpa [idxs, hx] using this
    by_cases hx : x.f2 = a
    · refine Ev.step (fun k => by simp only [graph_Incident.l0]; rw [if_pos (lt_mid pre x r), if_pos (by omega), if_pos (lt_mid pre x r), rd38_mid, if_pos hx, if_pos (by omega)]) ?_
      have := tail (c1 ++ [(pre.length : Int)]) (by simp; omega)
      simpa [idxs, hx] using this
    · refine Ev.step (fun k => by simp only [graph_Incident.l0]; rw [if_pos (lt_mid pre x r), if_pos (by omega), if_pos (lt_mid pre x r), rd38_mid, if_neg hx]) ?_
      have := tail c1 (by omega)
      simpa [idxs, hx] using this

theorem rincident_l0 (l0 : List Int) (l : List S38) (a : Int) (hl : l.length ≤ 1000000) : ∀ (r pre : List S38) (c1 c2 : List Int), l = pre ++ r → c1.length ≤ pre.length → c2.length ≤ pre.length →
    Ev (fun k => scarfjointref05_Incident.l0 k a c1 c2 (pre.length : Int) l0 l) (c1 ++ idxs (fun e => decide (e.f2 = a)) pre.length r, c2 ++ idxs (fun e => decide (e.f1 = a)) pre.length r, 0) := by
  intro r
  induction r with
  | nil =>
    rintro pre c1 c2 rfl h1 h2
    refine Ev.step (fun k => by simp only [scarfjointref05_Incident.l0]; rw [if_neg (by simp)]) ?_
    simpa [idxs] using Ev.now _
  | cons x r ih =>
    rintro pre c1 c2 rfl h1 h2
    have hp : pre.length ≤ 1000000 := by simp at hl; omega
    have tail : ∀ d1 : List Int, d1.length ≤ pre.length + 1 → Ev (fun k => scarfjointref05_Incident.j2 k a d1 c2 (pre.length : Int) l0 (pre ++ x :: r))
        (d1 ++ idxs (fun e => decide (e.f2 = a)) ((pre.length : Int) + 1) r, c2 ++ idxs (fun e => decide (e.f1 = a)) (pre.length : Int) (x :: r), 0) := by
      intro d1 hd
      by_cases hx : x.f1 = a
      · refine Ev.step (fun k => by simp only [scarfjointref05_Incident.j2]; rw [if_pos (by omega), if_pos (lt_mid pre x r), rd38_mid, if_pos hx, if_pos (by omega), wrap_mid pre x r (by omega)]) ?_
        have := ih (pre ++ [x]) d1 (c2 ++ [(pre.length : Int)]) (snoc_mid pre x r) (by simp; omega) (by simp; omega)
        simpa [idxs, hx] using this
      · refine Ev.step (fun k => by simp only [scarfjointref05_Incident.j2]; rw [if_pos (by omega), if_pos (lt_mid pre x r), rd38_mid, if_neg hx, wrap_mid pre x r (by omega)]) ?_
        have := ih (pre ++ [x]) d1 c2 (snoc_mid pre x r) (by simp; omega) (by simp; omega)
        simpa [idxs, hx] using this
    by_cases hx : x.f2 = a
    · refine Ev.step (fun k => by simp only [scarfjointref05_Incident.l0]; rw [if_pos (lt_mid pre x r), if_pos (by omega), rd38_mid, if_pos hx, if_pos (by omega)]) ?_
      have := tail (c1 ++ [(pre.length : Int)]) (by simp; omega)
      simpa [idxs, hx] using this
    · refine Ev.step (fun k => by simp only [scarfjointref05_Incident.l0]; rw [if_pos (lt_mid pre x r), if_pos (by omega), rd38_mid, if_neg hx]) ?_
      have := tail c1 (by omega)
      simpa [idxs, hx] using this

def incident (l0 : List Int) (l1 : List S38) (a : Int) : List Int × List Int × Int :=
  if validE l0 l1 = 0 then (if 0 ≤ a ∧ a < l0.length then (idxs (fun e => decide (e.f2 = a)) 0 l1, idxs (fun e => decide (e.f1 = a)) 0 l1, 0) else ([], [], 6)) else ([], [], validE l0 l1)
theorem incident_len (l0 : List Int) (l1 : List S38) (a : Int) : (incident l0 l1 a).1.length ≤ l1.length ∧ (incident l0 l1 a).2.1.length ≤ l1.length := by
  unfold incident
  split
  · split
    · exact ⟨idxs_len _ _ _, idxs_len _ _ _⟩
    · simp
  · simp

theorem gincident_ev (l0 : List Int) (l1 : List S38) (a : Int) (h0 : l0.length ≤ 1000000) (h1 : l1.length ≤ 1000000) : Ev (fun k => graph_Incident.f k l0 l1 a) (incident l0 l1 a) := by
  unfold graph_Incident.f graph_Valid.f incident
  simp only [Option.bind_some]
  by_cases hv : validE l0 l1 = 0
  · simp only [if_pos hv, within_lt a (l0.length : Int) (by omega) (by omega), Option.bind_some]
    by_cases ha : 0 ≤ a ∧ a < (l0.length : Int)
    · simp only [if_pos ha, decide_eq_true ha.1, decide_eq_true ha.2, Bool.and_self, if_true]
      have := gincident_l0 l1 a h1 l1 [] [] [] rfl (by simp) (by simp)
      simpa using this
    · have hb : (decide (0 ≤ a) && decide (a < (l0.length : Int))) = false := by
        rw [Bool.and_eq_false_iff]
        by_cases h : 0 ≤ a
        · exact .inr (decide_eq_false (fun k => ha ⟨h, k⟩))
        · exact .inl (decide_eq_false h)
      simp only [if_neg ha, hb, Bool.false_eq_true, if_false]
      exact Ev.now _
  · simp only [if_neg hv]
    exact Ev.now _
theorem rincident_ev (l0 : List Int) (l1 : List S38) (a : Int) (h1 : l1.length ≤ 1000000) : Ev (fun k => scarfjointref05_Incident.f k l0 l1 a) (incident l0 l1 a) := by
  unfold scarfjointref05_Incident.f incident
  refine Ev.bind (valid_ev l0 l1) ?_
  by_cases hv : validE l0 l1 = 0
  · simp only [if_pos hv]
    by_cases h : a < 0
    · simp only [if_pos h, if_neg (show ¬ (0 ≤ a ∧ a < (l0.length : Int)) by omega)]
      exact Ev.step (fun k => by simp only [scarfjointref05_Incident.j0, if_true]) (Ev.now _)
    · simp only [if_neg h]
      by_cases h2 : a ≥ (l0.length : Int)
      · simp only [if_neg (show ¬ (0 ≤ a ∧ a < (l0.length : Int)) by omega), decide_eq_true h2]
        exact Ev.step (fun k => by simp only [scarfjointref05_Incident.j0, if_true]) (Ev.now _)
      · simp only [if_pos (show (0 ≤ a ∧ a < (l0.length : Int)) by omega), decide_eq_false h2]
        refine Ev.step (fun k => by simp only [scarfjointref05_Incident.j0]; rw [if_neg (by decide)]) ?_
        have := rincident_l0 l0 l1 a h1 l1 [] [] [] rfl (by simp) (by simp)
        simpa using this
  · simp only [if_neg hv]
    exact Ev.now _
end Go.Proofs.Ytmbnibonggbjgaa.Pl

/- Plain laws: the components, as the program and the reference tell them, are one list. -/
namespace Go.Proofs.Ytmbnibonggbjgaa.Pl
open Go.RowKit Go.Proofs.YtmbnibonggbjgaaW.PrintWords Go.Proofs.YtmbnibonggbjgaaW.PrintMore Go.Proofs.Ytmbnibonggbjgaa.X
set_option linter.unusedVariables false

def okE (n : Nat) (e : S38) : Prop := (0 ≤ e.f1 ∧ e.f1 < (n : Int)) ∧ (0 ≤ e.f2 ∧ e.f2 < (n : Int))
theorem okE_in {n : Nat} {e : S38} (h : okE n e) : inN n e := by unfold okE at h; unfold inN; omega
theorem okE_of {l0 : List Int} {l1 : List S38} (h : validE l0 l1 = 0) : l0.length ≤ 40 ∧ l1.length ≤ 80 ∧ ∀ e ∈ l1, okE l0.length e := by
  unfold validE at h
  split at h
  · exact absurd h (by decide)
  · split at h
    · exact absurd h (by decide)
    · split at h
      · exact absurd h (by decide)
      · split at h
        · exact absurd h (by decide)
        · rename_i h1 h2 _ h4
          refine ⟨by omega, by omega, fun e he => ?_⟩
          have hb : edgeB l0.length e = true := by
            cases hb : edgeB l0.length e
            · exact absurd (List.any_eq_true.mpr ⟨e, he, by rw [hb]; rfl⟩) h4
            · rfl
          unfold edgeB at hb
          simp only [Bool.and_eq_true, decide_eq_true_eq] at hb
          exact hb.2

def numsFrom (a : Int) (n : Nat) : List Int := (List.range n).map (fun (i : Nat) => a + (i : Int))
theorem numsFrom_succ (a : Int) (n : Nat) : numsFrom a (n + 1) = numsFrom a n ++ [a + (n : Int)] := by simp [numsFrom, List.range_succ]
theorem numsFrom_len (a : Int) (n : Nat) : (numsFrom a n).length = n := by simp [numsFrom]
theorem gnumbers_l0 (a : Int) (n : Nat) (ha : 0 ≤ a) (hb : a ≤ 1000000) (hn : n ≤ 1000000) : ∀ (d i : Nat), i + d = n → Ev (fun k => graph_numbers.l0 k a (numsFrom a i) (n : Int) (i : Int)) (numsFrom a n) := by
  intro d
  induction d with
  | zero =>
    intro i hi
    obtain rfl : i = n := by omega
    exact Ev.step (fun k => by simp only [graph_numbers.l0]; rw [if_neg (by omega)]) (Ev.now _)
  | succ d ih =>
    intro i hi
    refine Ev.step (fun k => by simp only [graph_numbers.l0]; rw [if_pos (by omega), if_pos (by rw [numsFrom_len]; omega), wrap_id (by omega) (by omega), wrap_id (i := (i : Int) + 1) (by omega) (by omega), ← numsFrom_succ]) ?_
    exact ih (i + 1) (by omega)
theorem gnumbers_ev (a : Int) (n : Nat) (ha : 0 ≤ a) (hb : a ≤ 1000000) (hn : n ≤ 1000000) : Ev (fun k => graph_numbers.f k a (n : Int)) (numsFrom a n) := by
  unfold graph_numbers.f
  exact gnumbers_l0 a n ha hb hn n 0 (by omega)
theorem rnumbers_l0 (a : Int) (n : Nat) (ha : 0 ≤ a) (hb : a ≤ 1000000) (hn : n ≤ 1000000) : ∀ (d i : Nat), i + d = n → Ev (fun k => scarfjointref05_Numbers.l0 k a (n : Int) (numsFrom a i) (i : Int)) (numsFrom a n) := by
  intro d
  induction d with
  | zero =>
    intro i hi
    obtain rfl : i = n := by omega
    exact Ev.step (fun k => by simp only [scarfjointref05_Numbers.l0]; rw [if_neg (by omega)]) (Ev.now _)
  | succ d ih =>
    intro i hi
    refine Ev.step (fun k => by simp only [scarfjointref05_Numbers.l0]; rw [if_pos (by omega), if_pos (by rw [numsFrom_len]; omega), wrap_id (by omega) (by omega), wrap_id (i := (i : Int) + 1) (by omega) (by omega), ← numsFrom_succ]) ?_
    exact ih (i + 1) (by omega)
theorem rnumbers_ev (a : Int) (n : Nat) (ha : 0 ≤ a) (hb : a ≤ 1000000) (hn : n ≤ 1000000) : Ev (fun k => scarfjointref05_Numbers.f k a (n : Int)) (numsFrom a n) := by
  unfold scarfjointref05_Numbers.f
  exact rnumbers_l0 a n ha hb hn n 0 (by omega)

/-! the parts out of the labels -/
def idxi (p : Int → Bool) : Int → List Int → List Int
  | _, [] => []
  | i, x :: r => if p x = true then i :: idxi p (i + 1) r else idxi p (i + 1) r
theorem idxi_len (p : Int → Bool) : ∀ (r : List Int) (i : Int), (idxi p i r).length ≤ r.length := by
  intro r
  induction r with
  | nil => intro i; simp [idxi]
  | cons x r ih => intro i; have := ih (i + 1); unfold idxi; split <;> simp <;> omega
def partOf (L : List Int) (E : List S38) (root : Int) : S64 := ⟨idxi (fun x => decide (x = root)) 0 L, idxs (fun e => decide (rd L e.f1 = root)) 0 E⟩
def parts (L : List Int) (E : List S38) : Int → List Int → List S64
  | _, [] => []
  | i, x :: r => if x = i then partOf L E i :: parts L E (i + 1) r else parts L E (i + 1) r
theorem parts_len (L : List Int) (E : List S38) : ∀ (r : List Int) (i : Int), (parts L E i r).length ≤ r.length := by
  intro r
  induction r with
  | nil => intro i; simp [parts]
  | cons x r ih => intro i; have := ih (i + 1); unfold parts; split <;> simp <;> omega

section
variable (N : List Int) (E : List S38) (hN : N.length ≤ 1000000) (hE : E.length ≤ 1000000) (hok : ∀ e ∈ E, okE N.length e)
include hN hE hok

theorem r_l4 (L : List Int) (hL : L.length = N.length) (acc : List S64) (hacc : acc.length ≤ 1000000) (root : Int) (nodes : List Int) {R : List S64 × Int} : ∀ (r pre : List S38) (c : List Int), E = pre ++ r → c.length ≤ pre.length →
    Ev (fun k => scarfjointref05_Components.l2 k L (acc ++ [(⟨nodes, c ++ idxs (fun e => decide (rd L e.f1 = root)) pre.length r⟩ : S64)]) (wrap64 (root + 1)) N E) R → Ev (fun k => scarfjointref05_Components.l4 k L acc root (pre.length : Int) N E nodes c) R := by
  have _ := hN
  intro r
  induction r with
  | nil =>
    intro pre c he hc h
    refine Ev.step (fun k => by simp only [scarfjointref05_Components.l4]; rw [if_neg (by rw [he]; simp), if_pos (by omega)]) ?_
    simpa [idxs] using h
  | cons x r ih =>
    intro pre c he hc h
    have hx : okE N.length x := hok x (by rw [he]; simp)
    have hrd : rd_T38 E (pre.length : Int) = x := by rw [he]; exact rd38_mid pre x r
    have hlt : (pre.length : Int) < (E.length : Int) := by rw [he]; exact lt_mid pre x r
    have hw : wrap64 ((pre.length : Int) + 1) = ((pre ++ [x]).length : Int) := wrap_mid pre x r (by rw [← he]; omega)
    by_cases hr : rd L x.f1 = root
    · refine Ev.step (fun k => by simp only [scarfjointref05_Components.l4]; rw [if_pos hlt, if_pos (by omega), hrd, if_pos hx.1.1, if_pos (by rw [hL]; exact hx.1.2), if_pos hr, if_pos (by omega), hw]) ?_
      refine ih (pre ++ [x]) (c ++ [(pre.length : Int)]) (by rw [he]; simp) (by simp; omega) ?_
      simpa [idxs, hr] using h
    · refine Ev.step (fun k => by simp only [scarfjointref05_Components.l4]; rw [if_pos hlt, if_pos (by omega), hrd, if_pos hx.1.1, if_pos (by rw [hL]; exact hx.1.2), if_neg hr, hw]) ?_
      refine ih (pre ++ [x]) c (by rw [he]; simp) (by simp; omega) ?_
      simpa [idxs, hr] using h
theorem r_l3 (L : List Int) (hL : L.length = N.length) (acc : List S64) (hacc : acc.length ≤ 1000000) (root : Int) {R : List S64 × Int} : ∀ (r pre c : List Int), L = pre ++ r → c.length ≤ pre.length →
    Ev (fun k => scarfjointref05_Components.l2 k L (acc ++ [(⟨c ++ idxi (fun x => decide (x = root)) pre.length r, idxs (fun e => decide (rd L e.f1 = root)) 0 E⟩ : S64)]) (wrap64 (root + 1)) N E) R → Ev (fun k => scarfjointref05_Components.l3 k L acc root (pre.length : Int) N E c) R := by
  intro r
  induction r with
  | nil =>
    intro pre c he hc h
    refine Ev.step (fun k => by simp only [scarfjointref05_Components.l3]; rw [if_neg (by rw [← hL, he]; simp)]) ?_
    have := r_l4 N E hN hE hok L hL acc hacc root (c ++ idxi (fun x => decide (x = root)) pre.length []) E [] [] rfl (by simp) (by simpa using h)
    simpa [idxi] using this
  | cons x r ih =>
    intro pre c he hc h
    have hrd : rd L (pre.length : Int) = x := by rw [he]; exact rd_mid pre x r
    have hlt : (pre.length : Int) < (L.length : Int) := by rw [he]; exact lt_mid pre x r
    have hw : wrap64 ((pre.length : Int) + 1) = ((pre ++ [x]).length : Int) := wrap_mid pre x r (by rw [← he]; omega)
    by_cases hr : x = root
    · refine Ev.step (fun k => by simp only [scarfjointref05_Components.l3]; rw [if_pos (by rw [← hL]; exact hlt), if_pos (by omega), if_pos hlt, hrd, if_pos hr, if_pos (by omega), hw]) ?_
      refine ih (pre ++ [x]) (c ++ [(pre.length : Int)]) (by rw [he]; simp) (by simp; omega) ?_
      simpa [idxi, hr] using h
    · refine Ev.step (fun k => by simp only [scarfjointref05_Components.l3]; rw [if_pos (by rw [← hL]; exact hlt), if_pos (by omega), if_pos hlt, hrd, if_neg hr, hw]) ?_
      refine ih (pre ++ [x]) c (by rw [he]; simp) (by simp; omega) ?_
      simpa [idxi, hr] using h
theorem r_l2 (L : List Int) (hL : L.length = N.length) : ∀ (r pre : List Int) (acc : List S64), L = pre ++ r → acc.length ≤ pre.length →
    Ev (fun k => scarfjointref05_Components.l2 k L acc (pre.length : Int) N E) (acc ++ parts L E pre.length r, 0) := by
  intro r
  induction r with
  | nil =>
    intro pre acc he hc
    refine Ev.step (fun k => by simp only [scarfjointref05_Components.l2]; rw [if_neg (by rw [← hL, he]; simp)]) ?_
    simpa [parts] using Ev.now _
  | cons x r ih =>
    intro pre acc he hc
    have hrd : rd L (pre.length : Int) = x := by rw [he]; exact rd_mid pre x r
    have hlt : (pre.length : Int) < (L.length : Int) := by rw [he]; exact lt_mid pre x r
    have hw : wrap64 ((pre.length : Int) + 1) = ((pre ++ [x]).length : Int) := wrap_mid pre x r (by rw [← he]; omega)
    by_cases hr : x = (pre.length : Int)
    · refine Ev.step (fun k => by simp only [scarfjointref05_Components.l2]; rw [if_pos (by rw [← hL]; exact hlt), if_pos (by omega), if_pos hlt, hrd, if_pos hr]) ?_
      refine r_l3 N E hN hE hok L hL acc (by omega) (pre.length : Int) L [] [] rfl (by simp) ?_
      rw [hw]
      have := ih (pre ++ [x]) (acc ++ [partOf L E (pre.length : Int)]) (by rw [he]; simp) (by simp; omega)
      simpa [parts, hr, partOf] using this
    · refine Ev.step (fun k => by simp only [scarfjointref05_Components.l2]; rw [if_pos (by rw [← hL]; exact hlt), if_pos (by omega), if_pos hlt, hrd, if_neg hr, hw]) ?_
      have := ih (pre ++ [x]) acc (by rw [he]; simp) (by simp; omega)
      simpa [parts, hr] using this
theorem r_l1 {R : List S64 × Int} (i : Int) : ∀ (r pre : List S38) (L : List Int), E = pre ++ r → L.length = N.length →
    Ev (fun k => scarfjointref05_Components.l0 k (r.foldl estep L) (wrap64 (i + 1)) N E) R → Ev (fun k => scarfjointref05_Components.l1 k L i (pre.length : Int) N E) R := by
  have _ := hN
  intro r
  induction r with
  | nil =>
    intro pre L he hL h
    refine Ev.step (fun k => by simp only [scarfjointref05_Components.l1]; rw [if_neg (by rw [he]; simp)]) ?_
    simpa using h
  | cons x r ih =>
    intro pre L he hL h
    have hx : okE N.length x := hok x (by rw [he]; simp)
    have hrd : rd_T38 E (pre.length : Int) = x := by rw [he]; exact rd38_mid pre x r
    have hlt : (pre.length : Int) < (E.length : Int) := by rw [he]; exact lt_mid pre x r
    have hw : wrap64 ((pre.length : Int) + 1) = ((pre ++ [x]).length : Int) := wrap_mid pre x r (by rw [← he]; omega)
    refine Ev.step (fun k => by simp only [scarfjointref05_Components.l1]; rw [if_pos hlt, if_pos (by omega), hrd, if_pos hx.1.1, if_pos (by rw [hL]; exact hx.1.2), if_pos hx.2.1, if_pos (by rw [hL]; exact hx.2.2), hw]) ?_
    exact ih (pre ++ [x]) (estep L x) (by rw [he]; simp) (by rw [len_estep]; exact hL) h
theorem r_l0 {R : List S64 × Int} : ∀ (d : Nat) (i : Int) (L : List Int), 0 ≤ i → (N.length : Int) - i = d → L.length = N.length →
    Ev (fun k => scarfjointref05_Components.l2 k (it E d L) [] 0 N E) R → Ev (fun k => scarfjointref05_Components.l0 k L i N E) R := by
  intro d
  induction d with
  | zero =>
    intro i L h0 hd hL h
    refine Ev.step (fun k => by simp only [scarfjointref05_Components.l0]; rw [if_neg (by omega)]) ?_
    exact h
  | succ d ih =>
    intro i L h0 hd hL h
    refine Ev.step (fun k => by simp only [scarfjointref05_Components.l0]; rw [if_pos (by omega)]) ?_
    refine r_l1 N E hN hE hok i E [] L rfl hL ?_
    rw [wrap_id (by omega) (by omega)]
    exact ih (i + 1) (pass E L) (by omega) (by omega) (by rw [pass, len_fold]; exact hL) h

/-! the program's -/
theorem g_l4 (L : List Int) (hL : L.length = N.length) (acc : List S64) (hacc : acc.length ≤ 1000000) (root i : Int) (nodes : List Int) {R : List S64 × Int} : ∀ (r pre : List S38) (c : List Int), E = pre ++ r → c.length ≤ pre.length →
    Ev (fun k => graph_Components.l2 k L (acc ++ [(⟨nodes, c ++ idxs (fun e => decide (rd L e.f1 = root)) pre.length r⟩ : S64)]) L (L.length : Int) (wrap64 (i + 1)) N E) R → Ev (fun k => graph_Components.l4 k L acc root L (L.length : Int) i E (E.length : Int) (pre.length : Int) N E nodes c) R := by
  have _ := hN
  intro r
  induction r with
  | nil =>
    intro pre c he hc h
    refine Ev.step (fun k => by simp only [graph_Components.l4]; rw [if_neg (by rw [he]; simp), if_pos (by omega)]) ?_
    simpa [idxs] using h
  | cons x r ih =>
    intro pre c he hc h
    have hx : okE N.length x := hok x (by rw [he]; simp)
    have hrd : rd_T38 E (pre.length : Int) = x := by rw [he]; exact rd38_mid pre x r
    have hlt : (pre.length : Int) < (E.length : Int) := by rw [he]; exact lt_mid pre x r
    have hw : wrap64 ((pre.length : Int) + 1) = ((pre ++ [x]).length : Int) := wrap_mid pre x r (by rw [← he]; omega)
    by_cases hr : rd L x.f1 = root
    · refine Ev.step (fun k => by simp only [graph_Components.l4]; rw [if_pos hlt, if_pos (by omega), if_pos hlt, hrd, if_pos hx.1.1, if_pos (by rw [hL]; exact hx.1.2), if_pos hr, if_pos (by omega), hw]) ?_
      refine ih (pre ++ [x]) (c ++ [(pre.length : Int)]) (by rw [he]; simp) (by simp; omega) ?_
      simpa [idxs, hr] using h
    · refine Ev.step (fun k => by simp only [graph_Components.l4]; rw [if_pos hlt, if_pos (by omega), if_pos hlt, hrd, if_pos hx.1.1, if_pos (by rw [hL]; exact hx.1.2), if_neg hr, hw]) ?_
      refine ih (pre ++ [x]) c (by rw [he]; simp) (by simp; omega) ?_
      simpa [idxs, hr] using h
theorem g_l3 (L : List Int) (hL : L.length = N.length) (acc : List S64) (hacc : acc.length ≤ 1000000) (root i : Int) {R : List S64 × Int} : ∀ (r pre c : List Int), L = pre ++ r → c.length ≤ pre.length →
    Ev (fun k => graph_Components.l2 k L (acc ++ [(⟨c ++ idxi (fun x => decide (x = root)) pre.length r, idxs (fun e => decide (rd L e.f1 = root)) 0 E⟩ : S64)]) L (L.length : Int) (wrap64 (i + 1)) N E) R → Ev (fun k => graph_Components.l3 k L acc root L (L.length : Int) i L (L.length : Int) (pre.length : Int) N E c) R := by
  intro r
  induction r with
  | nil =>
    intro pre c he hc h
    refine Ev.step (fun k => by simp only [graph_Components.l3]; rw [if_neg (by rw [he]; simp)]) ?_
    have := g_l4 N E hN hE hok L hL acc hacc root i (c ++ idxi (fun x => decide (x = root)) pre.length []) E [] [] rfl (by simp) (by simpa using h)
    simpa [idxi] using this
  | cons x r ih =>
    intro pre c he hc h
    have hrd : rd L (pre.length : Int) = x := by rw [he]; exact rd_mid pre x r
    have hlt : (pre.length : Int) < (L.length : Int) := by rw [he]; exact lt_mid pre x r
    have hw : wrap64 ((pre.length : Int) + 1) = ((pre ++ [x]).length : Int) := wrap_mid pre x r (by rw [← he]; omega)
    by_cases hr : x = root
    · refine Ev.step (fun k => by simp only [graph_Components.l3]; rw [if_pos hlt, if_pos (by omega), if_pos hlt, hrd, if_pos hr, if_pos (by omega), hw]) ?_
      refine ih (pre ++ [x]) (c ++ [(pre.length : Int)]) (by rw [he]; simp) (by simp; omega) ?_
      simpa [idxi, hr] using h
    · refine Ev.step (fun k => by simp only [graph_Components.l3]; rw [if_pos hlt, if_pos (by omega), if_pos hlt, hrd, if_neg hr, hw]) ?_
      refine ih (pre ++ [x]) c (by rw [he]; simp) (by simp; omega) ?_
      simpa [idxi, hr] using h
theorem g_l2 (L : List Int) (hL : L.length = N.length) : ∀ (r pre : List Int) (acc : List S64), L = pre ++ r → acc.length ≤ pre.length →
    Ev (fun k => graph_Components.l2 k L acc L (L.length : Int) (pre.length : Int) N E) (acc ++ parts L E pre.length r, 0) := by
  intro r
  induction r with
  | nil =>
    intro pre acc he hc
    refine Ev.step (fun k => by simp only [graph_Components.l2]; rw [if_neg (by rw [he]; simp)]) ?_
    simpa [parts] using Ev.now _
  | cons x r ih =>
    intro pre acc he hc
    have hrd : rd L (pre.length : Int) = x := by rw [he]; exact rd_mid pre x r
    have hlt : (pre.length : Int) < (L.length : Int) := by rw [he]; exact lt_mid pre x r
    have hw : wrap64 ((pre.length : Int) + 1) = ((pre ++ [x]).length : Int) := wrap_mid pre x r (by rw [← he]; omega)
    by_cases hr : x = (pre.length : Int)
    · refine Ev.step (fun k => by simp only [graph_Components.l2]; rw [if_pos hlt, if_pos (by omega), if_pos hlt, hrd, if_pos hr.symm]) ?_
      refine g_l3 N E hN hE hok L hL acc (by omega) (pre.length : Int) (pre.length : Int) L [] [] rfl (by simp) ?_
      rw [hw]
      have := ih (pre ++ [x]) (acc ++ [partOf L E (pre.length : Int)]) (by rw [he]; simp) (by simp; omega)
      simpa [parts, hr, partOf] using this
    · refine Ev.step (fun k => by simp only [graph_Components.l2]; rw [if_pos hlt, if_pos (by omega), if_pos hlt, hrd, if_neg (fun h => hr h.symm), hw]) ?_
      have := ih (pre ++ [x]) acc (by rw [he]; simp) (by simp; omega)
      simpa [parts, hr] using this
end

def same (L : List Int) (e : S38) : Bool := decide (rd L e.f1 = mn (rd L e.f1) (rd L e.f2)) && decide (rd L e.f2 = mn (rd L e.f1) (rd L e.f2))
def chg : List S38 → List Int → Bool
  | [], _ => false
  | e :: r, L => !same L e || chg r (estep L e)
theorem same_step {n : Nat} {L : List Int} (hL : L.length = n) {e : S38} (he : inN n e) (h : same L e = true) : estep L e = L := by
  unfold same at h
  simp only [Bool.and_eq_true, decide_eq_true_eq] at h
  refine ext_gt (n := n) (by rw [len_estep]; exact hL) hL fun i _ => ?_
  rw [gt_estep hL he]
  split
  · rename_i hi
    rcases hi with hi | hi
    · rw [hi]; exact h.1.symm
    · rw [hi]; exact h.2.symm
  · rfl
theorem step_same {n : Nat} {L : List Int} (hL : L.length = n) {e : S38} (he : inN n e) (h : estep L e = L) : same L e = true := by
  have h1 := gt_estep hL he e.f1.toNat
  have h2 := gt_estep hL he e.f2.toNat
  rw [if_pos (Or.inl rfl), h] at h1
  rw [if_pos (Or.inr rfl), h] at h2
  unfold same
  simp only [Bool.and_eq_true, decide_eq_true_eq]
  exact ⟨h1, h2⟩
theorem chg_fix {n : Nat} : ∀ (E : List S38) (L : List Int), L.length = n → (∀ e ∈ E, inN n e) → (chg E L = false ↔ E.foldl estep L = L) := by
  intro E
  induction E with
  | nil => intro L _ _; simp [chg]
  | cons e E ih =>
    intro L hL hE
    have he := hE e List.mem_cons_self
    have hE' : ∀ x ∈ E, inN n x := fun x hx => hE x (List.mem_cons_of_mem _ hx)
    have ih' := ih (estep L e) (by rw [len_estep]; exact hL) hE'
    unfold chg
    rw [List.foldl_cons]
    constructor
    · intro h
      rw [Bool.or_eq_false_iff] at h
      have hs : estep L e = L := same_step hL he (by simpa using h.1)
      rw [hs] at h ih' ⊢
      exact ih'.mp h.2
    · intro h
      have hs : estep L e = L := by
        refine ext_gt (n := n) (by rw [len_estep]; exact hL) hL fun i _ => ?_
        have h1 := fold_le E (estep L e) (by rw [len_estep]; exact hL) hE' i
        rw [h] at h1
        have h2 := estep_le hL he i
        omega
      rw [step_same hL he hs]
      rw [hs] at ih' h ⊢
      simpa using ih'.mpr h

def sumL (L : List Int) : Nat := (L.map Int.toNat).sum
theorem sum_le : ∀ (L M : List Int), L.length = M.length → (∀ i, gt L i ≤ gt M i) → (∀ i, 0 ≤ gt L i) → sumL L ≤ sumL M ∧ (L ≠ M → sumL L < sumL M) := by
  intro L
  induction L with
  | nil =>
    intro M hM _ _
    obtain rfl : M = [] := List.eq_nil_of_length_eq_zero hM.symm
    exact ⟨Nat.le_refl _, fun h => absurd rfl h⟩
  | cons x L ih =>
    intro M hM h h0
    match M, hM with
    | y :: M, hM =>
      have hxy : x ≤ y := h 0
      have hx : 0 ≤ x := h0 0
      have := ih M (by simpa using hM) (fun i => h (i + 1)) (fun i => h0 (i + 1))
      simp only [sumL, List.map_cons, List.sum_cons] at this ⊢
      refine ⟨by omega, fun hne => ?_⟩
      by_cases e : L = M
      · have : x ≠ y := fun e2 => hne (by rw [e, e2])
        have := this
        omega
      · have := this.2 e
        omega

section
variable (N : List Int) (E : List S38) (hN : N.length ≤ 1000000) (hE : E.length ≤ 1000000) (hok : ∀ e ∈ E, okE N.length e)
include hN hE hok
theorem g_l1 {R : List S64 × Int} : ∀ (r pre : List S38) (L : List Int) (fl : Bool), E = pre ++ r → L.length = N.length →
    Ev (fun k => graph_Components.l0 k (r.foldl estep L) (fl || chg r L) N E) R → Ev (fun k => graph_Components.l1 k L fl E (E.length : Int) (pre.length : Int) N E) R := by
  have _ := hN
  intro r
  induction r with
  | nil =>
    intro pre L fl he hL h
    refine Ev.step (fun k => by simp only [graph_Components.l1]; rw [if_neg (by rw [he]; simp)]) ?_
    simpa [chg] using h
  | cons x r ih =>
    intro pre L fl he hL h
    have hx : okE N.length x := hok x (by rw [he]; simp)
    have hrd : rd_T38 E (pre.length : Int) = x := by rw [he]; exact rd38_mid pre x r
    have hlt : (pre.length : Int) < (E.length : Int) := by rw [he]; exact lt_mid pre x r
    have hw : wrap64 ((pre.length : Int) + 1) = ((pre ++ [x]).length : Int) := wrap_mid pre x r (by rw [← he]; omega)
    have turn : same L x = false → Ev (fun k => graph_Components.j2 k L fl (mn (rd L x.f1) (rd L x.f2)) E (E.length : Int) (pre.length : Int) true N E x.f0 x.f1 x.f2) R := by
      intro hs
      refine Ev.step (fun k => by simp only [graph_Components.j2, if_true]; rw [if_pos hx.1.1, if_pos (by rw [hL]; exact hx.1.2), if_pos hx.2.1, if_pos (by rw [hL]; exact hx.2.2), hw]) ?_
      refine ih (pre ++ [x]) (estep L x) true (by rw [he]; simp) (by rw [len_estep]; exact hL) ?_
      simpa [chg, hs] using h
    by_cases h1 : rd L x.f1 = mn (rd L x.f1) (rd L x.f2)
    · refine Ev.step (fun k => by simp only [graph_Components.l1]; rw [if_pos hlt, if_pos (by omega), if_pos hlt, hrd, if_pos hx.1.1, if_pos (by rw [hL]; exact hx.1.2), if_pos hx.2.1, if_pos (by rw [hL]; exact hx.2.2), if_pos h1]) ?_
      by_cases h2 : rd L x.f2 = mn (rd L x.f1) (rd L x.f2)
      · rw [show (rd L x.f2 != mn (rd L x.f1) (rd L x.f2)) = false from bne_eq_false_iff_eq.mpr h2]
        refine Ev.step (fun k => by simp only [graph_Components.j2]; rw [if_neg (by decide), hw]) ?_
        have hs : same L x = true := by unfold same; rw [decide_eq_true h1, decide_eq_true h2]; rfl
        refine ih (pre ++ [x]) L fl (by rw [he]; simp) hL ?_
        have hst := same_step hL (okE_in hx) hs
        simpa [chg, hs, hst] using h
      · rw [show (rd L x.f2 != mn (rd L x.f1) (rd L x.f2)) = true from bne_iff_ne.mpr h2]
        exact turn (by unfold same; rw [decide_eq_false h2, Bool.and_false])
    · refine Ev.step (fun k => by simp only [graph_Components.l1]; rw [if_pos hlt, if_pos (by omega), if_pos hlt, hrd, if_pos hx.1.1, if_pos (by rw [hL]; exact hx.1.2), if_pos hx.2.1, if_pos (by rw [hL]; exact hx.2.2), if_neg h1]) ?_
      exact turn (by unfold same; rw [decide_eq_false h1, Bool.false_and])
theorem g_l0 {R : List S64 × Int} : ∀ (s : Nat) (L : List Int), sumL L ≤ s → L.length = N.length → (∀ i, 0 ≤ gt L i) →
    ∃ m, pass E (it E m L) = it E m L ∧ (Ev (fun k => graph_Components.l2 k (it E m L) [] (it E m L) ((it E m L).length : Int) 0 N E) R → Ev (fun k => graph_Components.l0 k L true N E) R) := by
  have hin : ∀ e ∈ E, inN N.length e := fun e he => okE_in (hok e he)
  intro s
  induction s with
  | zero =>
    intro L hs hL h0
    have hle := sum_le (pass E L) L (by rw [pass, len_fold]) (fold_le E L hL hin) (fold_low (n := N.length) (fun _ => True) 0 E L hL hin (fun _ _ => Iff.rfl) (fun i _ => h0 i) · trivial)
    have hp : pass E L = L := by
      by_cases e : pass E L = L
      · exact e
      · have := hle.2 e; omega
    refine ⟨0, hp, fun h => ?_⟩
    refine Ev.step (fun k => by simp only [graph_Components.l0, if_true]; rfl) ?_
    refine g_l1 N E hN hE hok E [] L false rfl hL ?_
    rw [(chg_fix E L hL hin).mpr hp]
    refine Ev.step (fun k => by simp only [graph_Components.l0]; rw [if_neg (by decide)]) ?_
    rw [show E.foldl estep L = L from hp]
    exact h
  | succ s ih =>
    intro L hs hL h0
    have h0' : ∀ i, 0 ≤ gt (pass E L) i := (fold_low (n := N.length) (fun _ => True) 0 E L hL hin (fun _ _ => Iff.rfl) (fun i _ => h0 i) · trivial)
    have hle := sum_le (pass E L) L (by rw [pass, len_fold]) (fold_le E L hL hin) h0'
    by_cases hp : pass E L = L
    · refine ⟨0, hp, fun h => ?_⟩
      refine Ev.step (fun k => by simp only [graph_Components.l0, if_true]; rfl) ?_
      refine g_l1 N E hN hE hok E [] L false rfl hL ?_
      rw [(chg_fix E L hL hin).mpr hp]
      refine Ev.step (fun k => by simp only [graph_Components.l0]; rw [if_neg (by decide)]) ?_
      rw [show E.foldl estep L = L from hp]
      exact h
    · have hlt := hle.2 hp
      obtain ⟨m, hm, hh⟩ := ih (pass E L) (by omega) (by rw [pass, len_fold]; exact hL) h0'
      refine ⟨m + 1, hm, fun h => ?_⟩
      refine Ev.step (fun k => by simp only [graph_Components.l0, if_true]; rfl) ?_
      refine g_l1 N E hN hE hok E [] L false rfl hL ?_
      have hc : chg E L = true := by
        cases hc : chg E L
        · exact absurd ((chg_fix E L hL hin).mp hc) hp
        · rfl
      rw [hc]
      exact hh h
end

def components (l0 : List Int) (l1 : List S38) : List S64 × Int :=
  if validE l0 l1 = 0 then (parts (it l1 l0.length (numsFrom 0 l0.length)) l1 0 (it l1 l0.length (numsFrom 0 l0.length)), 0) else ([], validE l0 l1)
theorem gt_nums (n i : Nat) : 0 ≤ gt (numsFrom 0 n) i := by
  unfold gt numsFrom
  rw [List.getD_eq_getElem?_getD, List.getElem?_map]
  cases h : (List.range n)[i]? with
  | none => simp
  | some v => simp
theorem rcomponents_ev (l0 : List Int) (l1 : List S38) : Ev (fun k => scarfjointref05_Components.f k l0 l1) (components l0 l1) := by
  unfold scarfjointref05_Components.f components
  refine Ev.bind (valid_ev l0 l1) ?_
  by_cases hv : validE l0 l1 = 0
  · simp only [if_pos hv]
    obtain ⟨h0, h1, hok⟩ := okE_of hv
    refine Ev.bind (rnumbers_ev 0 l0.length (by omega) (by omega) (by omega)) ?_
    refine r_l0 l0 l1 (by omega) (by omega) hok l0.length 0 (numsFrom 0 l0.length) (by omega) (by omega) (numsFrom_len _ _) ?_
    have hL : (it l1 l0.length (numsFrom 0 l0.length)).length = l0.length := by rw [len_it, numsFrom_len]
    have := r_l2 l0 l1 (by omega) (by omega) hok _ hL (it l1 l0.length (numsFrom 0 l0.length)) [] [] rfl (by simp)
    simpa using this
  · simp only [if_neg hv]
    exact Ev.now _
theorem gcomponents_ev (l0 : List Int) (l1 : List S38) : Ev (fun k => graph_Components.f k l0 l1) (components l0 l1) := by
  unfold graph_Components.f graph_Valid.f components
  simp only [Option.bind_some]
  by_cases hv : validE l0 l1 = 0
  · simp only [if_pos hv]
    obtain ⟨h0, h1, hok⟩ := okE_of hv
    refine Ev.bind (gnumbers_ev 0 l0.length (by omega) (by omega) (by omega)) ?_
    obtain ⟨m, hm, hh⟩ := g_l0 (R := (parts (it l1 l0.length (numsFrom 0 l0.length)) l1 0 (it l1 l0.length (numsFrom 0 l0.length)), 0)) l0 l1 (by omega) (by omega) hok (sumL (numsFrom 0 l0.length)) (numsFrom 0 l0.length) (Nat.le_refl _) (numsFrom_len _ _) (gt_nums _)
    refine hh ?_
    have hr := rounds_enough l1 (fun e he => okE_in (hok e he)) (numsFrom 0 l0.length) (numsFrom_len _ _) m hm
    rw [hr]
    have hL : (it l1 m (numsFrom 0 l0.length)).length = l0.length := by rw [len_it, numsFrom_len]
    have := g_l2 l0 l1 (by omega) (by omega) hok _ hL (it l1 m (numsFrom 0 l0.length)) [] [] rfl (by simp)
    simpa using this
  · simp only [if_neg hv]
    exact Ev.now _
end Go.Proofs.Ytmbnibonggbjgaa.Pl

namespace Go.Proofs.Ytmbnibonggbjgaa.Pl
open Go.RowKit Go.Proofs.YtmbnibonggbjgaaW.PrintWords Go.Proofs.Ytmbnibonggbjgaa.X
theorem awake_ev : Ev (fun k => scarfjointlaw05_awake.f k) true := Ev.of (fun k => scarfjointlaw05_awake.mono k) (k := 40) (by decide +kernel)
end Go.Proofs.Ytmbnibonggbjgaa.Pl

/- The plain law of GraphIncident: what the program computes answers true. -/
namespace Go.Proofs.Ytmbnibonggbjgaa.Pure
open Go.RowKit Go.Proofs.YtmbnibonggbjgaaW.PrintWords Go.Proofs.Ytmbnibonggbjgaa.X Go.Proofs.Ytmbnibonggbjgaa.Pl
set_option linter.unusedVariables false

theorem rd64_mid (pre : List S64) (x : S64) (r : List S64) : rd_T64 (pre ++ x :: r) (pre.length : Int) = x := by
  unfold rd_T64; rw [Int.toNat_natCast, List.getD_eq_getElem?_getD, List.getElem?_append_right (Nat.le_refl _)]; simp
theorem sameParts_l0 (l : List S64) (hl : l.length ≤ 1000000) (hs : ∀ x ∈ l, x.f0.length ≤ 1000000 ∧ x.f1.length ≤ 1000000) : ∀ (r pre : List S64), l = pre ++ r → Ev (fun k => scarfjointref05_SameParts.l0 k l l (pre.length : Int)) true := by
  intro r
  induction r with
  | nil =>
    rintro pre rfl
    exact Ev.step (fun k => by simp only [scarfjointref05_SameParts.l0]; rw [if_neg (by simp)]) (Ev.now _)
  | cons x r ih =>
    rintro pre rfl
    have hx := hs x (by simp)
    refine Ev.step (fun k => by simp only [scarfjointref05_SameParts.l0]; rw [if_pos (lt_mid pre x r), if_pos (by omega), if_pos (lt_mid pre x r), rd64_mid]) ?_
    refine Ev.bind (sameInts_self x.f0 hx.1) ?_
    simp only [if_true]
    refine Ev.bind (sameInts_self x.f1 hx.2) ?_
    refine Ev.step (fun k => by simp only [scarfjointref05_SameParts.j1]; rw [if_neg (by decide), wrap_mid pre x r (by omega)]) (ih (pre ++ [x]) (snoc_mid pre x r) )
theorem sameParts_self (l : List S64) (hl : l.length ≤ 1000000) (hs : ∀ x ∈ l, x.f0.length ≤ 1000000 ∧ x.f1.length ≤ 1000000) : Ev (fun k => scarfjointref05_SameParts.f k l l) true := by
  unfold scarfjointref05_SameParts.f
  simp only [if_true]
  exact sameParts_l0 l hl hs l [] rfl
theorem parts_small (L : List Int) (E : List S38) (hL : L.length ≤ 1000000) (hE : E.length ≤ 1000000) : ∀ (r : List Int) (i : Int), ∀ x ∈ parts L E i r, x.f0.length ≤ 1000000 ∧ x.f1.length ≤ 1000000 := by
  intro r
  induction r with
  | nil => intro i x hx; exact absurd hx (by simp [parts])
  | cons y r ih =>
    intro i x hx
    unfold parts at hx
    split at hx
    · rcases List.mem_cons.mp hx with rfl | hx
      · have h1 := idxi_len (fun x => decide (x = i)) L 0
        have h2 := idxs_len (fun e => decide (rd L e.f1 = i)) E 0
        exact ⟨Nat.le_trans h1 hL, Nat.le_trans h2 hE⟩
      · exact ih (i + 1) x hx
    · exact ih (i + 1) x hx
theorem components_small (l0 : List Int) (l1 : List S38) (h0 : l0.length ≤ 1000000) (h1 : l1.length ≤ 1000000) : (components l0 l1).1.length ≤ 1000000 ∧ ∀ x ∈ (components l0 l1).1, x.f0.length ≤ 1000000 ∧ x.f1.length ≤ 1000000 := by
  unfold components
  have hL : (it l1 l0.length (numsFrom 0 l0.length)).length = l0.length := by rw [len_it, numsFrom_len]
  split
  · refine ⟨?_, parts_small _ _ (by omega) h1 _ _⟩
    have := parts_len (it l1 l0.length (numsFrom 0 l0.length)) l1 (it l1 l0.length (numsFrom 0 l0.length)) 0
    simp only
    omega
  · simp

theorem GraphIncident_pure (l0 : List Int) (l1 : List S38) (a1 : Int) (g : (∀ x ∈ l0, Open.okInt x) ∧ ∀ e ∈ l1, Open.okInt e.f0 ∧ Open.okInt e.f1 ∧ Open.okInt e.f2) (w : Open.okInt a1) : ∃ k, scarfjointlaw05_GraphIncident.f k l0 l1 a1 = some true := by
  refine Ev.rounds (g := fun k => scarfjointlaw05_GraphIncident.f k l0 l1 a1) ?_
  unfold scarfjointlaw05_GraphIncident.f
  refine Ev.bind awake_ev ?_
  simp only [if_true, few_eq, Option.bind_some]
  by_cases hf : l0.length ≤ 45 ∧ l1.length ≤ 90
  rotate_left
  · simp only [decide_eq_false hf]
    simpa using Ev.bind awake_ev (Ev.now true)
  obtain ⟨h0, h1⟩ := hf
  simp only [decide_eq_true (show l0.length ≤ 45 ∧ l1.length ≤ 90 from ⟨h0, h1⟩), if_true, copied_eq l0 l1 (by omega) (by omega), Option.bind_some]
  refine Ev.bind (gincident_ev l0 l1 a1 (by omega) (by omega)) ?_
  refine Ev.bind (rincident_ev l0 l1 a1 (by omega)) ?_
  refine Ev.bind (gcomponents_ev l0 l1) ?_
  refine Ev.bind (rcomponents_ev l0 l1) ?_
  have hi := incident_len l0 l1 a1
  have hc := components_small l0 l1 (by omega) (by omega)
  simp only [if_true]
  refine Ev.bind (equal_self _ (by omega)) ?_
  simp only [if_true]
  refine Ev.bind (equal_self _ (by omega)) ?_
  simp only [if_true]
  exact Ev.bind (sameParts_self _ hc.1 hc.2) (Ev.now _)
end Go.Proofs.Ytmbnibonggbjgaa.Pure


namespace Go.Proofs.Ytmbnibonggbjgaa.graphIncident
open Go.ChangeShapes Go.WideShapes Go.ChangeAt Go.RowKit
open Go.ChangeMaps (open_string shut_string)
open Go.Proofs.YtmbnibonggbjgaaW.PrintWords Go.Proofs.Ytmbnibonggbjgaa.X
set_option linter.unusedVariables false
theorem own : ownKnob Try.prog.godebug = none := by kernel_rfl
theorem laidOut : laidOutB Try.prog = true := by kernel_rfl
set_option maxRecDepth 100000 in
theorem lifted (os : Os) (started : os.Started) (H : Type) (enc : TypeId × Value → H) :
    ReturnsInHanded {} Try.checked os 4 .any (Rows.graphIncidentSpec.pre6 enc Try.prog Try.f4 Rows.graphIncidentRow.domain false) (Rows.graphIncidentSpec.post enc Try.prog Try.f4 false true false false) := by
  refine returnsInHanded_of_change_sized (C := Try.checked) own started (by kernel_rfl) Try.func4
    (ChangeSpec.witness6 (enc := enc) (C := Try.checked) false ⟨#[], #[.agg #[.slice none 0 0, .slice none 0 0], .int .i64 0], []⟩ 8 (by kernel_rfl) (by kernel_rfl) (by kernel_rfl) (by kernel_rfl)) ?_
  intro W base args ds gs before hval0 hW hcnd hsz0 _
  clear hsz0
  have hval : ∀ (j : Nat) t v, Try.f4.params[j]? = some t → args[j]? = some v → Value.okWide Try.prog W .any base t v := hval0
  have hW' := hW
  obtain ⟨p, q, hA0, hV, rfl, hfz, hnd⟩ := hW
  have hA : DataW.TrodAll enc Try.prog W 0 (fun _ => true) true Try.f4.params.toList args.toList ds p := hA0
  rw [Try.params4] at hA hval
  obtain ⟨v0, vs0, d0, ds0, p0, q0, hargs, rfl, rfl, h0, r0⟩ := trodAll_cons hA
  obtain ⟨v1, vs1, d1, ds1, p1, q1, rfl, rfl, rfl, h1, r1⟩ := trodAll_cons r0
  obtain ⟨rfl, rfl, rfl⟩ := trodAll_nil r1
  obtain rfl : args = #[v0, v1] := by cases args; simp_all
  obtain ⟨rfl, rfl⟩ := trodVars_none hV
  have k0 := h0
  have lt0 : ∀ x ∈ p0, x.block < W.heap.size := by obtain ⟨m, hm⟩ := k0; exact DataW.trod_lt m _ _ _ hm
  obtain ⟨cs0, rfl, hz0⟩ := okWide_struct Try.underlying25 (hval 0 25 v0 rfl rfl)
  obtain ⟨m0, hm0⟩ := h0
  obtain ⟨x0, K0, g0⟩ := Open.open25 hm0
  replace K0 : k25.K W x0 cs0.toList := K0
  obtain ⟨A0_0, c0_0, A0_1, c0_1, e0, hc0_0, hr0_0, hc0_1, hr0_1⟩ := k25_open K0
  obtain rfl : cs0 = #[.slice A0_0 x0.f0.length c0_0, .slice A0_1 x0.f1.length c0_1] := by apply Array.toList_inj.mp; rw [e0]
  obtain ⟨a1, rfl, rfl, rfl, w1⟩ := open_int Try.underlying3 (hval 1 3 v1 rfl rfl) h1
  clear hA0 hval0
  obtain ⟨k, hp⟩ := Pure.GraphIncident_pure x0.f0 x0.f1 a1 g0 w1
  refine (scarfjointlaw05_GraphIncident.calls k _ _ x0.f0 _ _ x0.f1 a1 true W hr0_0 hc0_0 hr0_1 hc0_1 hp).mono fun e W' ⟨he, bel⟩ => ?_
  subst he
  exact ⟨_, rfl, _, _, _, [], _, [], hW', trodAll_mk1 (shut_bool Try.underlying4 _), (trodAll_cons_mk (Below.trod laidOut (by kernel_rfl) (of_decide_eq_true (by kernel_rfl)) k0 bel lt0) (trodAll_cons_mk (shut_int Try.underlying3 w1) trodAll_mk0)), rfl, bel.frame _, fun h => by cases h⟩
theorem over : Rows.graphIncidentRow.holds Try.pinned (OpenSpec.ofChange Rows.graphIncidentSpec) :=
  OpenClaim.holds_of_wide 4 Try.f4 rfl rfl rfl rfl rfl rfl rfl ⟨rfl, rfl, rfl, rfl, rfl⟩ rfl rfl rfl rfl rfl (by kernel_rfl) Try.func4 (by kernel_rfl)
    (of_decide_eq_true (by kernel_rfl)) (by unfold Func.isWrapper; first | (rw [if_pos (by decide +kernel)]; kernel_rfl) | (rw [if_neg (by decide +kernel)]; exact ⟨rfl, rfl⟩))
    (fun os started H enc _ => lifted os started H enc)
theorem proved : Rows.GraphIncidentSaid := over
#print axioms proved
end Go.Proofs.Ytmbnibonggbjgaa.graphIncident
namespace Go.Proofs.Ytmbnibonggbjgaa
/-- The row, under a short name, for the claim. -/
theorem graphIncident_holds : Rows.GraphIncidentSaid := graphIncident.proved
end Go.Proofs.Ytmbnibonggbjgaa
