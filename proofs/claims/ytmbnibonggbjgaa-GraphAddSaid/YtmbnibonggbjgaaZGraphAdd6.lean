/- The law GraphAdd returns true at every input, and its arguments read afterwards as they read before. No condition. -/
import Derived.Test.YtmbnibonggbjgaaZGraphAdd5
import Derived.Test.YtmbnibonggbjgaaRows
namespace Go.Proofs.Ytmbnibonggbjgaa.X
open Go.RowKit Go.Proofs.YtmbnibonggbjgaaW.PrintWords Go.Proofs.YtmbnibonggbjgaaW.PrintLast Go.Proofs.YtmbnibonggbjgaaW.PrintMore
open Go.Proofs.YtmbnibonggbjgaaW.PrintWords renaming blk_drewN → bN, blk_drew → bD, blk_alloc → bA, below_alloc → wA, pw_below_drewN → wN, below_drew1 → wD, blk_below → bB, below_step → wS, blk_at → bT, blk_grown → bG
open Go.Proofs.YtmbnibonggbjgaaW.PrintWords.Kd renaming R_alloc → rA, R_drewN → rN, R_drew → rD, R_below → rB, R_grown → rG, C_below → cB, C_alloc → cA, C_drewN → cN, C_drew → cD
attribute [local go_sem] max2_int min2_int max_two min_two max_three min_three max_four min_four
set_option linter.unusedVariables false
set_option linter.unusedSimpArgs false
/-! ### scarfjointlaw05_GraphAdd: function 5 -/
def scarfjointlaw05_GraphAdd.f (k : Nat) (l0_0 : List Int) (l0_1 : List (S38)) (a1 : Int) : Option (Bool) := (scarfjointlaw05_awake.f k).bind fun t102 => (if t102 = true then ((scarfjointref05_Few.f l0_0 l0_1).bind fun t103 => (if t103 = true then ((scarfjointref05_Copied.f l0_0 l0_1).bind fun bt105 => ((graph_AddNode.f bt105.1 bt105.2 a1).bind fun bt111 => ((scarfjointref05_AddNode.f k l0_0 l0_1 a1).bind fun bt120 => ((scarfjointref05_Copied.f l0_0 l0_1).bind fun bt129 => ((graph_Valid.f bt129.1 bt129.2).bind fun t135 => ((scarfjointref05_Valid.f k l0_0 l0_1).bind fun t136 => (if t135 = t136 then (if bt111.2.2.2 = bt120.2.2.2 then (if bt111.2.2.1 = bt120.2.2.1 then ((scarfjointref05_Same.f k bt111.1 bt111.2.1 bt120.1 bt120.2.1).bind fun t137 => (if t137 = true then ((scarfjointref05_Copied.f l0_0 l0_1).bind fun bt138 => ((graph_Same.f k l0_0 l0_1 bt138.1 bt138.2).bind fun t144 => (if t144 = true then (if bt111.2.2.2 = 0 then ((graph_Same.f k l0_0 l0_1 bt111.1 bt111.2.1).bind fun t145 => (some (!t145))) else (some true)) else (none)))) else (none))) else (none)) else (none)) else (none)))))))) else ((scarfjointlaw05_awake.f k).bind fun t104 => (some t104)))) else (none))
theorem scarfjointlaw05_GraphAdd.mono : ∀ a0 a1 a2 k, LeO (scarfjointlaw05_GraphAdd.f k a0 a1 a2) (scarfjointlaw05_GraphAdd.f (k + 1) a0 a1 a2) := by
 intro a0 a1 a2 k
 unfold scarfjointlaw05_GraphAdd.f
 repeat' first
   | (with_reducible exact graph_Same.mono _ _ _ _ _)
   | (with_reducible exact scarfjointlaw05_awake.mono _)
   | (with_reducible exact scarfjointref05_AddNode.mono _ _ _ _)
   | (with_reducible exact scarfjointref05_Same.mono _ _ _ _ _)
   | (with_reducible exact scarfjointref05_Valid.mono _ _ _)
   | (with_reducible exact LeO.refl _)
   | (with_reducible exact LeO.none _)
   | (with_reducible refine LeO.ite ?_ ?_)
   | (with_reducible refine LeO.bind ?_ (fun _ => ?_))
   | exact graph_Same.mono _ _ _ _ _
   | exact scarfjointlaw05_awake.mono _
   | exact scarfjointref05_AddNode.mono _ _ _ _
   | exact scarfjointref05_Same.mono _ _ _ _ _
   | exact scarfjointref05_Valid.mono _ _ _
   | exact LeO.none _
   | refine LeO.ite ?_ ?_
   | refine LeO.bind ?_ (fun _ => ?_)
def scarfjointlaw05_GraphAdd.T5 : Bool × List (List Nat × List Nat) := (true, [([], []), ([0], [0]), ([1, 1], [1]), ([], []), ([3, 2], [3]), ([2, 4], [2, 4]), ([5, 4], [5]), ([6], [6]), ([6], [6]), ([7, 8, 6], [6, 7, 8]), ([6, 9], [6, 9]), ([10, 6], [10]), ([11], [11]), ([11], [11]), ([12, 13, 11], [11, 12, 13]), ([11, 14], [11, 14]), ([15, 11], [15]), ([16], [16]), ([16], [16]), ([17, 18, 16, 16], [16, 17, 18]), ([16, 19], [16, 19]), ([20, 19], [20]), ([21], [21]), ([21], [21]), ([23, 21, 21], [21, 23]), ([22, 24, 24, 21], [21, 22, 24]), ([21, 25], [21, 25]), ([26, 25], [26]), ([27], [27]), ([28, 27], [27, 28]), ([29, 27, 27], [27, 29]), ([30], [30]), ([30], [30]), ([31, 32, 30, 30], [30, 31, 32]), ([33, 30], [30, 33]), ([30, 34, 27], [27, 30, 34]), ([27, 35], [27, 35]), ([36, 33, 0, 1, 2, 3, 4, 5, 6, 7, 8, 9, 10, 11, 12, 13, 14, 15, 16, 17, 18, 19, 20, 21, 22, 23, 24, 25, 26, 27, 28, 29, 30, 31, 32, 33, 34, 35, 36], [36])])
def scarfjointlaw05_GraphAdd.B5 : List Nat := [0, 1, 3, 0, 15, 31, 63, 127, 127, 511, 1023, 2047, 4095, 4095, 16383, 32767, 65535, 131071, 131071, 524287, 1048575, 2097151, 4194303, 4194303, 12582911, 33554431, 67108863, 134217727, 268435455, 536870911, 1073741823, 2147483647, 2147483647, 8589934591, 17179869183, 34359738367, 68719476735, 137438953471]
theorem scarfjointlaw05_GraphAdd.tab5 : rtab .any (opsOf Try.f5 5) = scarfjointlaw05_GraphAdd.T5 := by kernel_rfl
theorem scarfjointlaw05_GraphAdd.bits5 : waitsOk scarfjointlaw05_GraphAdd.T5.2 scarfjointlaw05_GraphAdd.B5 = true := by kernel_rfl
set_option maxHeartbeats 8000000 in
set_option maxRecDepth 100000 in
theorem scarfjointlaw05_GraphAdd.calls (k : Nat) (A0_0 : Option Addr) (c0_0 : Nat) (l0_0 : List Int) (A0_1 : Option Addr) (c0_1 : Nat) (l0_1 : List (S38)) (a1 : Int) (r : Bool) (w : World) (hr0_0 : Kd.C (Kd.int .i64) w A0_0 l0_0.length l0_0) (hc0_0 : l0_0.length ≤ c0_0) (hr0_1 : Kd.C k38 w A0_1 l0_1.length l0_1) (hc0_1 : l0_1.length ≤ c0_1) (h : scarfjointlaw05_GraphAdd.f k l0_0 l0_1 a1 = some r) :
  Calls Try.prog 5 #[.agg #[.slice A0_0 l0_0.length c0_0, .slice A0_1 l0_1.length c0_1], .int .i64 a1] w fun e w' => e = .returned (.bool r) ∧ Below w.heap.size w w' := by
 have hu25 := Try.underlying25
 have HR0_0 := Aside0.mk hr0_0
 have HC0_0 := Aside0.mk hc0_0
 clear hr0_0 hc0_0
 have HR0_1 := Aside0.mk hr0_1
 have HC0_1 := Aside0.mk hc0_1
 clear hr0_1 hc0_1
 have HB := Aside0.mk (Below.refl w.heap.size w)
 have H : ((scarfjointlaw05_awake.f k).bind fun t102 => (if t102 = true then ((scarfjointref05_Few.f l0_0 l0_1).bind fun t103 => (if t103 = true then ((scarfjointref05_Copied.f l0_0 l0_1).bind fun bt105 => ((graph_AddNode.f bt105.1 bt105.2 a1).bind fun bt111 => ((scarfjointref05_AddNode.f k l0_0 l0_1 a1).bind fun bt120 => ((scarfjointref05_Copied.f l0_0 l0_1).bind fun bt129 => ((graph_Valid.f bt129.1 bt129.2).bind fun t135 => ((scarfjointref05_Valid.f k l0_0 l0_1).bind fun t136 => (if t135 = t136 then (if bt111.2.2.2 = bt120.2.2.2 then (if bt111.2.2.1 = bt120.2.2.1 then ((scarfjointref05_Same.f k bt111.1 bt111.2.1 bt120.1 bt120.2.1).bind fun t137 => (if t137 = true then ((scarfjointref05_Copied.f l0_0 l0_1).bind fun bt138 => ((graph_Same.f k l0_0 l0_1 bt138.1 bt138.2).bind fun t144 => (if t144 = true then (if bt111.2.2.2 = 0 then ((graph_Same.f k l0_0 l0_1 bt111.1 bt111.2.1).bind fun t145 => (some (!t145))) else (some true)) else (none)))) else (none))) else (none)) else (none)) else (none)))))))) else ((scarfjointlaw05_awake.f k).bind fun t104 => (some t104)))) else (none))) = some r := h
 clear h
 replace H := Option.bind_eq_some_iff.mp H
 obtain ⟨t102, A30, H⟩ := H
 replace H : (if t102 = true then ((scarfjointref05_Few.f l0_0 l0_1).bind fun t103 => (if t103 = true then ((scarfjointref05_Copied.f l0_0 l0_1).bind fun bt105 => ((graph_AddNode.f bt105.1 bt105.2 a1).bind fun bt111 => ((scarfjointref05_AddNode.f k l0_0 l0_1 a1).bind fun bt120 => ((scarfjointref05_Copied.f l0_0 l0_1).bind fun bt129 => ((graph_Valid.f bt129.1 bt129.2).bind fun t135 => ((scarfjointref05_Valid.f k l0_0 l0_1).bind fun t136 => (if t135 = t136 then (if bt111.2.2.2 = bt120.2.2.2 then (if bt111.2.2.1 = bt120.2.2.1 then ((scarfjointref05_Same.f k bt111.1 bt111.2.1 bt120.1 bt120.2.1).bind fun t137 => (if t137 = true then ((scarfjointref05_Copied.f l0_0 l0_1).bind fun bt138 => ((graph_Same.f k l0_0 l0_1 bt138.1 bt138.2).bind fun t144 => (if t144 = true then (if bt111.2.2.2 = 0 then ((graph_Same.f k l0_0 l0_1 bt111.1 bt111.2.1).bind fun t145 => (some (!t145))) else (some true)) else (none)))) else (none))) else (none)) else (none)) else (none)))))))) else ((scarfjointlaw05_awake.f k).bind fun t104 => (some t104)))) else (none)) = some r := H
 have A3 := Aside0.mk A30
 clear A30
 by_cases c4 : t102 = true
 ·subst c4
  have H1 : ((scarfjointref05_Few.f l0_0 l0_1).bind fun t103 => (if t103 = true then ((scarfjointref05_Copied.f l0_0 l0_1).bind fun bt105 => ((graph_AddNode.f bt105.1 bt105.2 a1).bind fun bt111 => ((scarfjointref05_AddNode.f k l0_0 l0_1 a1).bind fun bt120 => ((scarfjointref05_Copied.f l0_0 l0_1).bind fun bt129 => ((graph_Valid.f bt129.1 bt129.2).bind fun t135 => ((scarfjointref05_Valid.f k l0_0 l0_1).bind fun t136 => (if t135 = t136 then (if bt111.2.2.2 = bt120.2.2.2 then (if bt111.2.2.1 = bt120.2.2.1 then ((scarfjointref05_Same.f k bt111.1 bt111.2.1 bt120.1 bt120.2.1).bind fun t137 => (if t137 = true then ((scarfjointref05_Copied.f l0_0 l0_1).bind fun bt138 => ((graph_Same.f k l0_0 l0_1 bt138.1 bt138.2).bind fun t144 => (if t144 = true then (if bt111.2.2.2 = 0 then ((graph_Same.f k l0_0 l0_1 bt111.1 bt111.2.1).bind fun t145 => (some (!t145))) else (some true)) else (none)))) else (none))) else (none)) else (none)) else (none)))))))) else ((scarfjointlaw05_awake.f k).bind fun t104 => (some t104)))) = some r := by rw [if_pos rfl] at H; exact H
  clear H
  have H := H1
  clear H1
  replace H := Option.bind_eq_some_iff.mp H
  obtain ⟨t103, A50, H⟩ := H
  replace H : (if t103 = true then ((scarfjointref05_Copied.f l0_0 l0_1).bind fun bt105 => ((graph_AddNode.f bt105.1 bt105.2 a1).bind fun bt111 => ((scarfjointref05_AddNode.f k l0_0 l0_1 a1).bind fun bt120 => ((scarfjointref05_Copied.f l0_0 l0_1).bind fun bt129 => ((graph_Valid.f bt129.1 bt129.2).bind fun t135 => ((scarfjointref05_Valid.f k l0_0 l0_1).bind fun t136 => (if t135 = t136 then (if bt111.2.2.2 = bt120.2.2.2 then (if bt111.2.2.1 = bt120.2.2.1 then ((scarfjointref05_Same.f k bt111.1 bt111.2.1 bt120.1 bt120.2.1).bind fun t137 => (if t137 = true then ((scarfjointref05_Copied.f l0_0 l0_1).bind fun bt138 => ((graph_Same.f k l0_0 l0_1 bt138.1 bt138.2).bind fun t144 => (if t144 = true then (if bt111.2.2.2 = 0 then ((graph_Same.f k l0_0 l0_1 bt111.1 bt111.2.1).bind fun t145 => (some (!t145))) else (some true)) else (none)))) else (none))) else (none)) else (none)) else (none)))))))) else ((scarfjointlaw05_awake.f k).bind fun t104 => (some t104))) = some r := H
  have A5 := Aside0.mk A50
  clear A50
  by_cases c6 : t103 = true
  ·subst c6
   have H1 : ((scarfjointref05_Copied.f l0_0 l0_1).bind fun bt105 => ((graph_AddNode.f bt105.1 bt105.2 a1).bind fun bt111 => ((scarfjointref05_AddNode.f k l0_0 l0_1 a1).bind fun bt120 => ((scarfjointref05_Copied.f l0_0 l0_1).bind fun bt129 => ((graph_Valid.f bt129.1 bt129.2).bind fun t135 => ((scarfjointref05_Valid.f k l0_0 l0_1).bind fun t136 => (if t135 = t136 then (if bt111.2.2.2 = bt120.2.2.2 then (if bt111.2.2.1 = bt120.2.2.1 then ((scarfjointref05_Same.f k bt111.1 bt111.2.1 bt120.1 bt120.2.1).bind fun t137 => (if t137 = true then ((scarfjointref05_Copied.f l0_0 l0_1).bind fun bt138 => ((graph_Same.f k l0_0 l0_1 bt138.1 bt138.2).bind fun t144 => (if t144 = true then (if bt111.2.2.2 = 0 then ((graph_Same.f k l0_0 l0_1 bt111.1 bt111.2.1).bind fun t145 => (some (!t145))) else (some true)) else (none)))) else (none))) else (none)) else (none)) else (none)))))))) = some r := by rw [if_pos rfl] at H; exact H
   clear H
   have H := H1
   clear H1
   replace H := Option.bind_eq_some_iff.mp H
   obtain ⟨⟨t105, t108⟩, A70, H⟩ := H
   replace H : ((graph_AddNode.f t105 t108 a1).bind fun bt111 => ((scarfjointref05_AddNode.f k l0_0 l0_1 a1).bind fun bt120 => ((scarfjointref05_Copied.f l0_0 l0_1).bind fun bt129 => ((graph_Valid.f bt129.1 bt129.2).bind fun t135 => ((scarfjointref05_Valid.f k l0_0 l0_1).bind fun t136 => (if t135 = t136 then (if bt111.2.2.2 = bt120.2.2.2 then (if bt111.2.2.1 = bt120.2.2.1 then ((scarfjointref05_Same.f k bt111.1 bt111.2.1 bt120.1 bt120.2.1).bind fun t137 => (if t137 = true then ((scarfjointref05_Copied.f l0_0 l0_1).bind fun bt138 => ((graph_Same.f k l0_0 l0_1 bt138.1 bt138.2).bind fun t144 => (if t144 = true then (if bt111.2.2.2 = 0 then ((graph_Same.f k l0_0 l0_1 bt111.1 bt111.2.1).bind fun t145 => (some (!t145))) else (some true)) else (none)))) else (none))) else (none)) else (none)) else (none))))))) = some r := H
   have A7 := Aside0.mk A70
   clear A70
   replace H := Option.bind_eq_some_iff.mp H
   obtain ⟨⟨t111, t114, t117, t118⟩, A80, H⟩ := H
   replace H : ((scarfjointref05_AddNode.f k l0_0 l0_1 a1).bind fun bt120 => ((scarfjointref05_Copied.f l0_0 l0_1).bind fun bt129 => ((graph_Valid.f bt129.1 bt129.2).bind fun t135 => ((scarfjointref05_Valid.f k l0_0 l0_1).bind fun t136 => (if t135 = t136 then (if t118 = bt120.2.2.2 then (if t117 = bt120.2.2.1 then ((scarfjointref05_Same.f k t111 t114 bt120.1 bt120.2.1).bind fun t137 => (if t137 = true then ((scarfjointref05_Copied.f l0_0 l0_1).bind fun bt138 => ((graph_Same.f k l0_0 l0_1 bt138.1 bt138.2).bind fun t144 => (if t144 = true then (if t118 = 0 then ((graph_Same.f k l0_0 l0_1 t111 t114).bind fun t145 => (some (!t145))) else (some true)) else (none)))) else (none))) else (none)) else (none)) else (none)))))) = some r := H
   have A8 := Aside0.mk A80
   clear A80
   replace H := Option.bind_eq_some_iff.mp H
   obtain ⟨⟨t120, t123, t126, t127⟩, A90, H⟩ := H
   replace H : ((scarfjointref05_Copied.f l0_0 l0_1).bind fun bt129 => ((graph_Valid.f bt129.1 bt129.2).bind fun t135 => ((scarfjointref05_Valid.f k l0_0 l0_1).bind fun t136 => (if t135 = t136 then (if t118 = t127 then (if t117 = t126 then ((scarfjointref05_Same.f k t111 t114 t120 t123).bind fun t137 => (if t137 = true then ((scarfjointref05_Copied.f l0_0 l0_1).bind fun bt138 => ((graph_Same.f k l0_0 l0_1 bt138.1 bt138.2).bind fun t144 => (if t144 = true then (if t118 = 0 then ((graph_Same.f k l0_0 l0_1 t111 t114).bind fun t145 => (some (!t145))) else (some true)) else (none)))) else (none))) else (none)) else (none)) else (none))))) = some r := H
   have A9 := Aside0.mk A90
   clear A90
   replace H := Option.bind_eq_some_iff.mp H
   obtain ⟨⟨t129, t132⟩, A100, H⟩ := H
   replace H : ((graph_Valid.f t129 t132).bind fun t135 => ((scarfjointref05_Valid.f k l0_0 l0_1).bind fun t136 => (if t135 = t136 then (if t118 = t127 then (if t117 = t126 then ((scarfjointref05_Same.f k t111 t114 t120 t123).bind fun t137 => (if t137 = true then ((scarfjointref05_Copied.f l0_0 l0_1).bind fun bt138 => ((graph_Same.f k l0_0 l0_1 bt138.1 bt138.2).bind fun t144 => (if t144 = true then (if t118 = 0 then ((graph_Same.f k l0_0 l0_1 t111 t114).bind fun t145 => (some (!t145))) else (some true)) else (none)))) else (none))) else (none)) else (none)) else (none)))) = some r := H
   have A10 := Aside0.mk A100
   clear A100
   replace H := Option.bind_eq_some_iff.mp H
   obtain ⟨t135, A110, H⟩ := H
   replace H : ((scarfjointref05_Valid.f k l0_0 l0_1).bind fun t136 => (if t135 = t136 then (if t118 = t127 then (if t117 = t126 then ((scarfjointref05_Same.f k t111 t114 t120 t123).bind fun t137 => (if t137 = true then ((scarfjointref05_Copied.f l0_0 l0_1).bind fun bt138 => ((graph_Same.f k l0_0 l0_1 bt138.1 bt138.2).bind fun t144 => (if t144 = true then (if t118 = 0 then ((graph_Same.f k l0_0 l0_1 t111 t114).bind fun t145 => (some (!t145))) else (some true)) else (none)))) else (none))) else (none)) else (none)) else (none))) = some r := H
   have A11 := Aside0.mk A110
   clear A110
   replace H := Option.bind_eq_some_iff.mp H
   obtain ⟨t136, A120, H⟩ := H
   replace H : (if t135 = t136 then (if t118 = t127 then (if t117 = t126 then ((scarfjointref05_Same.f k t111 t114 t120 t123).bind fun t137 => (if t137 = true then ((scarfjointref05_Copied.f l0_0 l0_1).bind fun bt138 => ((graph_Same.f k l0_0 l0_1 bt138.1 bt138.2).bind fun t144 => (if t144 = true then (if t118 = 0 then ((graph_Same.f k l0_0 l0_1 t111 t114).bind fun t145 => (some (!t145))) else (some true)) else (none)))) else (none))) else (none)) else (none)) else (none)) = some r := H
   have A12 := Aside0.mk A120
   clear A120
   by_cases c13 : t135 = t136
   ·rw [if_pos c13] at H
    have c13b0 : (t135 == t136) = true := beq_iff_eq.mpr c13
    have c13b1 : (t135 != t136) = false := bne_eq_false_iff_eq.mpr c13
    clear c13
    by_cases c14 : t118 = t127
    ·rw [if_pos c14] at H
     have c14b0 : (t118 == t127) = true := beq_iff_eq.mpr c14
     have c14b1 : (t118 != t127) = false := bne_eq_false_iff_eq.mpr c14
     clear c14
     by_cases c15 : t117 = t126
     ·rw [if_pos c15] at H
      have c15b0 : (t117 == t126) = true := beq_iff_eq.mpr c15
      have c15b1 : (t117 != t126) = false := bne_eq_false_iff_eq.mpr c15
      clear c15
      replace H := Option.bind_eq_some_iff.mp H
      obtain ⟨t137, A160, H⟩ := H
      replace H : (if t137 = true then ((scarfjointref05_Copied.f l0_0 l0_1).bind fun bt138 => ((graph_Same.f k l0_0 l0_1 bt138.1 bt138.2).bind fun t144 => (if t144 = true then (if t118 = 0 then ((graph_Same.f k l0_0 l0_1 t111 t114).bind fun t145 => (some (!t145))) else (some true)) else (none)))) else (none)) = some r := H
      have A16 := Aside0.mk A160
      clear A160
      by_cases c17 : t137 = true
      ·subst c17
       have H1 : ((scarfjointref05_Copied.f l0_0 l0_1).bind fun bt138 => ((graph_Same.f k l0_0 l0_1 bt138.1 bt138.2).bind fun t144 => (if t144 = true then (if t118 = 0 then ((graph_Same.f k l0_0 l0_1 t111 t114).bind fun t145 => (some (!t145))) else (some true)) else (none)))) = some r := by rw [if_pos rfl] at H; exact H
       clear H
       have H := H1
       clear H1
       replace H := Option.bind_eq_some_iff.mp H
       obtain ⟨⟨t138, t141⟩, A180, H⟩ := H
       replace H : ((graph_Same.f k l0_0 l0_1 t138 t141).bind fun t144 => (if t144 = true then (if t118 = 0 then ((graph_Same.f k l0_0 l0_1 t111 t114).bind fun t145 => (some (!t145))) else (some true)) else (none))) = some r := H
       have A18 := Aside0.mk A180
       clear A180
       replace H := Option.bind_eq_some_iff.mp H
       obtain ⟨t144, A190, H⟩ := H
       replace H : (if t144 = true then (if t118 = 0 then ((graph_Same.f k l0_0 l0_1 t111 t114).bind fun t145 => (some (!t145))) else (some true)) else (none)) = some r := H
       have A19 := Aside0.mk A190
       clear A190
       by_cases c20 : t144 = true
       ·subst c20
        have H1 : (if t118 = 0 then ((graph_Same.f k l0_0 l0_1 t111 t114).bind fun t145 => (some (!t145))) else (some true)) = some r := by rw [if_pos rfl] at H; exact H
        clear H
        have H := H1
        clear H1
        by_cases c21 : t118 = 0
        ·rw [if_pos c21] at H
         have c21b0 : (t118 == 0) = true := beq_iff_eq.mpr c21
         have c21b1 : (t118 != 0) = false := bne_eq_false_iff_eq.mpr c21
         clear c21
         replace H := Option.bind_eq_some_iff.mp H
         obtain ⟨t145, A220, H⟩ := H
         replace H : (some (!t145)) = some r := H
         have A22 := Aside0.mk A220
         clear A220
         obtain rfl := Option.some.inj H
         go_enter Try.func5, Try.ntmps5
         try go_wp2_with (first | ((with_reducible refine gate_dst (N := 2) rfl ?_); refine box_event ?hg (N := 2) ?hd (cs := #[.slice A0_0 l0_0.length c0_0, .slice A0_1 l0_1.length c0_1]) (t := 25) ?hr ?_; (case hd => rfl); (case hg => rfl); (case hr => first | (go_simp; done) | (go_simp; rfl)); intro gb101 hg w23 hbox hb; have n0_ := Aside0.mk (wS hB hb); have n1_ := Aside0.mk (hbox); have n2_ := Aside0.mk ((by rw [hg]; exact (below_size hB) : w.heap.size ≤ gb101)); have n3_ := Aside0.mk ((by rw [hg]; exact (below_size hB) : w.heap.size ≤ gb101)); clear HB; have HB := n0_; have BK101 := n1_; have GW101 := n2_; have GE101 := n3_; clear n0_ n1_ n2_ n3_; clear hb hbox hg) | ((with_reducible refine gate_callee (f := 10) rfl ?_); refine goesL_ (some 11) rfl rfl Try.func10 (by kernel_rfl) rfl #[] rfl aM ?_; (with_reducible refine (scarfjointlaw05_awake.calls k  true _ A3.out).mono ?_); rintro e w24 ⟨rfl, hb⟩; refine ⟨_, rfl, ?_⟩; have n0_ := Aside0.mk (bB (g := gb101) (o := .cells #[.slice A0_0 l0_0.length c0_0, .slice A0_1 l0_1.length c0_1] 25 (0, 0)) (by (with_reducible repeat (first | refine bN ?_ _ | refine bD ?_ | refine bA ?_ _)); exact BK101.out) hb); have n1_ := Aside0.mk (wS (by repeat (first | (with_reducible first | exact HB.out | apply wA | apply wN | apply wD | refine below_set ?_ GE101.out) | exact HB.out)) hb); clear BK101; clear HB; have BK101 := n0_; have HB := n1_; clear n0_ n1_; (try clear hb); (try clear hb2); (try clear hk); (try clear hi); have hcz25_0 : w24.cell? ⟨gb101, 0, none⟩ = some (.slice A0_0 l0_0.length c0_0) := (blk_cell BK101.out 0).trans rfl; have hcz25_1 : w24.cell? ⟨gb101, 1, none⟩ = some (.slice A0_1 l0_1.length c0_1) := (blk_cell BK101.out 1).trans rfl; have hfz25_0 := blk_frozen BK101.out 0; have hfz25_1 := blk_frozen BK101.out 1) | (go_at_call 11; (with_reducible refine (scarfjointref05_Few.calls _ _ l0_0 _ _ l0_1 true _ ?side1 ?side2 ?side3 ?side4 A5.out).mono ?_); (case side1 => repeat (first | exact (cB HR0_0.out HB.out) | (with_reducible refine cA ?_ _) | (with_reducible refine cN ?_ _) | (with_reducible refine cD ?_))); (case side2 => exact HC0_0.out); (case side3 => repeat (first | exact (cB HR0_1.out HB.out) | (with_reducible refine cA ?_ _) | (with_reducible refine cN ?_ _) | (with_reducible refine cD ?_))); (case side4 => exact HC0_1.out); rintro e w26 ⟨rfl, hb⟩; have n0_ := Aside0.mk (bB (g := gb101) (o := .cells #[.slice A0_0 l0_0.length c0_0, .slice A0_1 l0_1.length c0_1] 25 (0, 0)) (by (with_reducible repeat (first | refine bN ?_ _ | refine bD ?_ | refine bA ?_ _)); exact BK101.out) hb); have n1_ := Aside0.mk (wS (by repeat (first | (with_reducible first | exact HB.out | apply wA | apply wN | apply wD | refine below_set ?_ GE101.out) | exact HB.out)) hb); clear BK101; clear HB; have BK101 := n0_; have HB := n1_; clear n0_ n1_; (try clear hb); (try clear hb2); (try clear hk); (try clear hi); have hcz27_0 : w26.cell? ⟨gb101, 0, none⟩ = some (.slice A0_0 l0_0.length c0_0) := (blk_cell BK101.out 0).trans rfl; have hcz27_1 : w26.cell? ⟨gb101, 1, none⟩ = some (.slice A0_1 l0_1.length c0_1) := (blk_cell BK101.out 1).trans rfl; have hfz27_0 := blk_frozen BK101.out 0; have hfz27_1 := blk_frozen BK101.out 1) | ((with_reducible refine gate_callee (f := 13) rfl ?_); refine goesL_ (some 21) rfl rfl Try.func13 (by kernel_rfl) rfl #[.agg #[.slice A0_0 l0_0.length c0_0, .slice A0_1 l0_1.length c0_1]] rfl aM ?_; (with_reducible refine (scarfjointref05_Copied.calls _ _ l0_0 _ _ l0_1 t105 t108 _ ?side1 ?side2 ?side3 ?side4 A7.out).mono ?_); (case side1 => repeat (first | exact (cB HR0_0.out HB.out) | (with_reducible refine cA ?_ _) | (with_reducible refine cN ?_ _) | (with_reducible refine cD ?_))); (case side2 => exact HC0_0.out); (case side3 => repeat (first | exact (cB HR0_1.out HB.out) | (with_reducible refine cA ?_ _) | (with_reducible refine cN ?_ _) | (with_reducible refine cD ?_))); (case side4 => exact HC0_1.out); rintro e w28 ⟨v106, v109, rfl, ho0, ho1, hb⟩; refine ⟨_, rfl, ?_⟩; have n0_ := Aside0.mk (Kd.R_lower ho0 (below_size (by repeat (first | (with_reducible first | exact HB.out | apply wA | apply wN | apply wD | refine below_set ?_ GE101.out) | exact HB.out)))); have n1_ := Aside0.mk (Kd.R_lower ho1 (below_size (by repeat (first | (with_reducible first | exact HB.out | apply wA | apply wN | apply wD | refine below_set ?_ GE101.out) | exact HB.out)))); have n2_ := Aside0.mk (bB (g := gb101) (o := .cells #[.slice A0_0 l0_0.length c0_0, .slice A0_1 l0_1.length c0_1] 25 (0, 0)) (by (with_reducible repeat (first | refine bN ?_ _ | refine bD ?_ | refine bA ?_ _)); exact BK101.out) hb); have n3_ := Aside0.mk (wS (by repeat (first | (with_reducible first | exact HB.out | apply wA | apply wN | apply wD | refine below_set ?_ GE101.out) | exact HB.out)) hb); clear BK101; clear HB; have HO107 := n0_; have HO110 := n1_; have BK101 := n2_; have HB := n3_; clear n0_ n1_ n2_ n3_; (try clear hb); (try clear hb2); (try clear hk); (try clear hi); (try clear ho0); (try clear ho1); obtain ⟨Ao29, co29, eo29⟩ := Kd.R_slice HO107.out; subst eo29; obtain ⟨Ao30, co30, eo30⟩ := Kd.R_slice HO110.out; subst eo30) | ((with_reducible refine gate_callee (f := 24) rfl ?_); refine goesL_ (some 23) rfl rfl Try.func24 (by kernel_rfl) rfl #[.agg #[.slice Ao29 t105.length co29, .slice Ao30 t108.length co30], .int .i64 a1] rfl aM ?_; (with_reducible refine (graph_AddNode.calls _ _ t105 _ _ t108 a1 t111 t114 t117 t118 _ ?side1 ?side2 ?side3 ?side4 A8.out).mono ?_); (case side1 => repeat (first | exact (Kd.R_reads' HO107.out).2.2 | (with_reducible refine cA ?_ _) | (with_reducible refine cN ?_ _) | (with_reducible refine cD ?_))); (case side2 => exact (Kd.R_reads' HO107.out).2.1); (case side3 => repeat (first | exact (Kd.R_reads' HO110.out).2.2 | (with_reducible refine cA ?_ _) | (with_reducible refine cN ?_ _) | (with_reducible refine cD ?_))); (case side4 => exact (Kd.R_reads' HO110.out).2.1); rintro e w31 ⟨v112, v115, rfl, ho0, ho1, hb⟩; refine ⟨_, rfl, ?_⟩; have n0_ := Aside0.mk (Kd.R_elder' (by (with_reducible repeat (first | apply rA | apply rN | apply rD)); exact HO107.out) (Kd.R_base ho0) hb); have n1_ := Aside0.mk (Kd.R_elder' (by (with_reducible repeat (first | apply rA | apply rN | apply rD)); exact HO110.out) (Kd.R_base ho1) hb); have n2_ := Aside0.mk (Kd.R_lower (Kd.R_new' ho0 (Kd.R_lt (by (with_reducible repeat (first | apply rA | apply rN | apply rD)); exact HO107.out))) (below_size (by repeat (first | (with_reducible first | exact HB.out | apply wA | apply wN | apply wD | refine below_set ?_ GE101.out) | exact HB.out)))); have n3_ := Aside0.mk (Kd.R_lower (Kd.R_new' ho1 (Kd.R_lt (by (with_reducible repeat (first | apply rA | apply rN | apply rD)); exact HO110.out))) (below_size (by repeat (first | (with_reducible first | exact HB.out | apply wA | apply wN | apply wD | refine below_set ?_ GE101.out) | exact HB.out)))); have n4_ := Aside0.mk (bB (g := gb101) (o := .cells #[.slice A0_0 l0_0.length c0_0, .slice A0_1 l0_1.length c0_1] 25 (0, 0)) (by (with_reducible repeat (first | refine bN ?_ _ | refine bD ?_ | refine bA ?_ _)); exact BK101.out) hb); have n5_ := Aside0.mk (wS (by repeat (first | (with_reducible first | exact HB.out | apply wA | apply wN | apply wD | refine below_set ?_ GE101.out) | exact HB.out)) hb); clear HO107; clear HO110; clear BK101; clear HB; have HO107 := n0_; have HO110 := n1_; have HO113 := n2_; have HO116 := n3_; have BK101 := n4_; have HB := n5_; clear n0_ n1_ n2_ n3_ n4_ n5_; (try clear hb); (try clear hb2); (try clear hk); (try clear hi); (try clear ho0); (try clear ho1)) | ((with_reducible refine gate_dst (N := 5) rfl ?_); refine box_event ?hg (N := 5) ?hd (cs := #[.slice none 0 0, .slice none 0 0]) (t := 25) ?hr ?_; (case hd => rfl); (case hg => rfl); (case hr => first | (go_simp; done) | (go_simp; rfl)); intro gb119 hg w32 hbox hb; have n0_ := Aside0.mk (rB (by (with_reducible repeat (first | apply rA | apply rN | apply rD)); exact HO107.out) hb); have n1_ := Aside0.mk (rB (by (with_reducible repeat (first | apply rA | apply rN | apply rD)); exact HO110.out) hb); have n2_ := Aside0.mk (rB (by (with_reducible repeat (first | apply rA | apply rN | apply rD)); exact HO113.out) hb); have n3_ := Aside0.mk (rB (by (with_reducible repeat (first | apply rA | apply rN | apply rD)); exact HO116.out) hb); have n4_ := Aside0.mk (bB (g := gb101) (o := .cells #[.slice A0_0 l0_0.length c0_0, .slice A0_1 l0_1.length c0_1] 25 (0, 0)) (by (with_reducible repeat (first | refine bN ?_ _ | refine bD ?_ | refine bA ?_ _)); exact BK101.out) hb); have n5_ := Aside0.mk (wS (by repeat (first | (with_reducible first | exact HB.out | apply wA | apply wN | apply wD | refine below_set ?_ GE101.out) | exact HB.out)) hb); have n6_ := Aside0.mk (hbox); have n7_ := Aside0.mk ((by rw [hg]; exact (below_size (by repeat (first | (with_reducible first | exact HB.out | apply wA | apply wN | apply wD | refine below_set ?_ GE101.out) | exact HB.out))) : w.heap.size ≤ gb119)); have n8_ := Aside0.mk ((by rw [hg]; exact (below_size (by repeat (first | (with_reducible first | exact HB.out | apply wA | apply wN | apply wD | refine below_set ?_ GE101.out) | exact HB.out))) : w.heap.size ≤ gb119)); have n9_ := Aside0.mk ((by rw [hg]; exact Nat.ne_of_lt (blk_lt (g := gb101) (o := .cells #[.slice A0_0 l0_0.length c0_0, .slice A0_1 l0_1.length c0_1] 25 (0, 0)) (by (with_reducible repeat (first | refine bN ?_ _ | refine bD ?_ | refine bA ?_ _)); exact BK101.out)) : gb101 ≠ gb119)); have n10_ := Aside0.mk ((by rw [hg]; exact Nat.ne_of_gt (blk_lt (g := gb101) (o := .cells #[.slice A0_0 l0_0.length c0_0, .slice A0_1 l0_1.length c0_1] 25 (0, 0)) (by (with_reducible repeat (first | refine bN ?_ _ | refine bD ?_ | refine bA ?_ _)); exact BK101.out)) : gb119 ≠ gb101)); clear HO107; clear HO110; clear HO113; clear HO116; clear BK101; clear HB; have HO107 := n0_; have HO110 := n1_; have HO113 := n2_; have HO116 := n3_; have BK101 := n4_; have HB := n5_; have BK119 := n6_; have GW119 := n7_; have GE119 := n8_; have NB101_119 := n9_; have NB119_101 := n10_; clear n0_ n1_ n2_ n3_ n4_ n5_ n6_ n7_ n8_ n9_ n10_; clear hb hbox hg; obtain ⟨Ao33, co33, eo33⟩ := Kd.R_slice HO113.out; subst eo33; have hnb34 := NB119_101.out; have hnc34 := NB101_119.out; have hcz35_0 : w32.cell? ⟨gb119, 0, none⟩ = some (.slice none 0 0) := (blk_cell BK119.out 0).trans rfl; have hcz35_1 : w32.cell? ⟨gb119, 1, none⟩ = some (.slice none 0 0) := (blk_cell BK119.out 1).trans rfl; have hfz35_0 := blk_frozen BK119.out 0; have hfz35_1 := blk_frozen BK119.out 1; obtain ⟨Ao36, co36, eo36⟩ := Kd.R_slice HO116.out; subst eo36; have hcz37_0 : w32.cell? ⟨gb101, 0, none⟩ = some (.slice A0_0 l0_0.length c0_0) := (blk_cell BK101.out 0).trans rfl; have hcz37_1 : w32.cell? ⟨gb101, 1, none⟩ = some (.slice A0_1 l0_1.length c0_1) := (blk_cell BK101.out 1).trans rfl; have hfz37_0 := blk_frozen BK101.out 0; have hfz37_1 := blk_frozen BK101.out 1) | ((with_reducible refine gate_callee (f := 25) rfl ?_); refine goesL_ (some 30) rfl rfl Try.func25 (by kernel_rfl) rfl #[.agg #[.slice A0_0 l0_0.length c0_0, .slice A0_1 l0_1.length c0_1], .int .i64 a1] rfl aM ?_; (with_reducible refine (scarfjointref05_AddNode.calls k _ _ l0_0 _ _ l0_1 a1 t120 t123 t126 t127 _ ?side1 ?side2 ?side3 ?side4 A9.out).mono ?_); (case side1 => exact cB HR0_0.out (by repeat (first | (with_reducible first | exact HB.out | apply wA | apply wN | apply wD | refine below_set ?_ GE101.out | refine below_set ?_ GE119.out) | exact HB.out))); (case side2 => exact HC0_0.out); (case side3 => exact cB HR0_1.out (by repeat (first | (with_reducible first | exact HB.out | apply wA | apply wN | apply wD | refine below_set ?_ GE101.out | refine below_set ?_ GE119.out) | exact HB.out))); (case side4 => exact HC0_1.out); rintro e w38 ⟨v121, v124, rfl, ho0, ho1, hb⟩; refine ⟨_, rfl, ?_⟩; have n0_ := Aside0.mk (Kd.R_elder' (by (with_reducible repeat (first | apply rA | apply rN | apply rD)); exact (Kd.R_mono (Kd.R_far (p := ⟨gb119, 1, none⟩) (Kd.R_far (p := ⟨gb119, 0, none⟩) (Kd.R_types HO107.out BK119.out (by decide)) (fun _ hk => hk.2) (.slice Ao33 t111.length co33)) (fun _ hk => hk.2) (.slice Ao36 t114.length co36)) (fun _ h_ => h_.1))) (Kd.R_base ho0) hb); have n1_ := Aside0.mk (Kd.R_elder' (by (with_reducible repeat (first | apply rA | apply rN | apply rD)); exact (Kd.R_mono (Kd.R_far (p := ⟨gb119, 1, none⟩) (Kd.R_far (p := ⟨gb119, 0, none⟩) (Kd.R_types HO110.out BK119.out (by decide)) (fun _ hk => hk.2) (.slice Ao33 t111.length co33)) (fun _ hk => hk.2) (.slice Ao36 t114.length co36)) (fun _ h_ => h_.1))) (Kd.R_base ho1) hb); have n2_ := Aside0.mk (Kd.R_elder' (by (with_reducible repeat (first | apply rA | apply rN | apply rD)); exact (Kd.R_mono (Kd.R_far (p := ⟨gb119, 1, none⟩) (Kd.R_far (p := ⟨gb119, 0, none⟩) (Kd.R_types HO113.out BK119.out (by decide)) (fun _ hk => hk.2) (.slice Ao33 t111.length co33)) (fun _ hk => hk.2) (.slice Ao36 t114.length co36)) (fun _ h_ => h_.1))) (Kd.R_base ho0) hb); have n3_ := Aside0.mk (Kd.R_elder' (by (with_reducible repeat (first | apply rA | apply rN | apply rD)); exact (Kd.R_mono (Kd.R_far (p := ⟨gb119, 1, none⟩) (Kd.R_far (p := ⟨gb119, 0, none⟩) (Kd.R_types HO116.out BK119.out (by decide)) (fun _ hk => hk.2) (.slice Ao33 t111.length co33)) (fun _ hk => hk.2) (.slice Ao36 t114.length co36)) (fun _ h_ => h_.1))) (Kd.R_base ho1) hb); have n4_ := Aside0.mk (Kd.R_lower (Kd.R_new' (Kd.R_new' ho0 (Kd.R_lt (by (with_reducible repeat (first | apply rA | apply rN | apply rD)); exact (Kd.R_mono (Kd.R_far (p := ⟨gb119, 1, none⟩) (Kd.R_far (p := ⟨gb119, 0, none⟩) (Kd.R_types HO107.out BK119.out (by decide)) (fun _ hk => hk.2) (.slice Ao33 t111.length co33)) (fun _ hk => hk.2) (.slice Ao36 t114.length co36)) (fun _ h_ => h_.1))))) (Kd.R_lt (by (with_reducible repeat (first | apply rA | apply rN | apply rD)); exact (Kd.R_mono (Kd.R_far (p := ⟨gb119, 1, none⟩) (Kd.R_far (p := ⟨gb119, 0, none⟩) (Kd.R_types HO113.out BK119.out (by decide)) (fun _ hk => hk.2) (.slice Ao33 t111.length co33)) (fun _ hk => hk.2) (.slice Ao36 t114.length co36)) (fun _ h_ => h_.1))))) (below_size (by repeat (first | (with_reducible first | exact HB.out | apply wA | apply wN | apply wD | refine below_set ?_ GE101.out | refine below_set ?_ GE119.out) | exact HB.out)))); have n5_ := Aside0.mk (Kd.R_lower (Kd.R_new' (Kd.R_new' ho1 (Kd.R_lt (by (with_reducible repeat (first | apply rA | apply rN | apply rD)); exact (Kd.R_mono (Kd.R_far (p := ⟨gb119, 1, none⟩) (Kd.R_far (p := ⟨gb119, 0, none⟩) (Kd.R_types HO110.out BK119.out (by decide)) (fun _ hk => hk.2) (.slice Ao33 t111.length co33)) (fun _ hk => hk.2) (.slice Ao36 t114.length co36)) (fun _ h_ => h_.1))))) (Kd.R_lt (by (with_reducible repeat (first | apply rA | apply rN | apply rD)); exact (Kd.R_mono (Kd.R_far (p := ⟨gb119, 1, none⟩) (Kd.R_far (p := ⟨gb119, 0, none⟩) (Kd.R_types HO116.out BK119.out (by decide)) (fun _ hk => hk.2) (.slice Ao33 t111.length co33)) (fun _ hk => hk.2) (.slice Ao36 t114.length co36)) (fun _ h_ => h_.1))))) (below_size (by repeat (first | (with_reducible first | exact HB.out | apply wA | apply wN | apply wD | refine below_set ?_ GE101.out | refine below_set ?_ GE119.out) | exact HB.out)))); have n6_ := Aside0.mk (bB (g := gb101) (o := .cells #[.slice A0_0 l0_0.length c0_0, .slice A0_1 l0_1.length c0_1] 25 (0, 0)) (by (with_reducible repeat (first | refine bN ?_ _ | refine bD ?_ | refine bA ?_ _)); refine blk_far ?_ NB101_119.out _; (with_reducible repeat (first | refine bN ?_ _ | refine bD ?_ | refine bA ?_ _)); refine blk_far ?_ NB101_119.out _; (with_reducible repeat (first | refine bN ?_ _ | refine bD ?_ | refine bA ?_ _)); exact BK101.out) hb); have n7_ := Aside0.mk (bB (g := gb119) (o := .cells #[.slice Ao33 t111.length co33, .slice Ao36 t114.length co36] 25 (0, 0)) (by (with_reducible repeat (first | refine bN ?_ _ | refine bD ?_ | refine bA ?_ _)); refine blk_put (cs := #[.slice Ao33 t111.length co33, .slice none 0 0]) ?_ 1 _ rfl; (with_reducible repeat (first | refine bN ?_ _ | refine bD ?_ | refine bA ?_ _)); refine blk_put (cs := #[.slice none 0 0, .slice none 0 0]) ?_ 0 _ rfl; (with_reducible repeat (first | refine bN ?_ _ | refine bD ?_ | refine bA ?_ _)); exact BK119.out) hb); have n8_ := Aside0.mk (wS (by repeat (first | (with_reducible first | exact HB.out | apply wA | apply wN | apply wD | refine below_set ?_ GE101.out | refine below_set ?_ GE119.out) | exact HB.out)) hb); clear HO107; clear HO110; clear HO113; clear HO116; clear BK101; clear BK119; clear HB; have HO107 := n0_; have HO110 := n1_; have HO113 := n2_; have HO116 := n3_; have HO122 := n4_; have HO125 := n5_; have BK101 := n6_; have BK119 := n7_; have HB := n8_; clear n0_ n1_ n2_ n3_ n4_ n5_ n6_ n7_ n8_; (try clear hb); (try clear hb2); (try clear hk); (try clear hi); (try clear ho0); (try clear ho1)) | ((with_reducible refine gate_dst (N := 8) rfl ?_); refine box_event ?hg (N := 8) ?hd (cs := #[.slice none 0 0, .slice none 0 0]) (t := 25) ?hr ?_; (case hd => rfl); (case hg => rfl); (case hr => first | (go_simp; done) | (go_simp; rfl)); intro gb128 hg w39 hbox hb; have n0_ := Aside0.mk (rB (by (with_reducible repeat (first | apply rA | apply rN | apply rD)); exact HO107.out) hb); have n1_ := Aside0.mk (rB (by (with_reducible repeat (first | apply rA | apply rN | apply rD)); exact HO110.out) hb); have n2_ := Aside0.mk (rB (by (with_reducible repeat (first | apply rA | apply rN | apply rD)); exact HO113.out) hb); have n3_ := Aside0.mk (rB (by (with_reducible repeat (first | apply rA | apply rN | apply rD)); exact HO116.out) hb); have n4_ := Aside0.mk (rB (by (with_reducible repeat (first | apply rA | apply rN | apply rD)); exact HO122.out) hb); have n5_ := Aside0.mk (rB (by (with_reducible repeat (first | apply rA | apply rN | apply rD)); exact HO125.out) hb); have n6_ := Aside0.mk (bB (g := gb101) (o := .cells #[.slice A0_0 l0_0.length c0_0, .slice A0_1 l0_1.length c0_1] 25 (0, 0)) (by (with_reducible repeat (first | refine bN ?_ _ | refine bD ?_ | refine bA ?_ _)); exact BK101.out) hb); have n7_ := Aside0.mk (bB (g := gb119) (o := .cells #[.slice Ao33 t111.length co33, .slice Ao36 t114.length co36] 25 (0, 0)) (by (with_reducible repeat (first | refine bN ?_ _ | refine bD ?_ | refine bA ?_ _)); exact BK119.out) hb); have n8_ := Aside0.mk (wS (by repeat (first | (with_reducible first | exact HB.out | apply wA | apply wN | apply wD | refine below_set ?_ GE101.out | refine below_set ?_ GE119.out) | exact HB.out)) hb); have n9_ := Aside0.mk (hbox); have n10_ := Aside0.mk ((by rw [hg]; exact (below_size (by repeat (first | (with_reducible first | exact HB.out | apply wA | apply wN | apply wD | refine below_set ?_ GE101.out | refine below_set ?_ GE119.out) | exact HB.out))) : w.heap.size ≤ gb128)); have n11_ := Aside0.mk ((by rw [hg]; exact (below_size (by repeat (first | (with_reducible first | exact HB.out | apply wA | apply wN | apply wD | refine below_set ?_ GE101.out | refine below_set ?_ GE119.out) | exact HB.out))) : w.heap.size ≤ gb128)); have n12_ := Aside0.mk ((by rw [hg]; exact Nat.ne_of_lt (blk_lt (g := gb101) (o := .cells #[.slice A0_0 l0_0.length c0_0, .slice A0_1 l0_1.length c0_1] 25 (0, 0)) (by (with_reducible repeat (first | refine bN ?_ _ | refine bD ?_ | refine bA ?_ _)); exact BK101.out)) : gb101 ≠ gb128)); have n13_ := Aside0.mk ((by rw [hg]; exact Nat.ne_of_gt (blk_lt (g := gb101) (o := .cells #[.slice A0_0 l0_0.length c0_0, .slice A0_1 l0_1.length c0_1] 25 (0, 0)) (by (with_reducible repeat (first | refine bN ?_ _ | refine bD ?_ | refine bA ?_ _)); exact BK101.out)) : gb128 ≠ gb101)); have n14_ := Aside0.mk ((by rw [hg]; exact Nat.ne_of_lt (blk_lt (g := gb119) (o := .cells #[.slice Ao33 t111.length co33, .slice Ao36 t114.length co36] 25 (0, 0)) (by (with_reducible repeat (first | refine bN ?_ _ | refine bD ?_ | refine bA ?_ _)); exact BK119.out)) : gb119 ≠ gb128)); have n15_ := Aside0.mk ((by rw [hg]; exact Nat.ne_of_gt (blk_lt (g := gb119) (o := .cells #[.slice Ao33 t111.length co33, .slice Ao36 t114.length co36] 25 (0, 0)) (by (with_reducible repeat (first | refine bN ?_ _ | refine bD ?_ | refine bA ?_ _)); exact BK119.out)) : gb128 ≠ gb119)); clear HO107; clear HO110; clear HO113; clear HO116; clear HO122; clear HO125; clear BK101; clear BK119; clear HB; have HO107 := n0_; have HO110 := n1_; have HO113 := n2_; have HO116 := n3_; have HO122 := n4_; have HO125 := n5_; have BK101 := n6_; have BK119 := n7_; have HB := n8_; have BK128 := n9_; have GW128 := n10_; have GE128 := n11_; have NB101_128 := n12_; have NB128_101 := n13_; have NB119_128 := n14_; have NB128_119 := n15_; clear n0_ n1_ n2_ n3_ n4_ n5_ n6_ n7_ n8_ n9_ n10_ n11_ n12_ n13_ n14_ n15_; clear hb hbox hg; obtain ⟨Ao40, co40, eo40⟩ := Kd.R_slice HO122.out; subst eo40; have hnb41 := NB128_101.out; have hnc41 := NB101_128.out; have hnb42 := NB128_119.out; have hnc42 := NB119_128.out; have hcz43_0 : w39.cell? ⟨gb128, 0, none⟩ = some (.slice none 0 0) := (blk_cell BK128.out 0).trans rfl; have hcz43_1 : w39.cell? ⟨gb128, 1, none⟩ = some (.slice none 0 0) := (blk_cell BK128.out 1).trans rfl; have hfz43_0 := blk_frozen BK128.out 0; have hfz43_1 := blk_frozen BK128.out 1; obtain ⟨Ao44, co44, eo44⟩ := Kd.R_slice HO125.out; subst eo44))
         have n0_ : Aside0 (Kd.R (Kd.int .i64) 3 ((w39.setCell ⟨gb128, 0, none⟩ (.slice Ao40 t120.length co40)).setCell ⟨gb128, 1, none⟩ (.slice Ao44 t123.length co44)) w.heap.size (fun k_ => some k_ ≠ (.slice Ao33 t111.length co33 : Value).ownBlock ∧ some k_ ≠ (.slice Ao40 t120.length co40 : Value).ownBlock) (.slice Ao29 t105.length co29) t105) := ⟨by (with_reducible repeat (first | apply rA | apply rN | apply rD)); exact Kd.R_mono (Kd.R_far (p := ⟨gb128, 1, none⟩) (Kd.R_far (p := ⟨gb128, 0, none⟩) (Kd.R_types HO107.out BK128.out (by decide)) (fun _ hk => hk.2) (.slice Ao40 t120.length co40)) (fun _ hk => hk.2) (.slice Ao44 t123.length co44)) (fun _ hk => ⟨hk.1.1.2, hk.1.2⟩)⟩
         have n1_ : Aside0 (Kd.R k38 38 ((w39.setCell ⟨gb128, 0, none⟩ (.slice Ao40 t120.length co40)).setCell ⟨gb128, 1, none⟩ (.slice Ao44 t123.length co44)) w.heap.size (fun k_ => some k_ ≠ (.slice Ao36 t114.length co36 : Value).ownBlock ∧ some k_ ≠ (.slice Ao44 t123.length co44 : Value).ownBlock) (.slice Ao30 t108.length co30) t108) := ⟨by (with_reducible repeat (first | apply rA | apply rN | apply rD)); exact Kd.R_mono (Kd.R_far (p := ⟨gb128, 1, none⟩) (Kd.R_far (p := ⟨gb128, 0, none⟩) (Kd.R_types HO110.out BK128.out (by decide)) (fun _ hk => hk.2) (.slice Ao40 t120.length co40)) (fun _ hk => hk.2) (.slice Ao44 t123.length co44)) (fun _ hk => ⟨hk.1.1.2, hk.1.2⟩)⟩
         have n2_ : Aside0 (Kd.R (Kd.int .i64) 3 ((w39.setCell ⟨gb128, 0, none⟩ (.slice Ao40 t120.length co40)).setCell ⟨gb128, 1, none⟩ (.slice Ao44 t123.length co44)) w.heap.size (fun k_ => some k_ ≠ (.slice Ao29 t105.length co29 : Value).ownBlock ∧ some k_ ≠ (.slice Ao40 t120.length co40 : Value).ownBlock) (.slice Ao33 t111.length co33) t111) := ⟨by (with_reducible repeat (first | apply rA | apply rN | apply rD)); exact Kd.R_mono (Kd.R_far (p := ⟨gb128, 1, none⟩) (Kd.R_far (p := ⟨gb128, 0, none⟩) (Kd.R_types HO113.out BK128.out (by decide)) (fun _ hk => hk.2) (.slice Ao40 t120.length co40)) (fun _ hk => hk.2) (.slice Ao44 t123.length co44)) (fun _ hk => ⟨hk.1.1.2, hk.1.2⟩)⟩
         have n3_ : Aside0 (Kd.R k38 38 ((w39.setCell ⟨gb128, 0, none⟩ (.slice Ao40 t120.length co40)).setCell ⟨gb128, 1, none⟩ (.slice Ao44 t123.length co44)) w.heap.size (fun k_ => some k_ ≠ (.slice Ao30 t108.length co30 : Value).ownBlock ∧ some k_ ≠ (.slice Ao44 t123.length co44 : Value).ownBlock) (.slice Ao36 t114.length co36) t114) := ⟨by (with_reducible repeat (first | apply rA | apply rN | apply rD)); exact Kd.R_mono (Kd.R_far (p := ⟨gb128, 1, none⟩) (Kd.R_far (p := ⟨gb128, 0, none⟩) (Kd.R_types HO116.out BK128.out (by decide)) (fun _ hk => hk.2) (.slice Ao40 t120.length co40)) (fun _ hk => hk.2) (.slice Ao44 t123.length co44)) (fun _ hk => ⟨hk.1.1.2, hk.1.2⟩)⟩
         have n4_ : Aside0 (Kd.R (Kd.int .i64) 3 ((w39.setCell ⟨gb128, 0, none⟩ (.slice Ao40 t120.length co40)).setCell ⟨gb128, 1, none⟩ (.slice Ao44 t123.length co44)) w.heap.size (fun k_ => some k_ ≠ (.slice Ao29 t105.length co29 : Value).ownBlock ∧ some k_ ≠ (.slice Ao33 t111.length co33 : Value).ownBlock) (.slice Ao40 t120.length co40) t120) := ⟨by (with_reducible repeat (first | apply rA | apply rN | apply rD)); exact Kd.R_mono (Kd.R_far (p := ⟨gb128, 1, none⟩) (Kd.R_far (p := ⟨gb128, 0, none⟩) (Kd.R_types HO122.out BK128.out (by decide)) (fun _ hk => hk.2) (.slice Ao40 t120.length co40)) (fun _ hk => hk.2) (.slice Ao44 t123.length co44)) (fun _ hk => ⟨hk.1.1.2, hk.1.2⟩)⟩
         have n5_ : Aside0 (Kd.R k38 38 ((w39.setCell ⟨gb128, 0, none⟩ (.slice Ao40 t120.length co40)).setCell ⟨gb128, 1, none⟩ (.slice Ao44 t123.length co44)) w.heap.size (fun k_ => some k_ ≠ (.slice Ao30 t108.length co30 : Value).ownBlock ∧ some k_ ≠ (.slice Ao36 t114.length co36 : Value).ownBlock) (.slice Ao44 t123.length co44) t123) := ⟨by (with_reducible repeat (first | apply rA | apply rN | apply rD)); exact Kd.R_mono (Kd.R_far (p := ⟨gb128, 1, none⟩) (Kd.R_far (p := ⟨gb128, 0, none⟩) (Kd.R_types HO125.out BK128.out (by decide)) (fun _ hk => hk.2) (.slice Ao40 t120.length co40)) (fun _ hk => hk.2) (.slice Ao44 t123.length co44)) (fun _ hk => ⟨hk.1.1.2, hk.1.2⟩)⟩
         have n6_ : Aside0 (((w39.setCell ⟨gb128, 0, none⟩ (.slice Ao40 t120.length co40)).setCell ⟨gb128, 1, none⟩ (.slice Ao44 t123.length co44)).heap[gb101]? = some (.cells #[.slice A0_0 l0_0.length c0_0, .slice A0_1 l0_1.length c0_1] 25 (0, 0))) := ⟨by (with_reducible repeat (first | refine bN ?_ _ | refine bD ?_ | refine bA ?_ _)); refine blk_far ?_ NB101_128.out _; (with_reducible repeat (first | refine bN ?_ _ | refine bD ?_ | refine bA ?_ _)); refine blk_far ?_ NB101_128.out _; (with_reducible repeat (first | refine bN ?_ _ | refine bD ?_ | refine bA ?_ _)); exact BK101.out⟩
         have n7_ : Aside0 (((w39.setCell ⟨gb128, 0, none⟩ (.slice Ao40 t120.length co40)).setCell ⟨gb128, 1, none⟩ (.slice Ao44 t123.length co44)).heap[gb119]? = some (.cells #[.slice Ao33 t111.length co33, .slice Ao36 t114.length co36] 25 (0, 0))) := ⟨by (with_reducible repeat (first | refine bN ?_ _ | refine bD ?_ | refine bA ?_ _)); refine blk_far ?_ NB119_128.out _; (with_reducible repeat (first | refine bN ?_ _ | refine bD ?_ | refine bA ?_ _)); refine blk_far ?_ NB119_128.out _; (with_reducible repeat (first | refine bN ?_ _ | refine bD ?_ | refine bA ?_ _)); exact BK119.out⟩
         have n8_ : Aside0 (((w39.setCell ⟨gb128, 0, none⟩ (.slice Ao40 t120.length co40)).setCell ⟨gb128, 1, none⟩ (.slice Ao44 t123.length co44)).heap[gb128]? = some (.cells #[.slice Ao40 t120.length co40, .slice Ao44 t123.length co44] 25 (0, 0))) := ⟨by (with_reducible repeat (first | refine bN ?_ _ | refine bD ?_ | refine bA ?_ _)); refine blk_put (cs := #[.slice Ao40 t120.length co40, .slice none 0 0]) ?_ 1 _ rfl; (with_reducible repeat (first | refine bN ?_ _ | refine bD ?_ | refine bA ?_ _)); refine blk_put (cs := #[.slice none 0 0, .slice none 0 0]) ?_ 0 _ rfl; (with_reducible repeat (first | refine bN ?_ _ | refine bD ?_ | refine bA ?_ _)); exact BK128.out⟩
         have n9_ : Aside0 (Below w.heap.size w ((w39.setCell ⟨gb128, 0, none⟩ (.slice Ao40 t120.length co40)).setCell ⟨gb128, 1, none⟩ (.slice Ao44 t123.length co44))) := ⟨by repeat (first | (with_reducible first | exact HB.out | apply wA | apply wN | apply wD | refine below_set ?_ GE101.out | refine below_set ?_ GE119.out | refine below_set ?_ GE128.out) | exact HB.out)⟩
         (try clear HO107)
         (try clear HO110)
         (try clear HO113)
         (try clear HO116)
         (try clear HO122)
         (try clear HO125)
         (try clear BK101)
         (try clear BK119)
         (try clear BK128)
         (try clear HB)
         generalize ((w39.setCell ⟨gb128, 0, none⟩ (.slice Ao40 t120.length co40)).setCell ⟨gb128, 1, none⟩ (.slice Ao44 t123.length co44)) = w45 at n0_ n1_ n2_ n3_ n4_ n5_ n6_ n7_ n8_ n9_ ⊢
         have HO107 := n0_
         have HO110 := n1_
         have HO113 := n2_
         have HO116 := n3_
         have HO122 := n4_
         have HO125 := n5_
         have BK101 := n6_
         have BK119 := n7_
         have BK128 := n8_
         have HB := n9_
         clear n0_ n1_ n2_ n3_ n4_ n5_ n6_ n7_ n8_ n9_
         have n0_ := Aside0.mk (rD HO107.out)
         have n1_ := Aside0.mk (rD HO110.out)
         have n2_ := Aside0.mk (rD HO113.out)
         have n3_ := Aside0.mk (rD HO116.out)
         have n4_ := Aside0.mk (rD HO122.out)
         have n5_ := Aside0.mk (rD HO125.out)
         have n6_ := Aside0.mk (bD BK101.out)
         have n7_ := Aside0.mk (bD BK119.out)
         have n8_ := Aside0.mk (bD BK128.out)
         have n9_ := Aside0.mk (wD HB.out)
         clear HO107
         clear HO110
         clear HO113
         clear HO116
         clear HO122
         clear HO125
         clear BK101
         clear BK119
         clear BK128
         clear HB
         have HO107 := n0_
         have HO110 := n1_
         have HO113 := n2_
         have HO116 := n3_
         have HO122 := n4_
         have HO125 := n5_
         have BK101 := n6_
         have BK119 := n7_
         have BK128 := n8_
         have HB := n9_
         clear n0_ n1_ n2_ n3_ n4_ n5_ n6_ n7_ n8_ n9_
         refine start_ (n := 38) (S := fun w' => w'.cell? ⟨gb101, 0, none⟩ = some (.slice A0_0 l0_0.length c0_0) ∧ w'.cell? ⟨gb101, 1, none⟩ = some (.slice A0_1 l0_1.length c0_1) ∧ w'.cell? ⟨gb119, 0, none⟩ = some (.slice Ao33 t111.length co33) ∧ w'.cell? ⟨gb119, 1, none⟩ = some (.slice Ao36 t114.length co36) ∧ w'.cell? ⟨gb128, 0, none⟩ = some (.slice Ao40 t120.length co40) ∧ w'.cell? ⟨gb128, 1, none⟩ = some (.slice Ao44 t123.length co44)) (ds := []) #[false, false, false, false, false, false, false, false, false, false, false, false, false, false, false, false, false, false, false, false, false, false, false, false, false, false, false, false, false, false, false, false, false, false, false, false, false, false] (by kernel_rfl) rfl rfl ⟨(blk_cell BK101.out 0).trans rfl, (blk_cell BK101.out 1).trans rfl, (blk_cell BK119.out 0).trans rfl, (blk_cell BK119.out 1).trans rfl, (blk_cell BK128.out 0).trans rfl, (blk_cell BK128.out 1).trans rfl⟩ (fun hHeld => ?_); refine with_tabW scarfjointlaw05_GraphAdd.tab5 scarfjointlaw05_GraphAdd.bits5 (fun HT_ HW_ => ?_)
         generalize w45.drew = w46 at HO107 HO110 HO113 HO116 HO122 HO125 BK101 BK119 BK128 HB hHeld ⊢
         refine take_ (i := 0) (N := some 34) (v := ?_) (a' := ?_) #[true, false, false, false, false, false, false, false, false, false, false, false, false, false, false, false, false, false, false, false, false, false, false, false, false, false, false, false, false, false, false, false, false, false, false, false, false, false] rfl rfl (take_ofW HT_.out HW_.out (by kernel_rfl)) (fun _ _ _ h => h) (Or.inl ⟨by rfl, ?_⟩) hHeld ?_ ?_
         rotate_left
         ·rintro w' ⟨s0, s1, s2, s3, s4, s5⟩
          go_simp
          with_reducible rfl
         rotate_left
         ·simp only [Act.put, List.setIfInBounds_toArray, List.set_cons_zero, List.set_cons_succ, i64_w, i32_w]
          rfl
         refine take_ (i := 3) (N := some 37) (v := ?_) (a' := ?_) #[true, false, false, true, false, false, false, false, false, false, false, false, false, false, false, false, false, false, false, false, false, false, false, false, false, false, false, false, false, false, false, false, false, false, false, false, false, false] rfl rfl (take_ofW HT_.out HW_.out (by kernel_rfl)) (fun _ _ _ h => h) (Or.inl ⟨by rfl, ?_⟩) hHeld ?_ ?_
         rotate_left
         ·rintro w' ⟨s0, s1, s2, s3, s4, s5⟩
          go_simp
          with_reducible rfl
         rotate_left
         ·simp only [Act.put, List.setIfInBounds_toArray, List.set_cons_zero, List.set_cons_succ, i64_w, i32_w]
          rfl
         refine one_ (i := 1) (N := some 35) #[true, true, false, true, false, false, false, false, false, false, false, false, false, false, false, false, false, false, false, false, false, false, false, false, false, false, false, false, false, false, false, false, false, false, false, false, false, false] rfl rfl (one_of HT_.out (by kernel_rfl)) (by decide) (fun K hK => ?_)
         refine goes_ Try.func13 (by kernel_rfl) rfl #[.agg #[.slice A0_0 l0_0.length c0_0, .slice A0_1 l0_1.length c0_1]] (by rfl) rfl rfl aM ?_
         with_reducible refine (scarfjointref05_Copied.calls _ _ l0_0 _ _ l0_1 t129 t132 _ ?side1 ?side2 ?side3 ?side4 A10.out).mono ?_
         (case side1 => repeat (first | exact (cB HR0_0.out HB.out) | (with_reducible refine cA ?_ _) | (with_reducible refine cN ?_ _) | (with_reducible refine cD ?_)))
         (case side2 => exact HC0_0.out)
         (case side3 => repeat (first | exact (cB HR0_1.out HB.out) | (with_reducible refine cA ?_ _) | (with_reducible refine cN ?_ _) | (with_reducible refine cD ?_)))
         (case side4 => exact HC0_1.out)
         rintro e w47 ⟨v130, v133, rfl, ho0, ho1, hb⟩
         refine ⟨_, rfl, ?_⟩
         have n0_ := Aside0.mk (Kd.R_elder' (by (with_reducible repeat (first | apply rA | apply rN | apply rD)); exact HO107.out) (Kd.R_base ho0) hb)
         have n1_ := Aside0.mk (Kd.R_elder' (by (with_reducible repeat (first | apply rA | apply rN | apply rD)); exact HO110.out) (Kd.R_base ho1) hb)
         have n2_ := Aside0.mk (Kd.R_elder' (by (with_reducible repeat (first | apply rA | apply rN | apply rD)); exact HO113.out) (Kd.R_base ho0) hb)
         have n3_ := Aside0.mk (Kd.R_elder' (by (with_reducible repeat (first | apply rA | apply rN | apply rD)); exact HO116.out) (Kd.R_base ho1) hb)
         have n4_ := Aside0.mk (Kd.R_elder' (by (with_reducible repeat (first | apply rA | apply rN | apply rD)); exact HO122.out) (Kd.R_base ho0) hb)
         have n5_ := Aside0.mk (Kd.R_elder' (by (with_reducible repeat (first | apply rA | apply rN | apply rD)); exact HO125.out) (Kd.R_base ho1) hb)
         have n6_ := Aside0.mk (Kd.R_lower (Kd.R_new' (Kd.R_new' (Kd.R_new' ho0 (Kd.R_lt (by (with_reducible repeat (first | apply rA | apply rN | apply rD)); exact HO107.out))) (Kd.R_lt (by (with_reducible repeat (first | apply rA | apply rN | apply rD)); exact HO113.out))) (Kd.R_lt (by (with_reducible repeat (first | apply rA | apply rN | apply rD)); exact HO122.out))) (below_size (by repeat (first | (with_reducible first | exact HB.out | apply wA | apply wN | apply wD | refine below_set ?_ GE101.out | refine below_set ?_ GE119.out | refine below_set ?_ GE128.out) | exact HB.out))))
         have n7_ := Aside0.mk (Kd.R_lower (Kd.R_new' (Kd.R_new' (Kd.R_new' ho1 (Kd.R_lt (by (with_reducible repeat (first | apply rA | apply rN | apply rD)); exact HO110.out))) (Kd.R_lt (by (with_reducible repeat (first | apply rA | apply rN | apply rD)); exact HO116.out))) (Kd.R_lt (by (with_reducible repeat (first | apply rA | apply rN | apply rD)); exact HO125.out))) (below_size (by repeat (first | (with_reducible first | exact HB.out | apply wA | apply wN | apply wD | refine below_set ?_ GE101.out | refine below_set ?_ GE119.out | refine below_set ?_ GE128.out) | exact HB.out))))
         have n8_ := Aside0.mk (bB (g := gb101) (o := .cells #[.slice A0_0 l0_0.length c0_0, .slice A0_1 l0_1.length c0_1] 25 (0, 0)) (by (with_reducible repeat (first | refine bN ?_ _ | refine bD ?_ | refine bA ?_ _)); exact BK101.out) hb)
         have n9_ := Aside0.mk (bB (g := gb119) (o := .cells #[.slice Ao33 t111.length co33, .slice Ao36 t114.length co36] 25 (0, 0)) (by (with_reducible repeat (first | refine bN ?_ _ | refine bD ?_ | refine bA ?_ _)); exact BK119.out) hb)
         have n10_ := Aside0.mk (bB (g := gb128) (o := .cells #[.slice Ao40 t120.length co40, .slice Ao44 t123.length co44] 25 (0, 0)) (by (with_reducible repeat (first | refine bN ?_ _ | refine bD ?_ | refine bA ?_ _)); exact BK128.out) hb)
         have n11_ := Aside0.mk (wS (by repeat (first | (with_reducible first | exact HB.out | apply wA | apply wN | apply wD | refine below_set ?_ GE101.out | refine below_set ?_ GE119.out | refine below_set ?_ GE128.out) | exact HB.out)) hb)
         clear HO107
         clear HO110
         clear HO113
         clear HO116
         clear HO122
         clear HO125
         clear BK101
         clear BK119
         clear BK128
         clear HB
         have HO107 := n0_
         have HO110 := n1_
         have HO113 := n2_
         have HO116 := n3_
         have HO122 := n4_
         have HO125 := n5_
         have HO131 := n6_
         have HO134 := n7_
         have BK101 := n8_
         have BK119 := n9_
         have BK128 := n10_
         have HB := n11_
         clear n0_ n1_ n2_ n3_ n4_ n5_ n6_ n7_ n8_ n9_ n10_ n11_
         (try clear hb)
         (try clear hb2)
         (try clear hk)
         (try clear hi)
         (try clear ho0)
         (try clear ho1)
         obtain ⟨Ao48, co48, eo48⟩ := Kd.R_slice HO131.out
         (first | subst eo48 | (injection eo48 with f1_ f2_ f3_; have f4_ := f1_.symm; have f5_ := f3_.symm; clear f1_ f2_ f3_; subst f4_; subst f5_))
         obtain ⟨Ao49, co49, eo49⟩ := Kd.R_slice HO134.out
         (first | subst eo49 | (injection eo49 with f1_ f2_ f3_; have f4_ := f1_.symm; have f5_ := f3_.symm; clear f1_ f2_ f3_; subst f4_; subst f5_))
         refine hK.out _ _ ⟨(blk_cell BK101.out 0).trans rfl, (blk_cell BK101.out 1).trans rfl, (blk_cell BK119.out 0).trans rfl, (blk_cell BK119.out 1).trans rfl, (blk_cell BK128.out 0).trans rfl, (blk_cell BK128.out 1).trans rfl⟩ (fun hHeld => ?_)
         clear hK K
         refine norm_ (a' := ?_) ?_ ?_
         rotate_left
         ·show Act.put _ (some 35) _ = _
          simp only [Act.put, List.setIfInBounds_toArray, List.set_cons_zero, List.set_cons_succ, i64_w, i32_w]
          rfl
         refine one_ (i := 2) (N := some 36) #[true, true, true, true, false, false, false, false, false, false, false, false, false, false, false, false, false, false, false, false, false, false, false, false, false, false, false, false, false, false, false, false, false, false, false, false, false, false] rfl rfl (one_of HT_.out (by kernel_rfl)) (by decide) (fun K hK => ?_)
         refine goes_ Try.func26 (by kernel_rfl) rfl #[.agg #[.slice Ao48 t129.length co48, .slice Ao49 t132.length co49]] (by rfl) rfl rfl aM ?_
         with_reducible refine (graph_Valid.calls _ _ t129 _ _ t132 t135 _ ?side1 ?side2 ?side3 ?side4 A11.out).mono ?_
         (case side1 => repeat (first | exact (Kd.R_reads' HO131.out).2.2 | (with_reducible refine cA ?_ _) | (with_reducible refine cN ?_ _) | (with_reducible refine cD ?_)))
         (case side2 => exact (Kd.R_reads' HO131.out).2.1)
         (case side3 => repeat (first | exact (Kd.R_reads' HO134.out).2.2 | (with_reducible refine cA ?_ _) | (with_reducible refine cN ?_ _) | (with_reducible refine cD ?_)))
         (case side4 => exact (Kd.R_reads' HO134.out).2.1)
         rintro e w50 ⟨rfl, hb⟩
         refine ⟨_, rfl, ?_⟩
         have n0_ := Aside0.mk (rB (by (with_reducible repeat (first | apply rA | apply rN | apply rD)); exact HO107.out) hb)
         have n1_ := Aside0.mk (rB (by (with_reducible repeat (first | apply rA | apply rN | apply rD)); exact HO110.out) hb)
         have n2_ := Aside0.mk (rB (by (with_reducible repeat (first | apply rA | apply rN | apply rD)); exact HO113.out) hb)
         have n3_ := Aside0.mk (rB (by (with_reducible repeat (first | apply rA | apply rN | apply rD)); exact HO116.out) hb)
         have n4_ := Aside0.mk (rB (by (with_reducible repeat (first | apply rA | apply rN | apply rD)); exact HO122.out) hb)
         have n5_ := Aside0.mk (rB (by (with_reducible repeat (first | apply rA | apply rN | apply rD)); exact HO125.out) hb)
         have n6_ := Aside0.mk (rB (by (with_reducible repeat (first | apply rA | apply rN | apply rD)); exact HO131.out) hb)
         have n7_ := Aside0.mk (rB (by (with_reducible repeat (first | apply rA | apply rN | apply rD)); exact HO134.out) hb)
         have n8_ := Aside0.mk (bB (g := gb101) (o := .cells #[.slice A0_0 l0_0.length c0_0, .slice A0_1 l0_1.length c0_1] 25 (0, 0)) (by (with_reducible repeat (first | refine bN ?_ _ | refine bD ?_ | refine bA ?_ _)); exact BK101.out) hb)
         have n9_ := Aside0.mk (bB (g := gb119) (o := .cells #[.slice Ao33 t111.length co33, .slice Ao36 t114.length co36] 25 (0, 0)) (by (with_reducible repeat (first | refine bN ?_ _ | refine bD ?_ | refine bA ?_ _)); exact BK119.out) hb)
         have n10_ := Aside0.mk (bB (g := gb128) (o := .cells #[.slice Ao40 t120.length co40, .slice Ao44 t123.length co44] 25 (0, 0)) (by (with_reducible repeat (first | refine bN ?_ _ | refine bD ?_ | refine bA ?_ _)); exact BK128.out) hb)
         have n11_ := Aside0.mk (wS (by repeat (first | (with_reducible first | exact HB.out | apply wA | apply wN | apply wD | refine below_set ?_ GE101.out | refine below_set ?_ GE119.out | refine below_set ?_ GE128.out) | exact HB.out)) hb)
         clear HO107
         clear HO110
         clear HO113
         clear HO116
         clear HO122
         clear HO125
         clear HO131
         clear HO134
         clear BK101
         clear BK119
         clear BK128
         clear HB
         have HO107 := n0_
         have HO110 := n1_
         have HO113 := n2_
         have HO116 := n3_
         have HO122 := n4_
         have HO125 := n5_
         have HO131 := n6_
         have HO134 := n7_
         have BK101 := n8_
         have BK119 := n9_
         have BK128 := n10_
         have HB := n11_
         clear n0_ n1_ n2_ n3_ n4_ n5_ n6_ n7_ n8_ n9_ n10_ n11_
         (try clear hb)
         (try clear hb2)
         (try clear hk)
         (try clear hi)
         refine hK.out _ _ ⟨(blk_cell BK101.out 0).trans rfl, (blk_cell BK101.out 1).trans rfl, (blk_cell BK119.out 0).trans rfl, (blk_cell BK119.out 1).trans rfl, (blk_cell BK128.out 0).trans rfl, (blk_cell BK128.out 1).trans rfl⟩ (fun hHeld => ?_)
         clear hK K
         refine norm_ (a' := ?_) ?_ ?_
         rotate_left
         ·show Act.put _ (some 36) _ = _
          simp only [Act.put, List.setIfInBounds_toArray, List.set_cons_zero, List.set_cons_succ, i64_w, i32_w]
          rfl
         refine one_ (i := 4) (N := some 38) #[true, true, true, true, true, false, false, false, false, false, false, false, false, false, false, false, false, false, false, false, false, false, false, false, false, false, false, false, false, false, false, false, false, false, false, false, false, false] rfl rfl (one_of HT_.out (by kernel_rfl)) (by decide) (fun K hK => ?_)
         refine goes_ Try.func27 (by kernel_rfl) rfl #[.agg #[.slice A0_0 l0_0.length c0_0, .slice A0_1 l0_1.length c0_1]] (by rfl) rfl rfl aM ?_
         with_reducible refine (scarfjointref05_Valid.calls k _ _ l0_0 _ _ l0_1 t136 _ ?side1 ?side2 ?side3 ?side4 A12.out).mono ?_
         (case side1 => repeat (first | exact (cB HR0_0.out HB.out) | (with_reducible refine cA ?_ _) | (with_reducible refine cN ?_ _) | (with_reducible refine cD ?_)))
         (case side2 => exact HC0_0.out)
         (case side3 => repeat (first | exact (cB HR0_1.out HB.out) | (with_reducible refine cA ?_ _) | (with_reducible refine cN ?_ _) | (with_reducible refine cD ?_)))
         (case side4 => exact HC0_1.out)
         rintro e w51 ⟨rfl, hb⟩
         refine ⟨_, rfl, ?_⟩
         have n0_ := Aside0.mk (rB (by (with_reducible repeat (first | apply rA | apply rN | apply rD)); exact HO107.out) hb)
         have n1_ := Aside0.mk (rB (by (with_reducible repeat (first | apply rA | apply rN | apply rD)); exact HO110.out) hb)
         have n2_ := Aside0.mk (rB (by (with_reducible repeat (first | apply rA | apply rN | apply rD)); exact HO113.out) hb)
         have n3_ := Aside0.mk (rB (by (with_reducible repeat (first | apply rA | apply rN | apply rD)); exact HO116.out) hb)
         have n4_ := Aside0.mk (rB (by (with_reducible repeat (first | apply rA | apply rN | apply rD)); exact HO122.out) hb)
         have n5_ := Aside0.mk (rB (by (with_reducible repeat (first | apply rA | apply rN | apply rD)); exact HO125.out) hb)
         have n6_ := Aside0.mk (rB (by (with_reducible repeat (first | apply rA | apply rN | apply rD)); exact HO131.out) hb)
         have n7_ := Aside0.mk (rB (by (with_reducible repeat (first | apply rA | apply rN | apply rD)); exact HO134.out) hb)
         have n8_ := Aside0.mk (bB (g := gb101) (o := .cells #[.slice A0_0 l0_0.length c0_0, .slice A0_1 l0_1.length c0_1] 25 (0, 0)) (by (with_reducible repeat (first | refine bN ?_ _ | refine bD ?_ | refine bA ?_ _)); exact BK101.out) hb)
         have n9_ := Aside0.mk (bB (g := gb119) (o := .cells #[.slice Ao33 t111.length co33, .slice Ao36 t114.length co36] 25 (0, 0)) (by (with_reducible repeat (first | refine bN ?_ _ | refine bD ?_ | refine bA ?_ _)); exact BK119.out) hb)
         have n10_ := Aside0.mk (bB (g := gb128) (o := .cells #[.slice Ao40 t120.length co40, .slice Ao44 t123.length co44] 25 (0, 0)) (by (with_reducible repeat (first | refine bN ?_ _ | refine bD ?_ | refine bA ?_ _)); exact BK128.out) hb)
         have n11_ := Aside0.mk (wS (by repeat (first | (with_reducible first | exact HB.out | apply wA | apply wN | apply wD | refine below_set ?_ GE101.out | refine below_set ?_ GE119.out | refine below_set ?_ GE128.out) | exact HB.out)) hb)
         clear HO107
         clear HO110
         clear HO113
         clear HO116
         clear HO122
         clear HO125
         clear HO131
         clear HO134
         clear BK101
         clear BK119
         clear BK128
         clear HB
         have HO107 := n0_
         have HO110 := n1_
         have HO113 := n2_
         have HO116 := n3_
         have HO122 := n4_
         have HO125 := n5_
         have HO131 := n6_
         have HO134 := n7_
         have BK101 := n8_
         have BK119 := n9_
         have BK128 := n10_
         have HB := n11_
         clear n0_ n1_ n2_ n3_ n4_ n5_ n6_ n7_ n8_ n9_ n10_ n11_
         (try clear hb)
         (try clear hb2)
         (try clear hk)
         (try clear hi)
         refine hK.out _ _ ⟨(blk_cell BK101.out 0).trans rfl, (blk_cell BK101.out 1).trans rfl, (blk_cell BK119.out 0).trans rfl, (blk_cell BK119.out 1).trans rfl, (blk_cell BK128.out 0).trans rfl, (blk_cell BK128.out 1).trans rfl⟩ (fun hHeld => ?_)
         clear hK K
         refine norm_ (a' := ?_) ?_ ?_
         rotate_left
         ·show Act.put _ (some 38) _ = _
          simp only [Act.put, List.setIfInBounds_toArray, List.set_cons_zero, List.set_cons_succ, i64_w, i32_w]
          rfl
         refine pure_ (i := 5) (N := some 39) (v := ?_) (a' := ?_) #[true, true, true, true, true, true, false, false, false, false, false, false, false, false, false, false, false, false, false, false, false, false, false, false, false, false, false, false, false, false, false, false, false, false, false, false, false, false] rfl rfl (any_of HT_.out (by kernel_rfl)) (fun _ _ _ h => h) (Or.inl ⟨by rfl, ?_⟩) ?_ ?_
         rotate_left
         ·intro w'
          go_simp
          with_reducible rfl
         rotate_left
         ·simp only [Act.put, List.setIfInBounds_toArray, List.set_cons_zero, List.set_cons_succ, i64_w, i32_w]
          rfl
         refine pure_ (i := 6) (N := some 40) (v := ?_) (a' := ?_) #[true, true, true, true, true, true, true, false, false, false, false, false, false, false, false, false, false, false, false, false, false, false, false, false, false, false, false, false, false, false, false, false, false, false, false, false, false, false] rfl rfl (any_of HT_.out (by kernel_rfl)) (fun _ _ _ h => h) (Or.inl ⟨by rfl, ?_⟩) ?_ ?_
         rotate_left
         ·intro w'
          go_simp
          with_reducible rfl
         rotate_left
         ·simp only [Act.put, List.setIfInBounds_toArray, List.set_cons_zero, List.set_cons_succ, i64_w, i32_w]
          rfl
         refine pure_ (i := 7) (N := some 41) (v := ?_) (a' := ?_) #[true, true, true, true, true, true, true, true, false, false, false, false, false, false, false, false, false, false, false, false, false, false, false, false, false, false, false, false, false, false, false, false, false, false, false, false, false, false] rfl rfl (any_of HT_.out (by kernel_rfl)) (fun _ _ _ h => h) (Or.inl ⟨by rfl, ?_⟩) ?_ ?_
         rotate_left
         ·intro w'
          go_simp
          with_reducible rfl
         rotate_left
         ·simp only [Act.put, List.setIfInBounds_toArray, List.set_cons_zero, List.set_cons_succ, i64_w, i32_w]
          rfl
         refine pure_ (i := 8) (N := some 42) (v := ?_) (a' := ?_) #[true, true, true, true, true, true, true, true, true, false, false, false, false, false, false, false, false, false, false, false, false, false, false, false, false, false, false, false, false, false, false, false, false, false, false, false, false, false] rfl rfl (any_of HT_.out (by kernel_rfl)) (fun _ _ _ h => h) (Or.inl ⟨by rfl, ?_⟩) ?_ ?_
         rotate_left
         ·intro w'
          go_simp
          with_reducible rfl
         rotate_left
         ·simp only [Act.put, List.setIfInBounds_toArray, List.set_cons_zero, List.set_cons_succ, i64_w, i32_w]
          rfl
         refine pure_ (i := 9) (N := some 43) (v := ?_) (a' := ?_) #[true, true, true, true, true, true, true, true, true, true, false, false, false, false, false, false, false, false, false, false, false, false, false, false, false, false, false, false, false, false, false, false, false, false, false, false, false, false] rfl rfl (any_of HT_.out (by kernel_rfl)) (fun _ _ _ h => h) (Or.inl ⟨by rfl, ?_⟩) ?_ ?_
         rotate_left
         ·intro w'
          go_simp
          with_reducible rfl
         rotate_left
         ·simp only [Act.put, List.setIfInBounds_toArray, List.set_cons_zero, List.set_cons_succ, i64_w, i32_w]
          rfl
         refine pure_ (i := 10) (N := some 44) (v := ?_) (a' := ?_) #[true, true, true, true, true, true, true, true, true, true, true, false, false, false, false, false, false, false, false, false, false, false, false, false, false, false, false, false, false, false, false, false, false, false, false, false, false, false] rfl rfl (any_of HT_.out (by kernel_rfl)) (fun _ _ _ h => h) (Or.inl ⟨by rfl, ?_⟩) ?_ ?_
         rotate_left
         ·intro w'
          go_simp
          with_reducible rfl
         rotate_left
         ·simp only [Act.put, List.setIfInBounds_toArray, List.set_cons_zero, List.set_cons_succ, i64_w, i32_w]
          rfl
         refine pure_ (i := 11) (N := some 45) (v := ?_) (a' := ?_) #[true, true, true, true, true, true, true, true, true, true, true, true, false, false, false, false, false, false, false, false, false, false, false, false, false, false, false, false, false, false, false, false, false, false, false, false, false, false] rfl rfl (any_of HT_.out (by kernel_rfl)) (fun _ _ _ h => h) (Or.inl ⟨by rfl, ?_⟩) ?_ ?_
         rotate_left
         ·intro w'
          go_simp
          with_reducible rfl
         rotate_left
         ·simp only [Act.put, List.setIfInBounds_toArray, List.set_cons_zero, List.set_cons_succ, i64_w, i32_w]
          rfl
         refine pure_ (i := 12) (N := some 46) (v := ?_) (a' := ?_) #[true, true, true, true, true, true, true, true, true, true, true, true, true, false, false, false, false, false, false, false, false, false, false, false, false, false, false, false, false, false, false, false, false, false, false, false, false, false] rfl rfl (any_of HT_.out (by kernel_rfl)) (fun _ _ _ h => h) (Or.inl ⟨by rfl, ?_⟩) ?_ ?_
         rotate_left
         ·intro w'
          go_simp
          with_reducible rfl
         rotate_left
         ·simp only [Act.put, List.setIfInBounds_toArray, List.set_cons_zero, List.set_cons_succ, i64_w, i32_w]
          rfl
         refine pure_ (i := 13) (N := some 47) (v := ?_) (a' := ?_) #[true, true, true, true, true, true, true, true, true, true, true, true, true, true, false, false, false, false, false, false, false, false, false, false, false, false, false, false, false, false, false, false, false, false, false, false, false, false] rfl rfl (any_of HT_.out (by kernel_rfl)) (fun _ _ _ h => h) (Or.inl ⟨by rfl, ?_⟩) ?_ ?_
         rotate_left
         ·intro w'
          go_simp
          with_reducible rfl
         rotate_left
         ·simp only [Act.put, List.setIfInBounds_toArray, List.set_cons_zero, List.set_cons_succ, i64_w, i32_w]
          rfl
         refine pure_ (i := 14) (N := some 48) (v := ?_) (a' := ?_) #[true, true, true, true, true, true, true, true, true, true, true, true, true, true, true, false, false, false, false, false, false, false, false, false, false, false, false, false, false, false, false, false, false, false, false, false, false, false] rfl rfl (any_of HT_.out (by kernel_rfl)) (fun _ _ _ h => h) (Or.inl ⟨by rfl, ?_⟩) ?_ ?_
         rotate_left
         ·intro w'
          go_simp
          with_reducible rfl
         rotate_left
         ·simp only [Act.put, List.setIfInBounds_toArray, List.set_cons_zero, List.set_cons_succ, i64_w, i32_w]
          rfl
         refine pure_ (i := 15) (N := some 49) (v := ?_) (a' := ?_) #[true, true, true, true, true, true, true, true, true, true, true, true, true, true, true, true, false, false, false, false, false, false, false, false, false, false, false, false, false, false, false, false, false, false, false, false, false, false] rfl rfl (any_of HT_.out (by kernel_rfl)) (fun _ _ _ h => h) (Or.inl ⟨by rfl, ?_⟩) ?_ ?_
         rotate_left
         ·intro w'
          go_simp
          with_reducible rfl
         rotate_left
         ·simp only [Act.put, List.setIfInBounds_toArray, List.set_cons_zero, List.set_cons_succ, i64_w, i32_w]
          rfl
         refine pure_ (i := 16) (N := some 50) (v := ?_) (a' := ?_) #[true, true, true, true, true, true, true, true, true, true, true, true, true, true, true, true, true, false, false, false, false, false, false, false, false, false, false, false, false, false, false, false, false, false, false, false, false, false] rfl rfl (any_of HT_.out (by kernel_rfl)) (fun _ _ _ h => h) (Or.inl ⟨by rfl, ?_⟩) ?_ ?_
         rotate_left
         ·intro w'
          go_simp
          with_reducible rfl
         rotate_left
         ·simp only [Act.put, List.setIfInBounds_toArray, List.set_cons_zero, List.set_cons_succ, i64_w, i32_w]
          rfl
         refine take_ (i := 17) (N := some 51) (v := ?_) (a' := ?_) #[true, true, true, true, true, true, true, true, true, true, true, true, true, true, true, true, true, true, false, false, false, false, false, false, false, false, false, false, false, false, false, false, false, false, false, false, false, false] rfl rfl (take_ofW HT_.out HW_.out (by kernel_rfl)) (fun _ _ _ h => h) (Or.inl ⟨by rfl, ?_⟩) hHeld ?_ ?_
         rotate_left
         ·rintro w' ⟨s0, s1, s2, s3, s4, s5⟩
          go_simp
          with_reducible rfl
         rotate_left
         ·simp only [Act.put, List.setIfInBounds_toArray, List.set_cons_zero, List.set_cons_succ, i64_w, i32_w]
          rfl
         refine take_ (i := 18) (N := some 52) (v := ?_) (a' := ?_) #[true, true, true, true, true, true, true, true, true, true, true, true, true, true, true, true, true, true, true, false, false, false, false, false, false, false, false, false, false, false, false, false, false, false, false, false, false, false] rfl rfl (take_ofW HT_.out HW_.out (by kernel_rfl)) (fun _ _ _ h => h) (Or.inl ⟨by rfl, ?_⟩) hHeld ?_ ?_
         rotate_left
         ·rintro w' ⟨s0, s1, s2, s3, s4, s5⟩
          go_simp
          with_reducible rfl
         rotate_left
         ·simp only [Act.put, List.setIfInBounds_toArray, List.set_cons_zero, List.set_cons_succ, i64_w, i32_w]
          rfl
         refine one_ (i := 19) (N := some 53) #[true, true, true, true, true, true, true, true, true, true, true, true, true, true, true, true, true, true, true, true, false, false, false, false, false, false, false, false, false, false, false, false, false, false, false, false, false, false] rfl rfl (one_of HT_.out (by kernel_rfl)) (by decide) (fun K hK => ?_)
         refine goes_ Try.func16 (by kernel_rfl) rfl #[.agg #[.slice Ao33 t111.length co33, .slice Ao36 t114.length co36], .agg #[.slice Ao40 t120.length co40, .slice Ao44 t123.length co44]] (by rfl) rfl rfl aM ?_
         with_reducible refine (scarfjointref05_Same.calls k _ _ t111 _ _ t114 _ _ t120 _ _ t123 true _ ?side1 ?side2 ?side3 ?side4 ?side5 ?side6 ?side7 ?side8 A16.out).mono ?_
         (case side1 => repeat (first | exact (Kd.R_reads' HO113.out).2.2 | (with_reducible refine cA ?_ _) | (with_reducible refine cN ?_ _) | (with_reducible refine cD ?_)))
         (case side2 => exact (Kd.R_reads' HO113.out).2.1)
         (case side3 => repeat (first | exact (Kd.R_reads' HO116.out).2.2 | (with_reducible refine cA ?_ _) | (with_reducible refine cN ?_ _) | (with_reducible refine cD ?_)))
         (case side4 => exact (Kd.R_reads' HO116.out).2.1)
         (case side5 => repeat (first | exact (Kd.R_reads' HO122.out).2.2 | (with_reducible refine cA ?_ _) | (with_reducible refine cN ?_ _) | (with_reducible refine cD ?_)))
         (case side6 => exact (Kd.R_reads' HO122.out).2.1)
         (case side7 => repeat (first | exact (Kd.R_reads' HO125.out).2.2 | (with_reducible refine cA ?_ _) | (with_reducible refine cN ?_ _) | (with_reducible refine cD ?_)))
         (case side8 => exact (Kd.R_reads' HO125.out).2.1)
         rintro e w52 ⟨rfl, hb⟩
         refine ⟨_, rfl, ?_⟩
         have n0_ := Aside0.mk (rB (by (with_reducible repeat (first | apply rA | apply rN | apply rD)); exact HO107.out) hb)
         have n1_ := Aside0.mk (rB (by (with_reducible repeat (first | apply rA | apply rN | apply rD)); exact HO110.out) hb)
         have n2_ := Aside0.mk (rB (by (with_reducible repeat (first | apply rA | apply rN | apply rD)); exact HO113.out) hb)
         have n3_ := Aside0.mk (rB (by (with_reducible repeat (first | apply rA | apply rN | apply rD)); exact HO116.out) hb)
         have n4_ := Aside0.mk (rB (by (with_reducible repeat (first | apply rA | apply rN | apply rD)); exact HO122.out) hb)
         have n5_ := Aside0.mk (rB (by (with_reducible repeat (first | apply rA | apply rN | apply rD)); exact HO125.out) hb)
         have n6_ := Aside0.mk (rB (by (with_reducible repeat (first | apply rA | apply rN | apply rD)); exact HO131.out) hb)
         have n7_ := Aside0.mk (rB (by (with_reducible repeat (first | apply rA | apply rN | apply rD)); exact HO134.out) hb)
         have n8_ := Aside0.mk (bB (g := gb101) (o := .cells #[.slice A0_0 l0_0.length c0_0, .slice A0_1 l0_1.length c0_1] 25 (0, 0)) (by (with_reducible repeat (first | refine bN ?_ _ | refine bD ?_ | refine bA ?_ _)); exact BK101.out) hb)
         have n9_ := Aside0.mk (bB (g := gb119) (o := .cells #[.slice Ao33 t111.length co33, .slice Ao36 t114.length co36] 25 (0, 0)) (by (with_reducible repeat (first | refine bN ?_ _ | refine bD ?_ | refine bA ?_ _)); exact BK119.out) hb)
         have n10_ := Aside0.mk (bB (g := gb128) (o := .cells #[.slice Ao40 t120.length co40, .slice Ao44 t123.length co44] 25 (0, 0)) (by (with_reducible repeat (first | refine bN ?_ _ | refine bD ?_ | refine bA ?_ _)); exact BK128.out) hb)
         have n11_ := Aside0.mk (wS (by repeat (first | (with_reducible first | exact HB.out | apply wA | apply wN | apply wD | refine below_set ?_ GE101.out | refine below_set ?_ GE119.out | refine below_set ?_ GE128.out) | exact HB.out)) hb)
         clear HO107
         clear HO110
         clear HO113
         clear HO116
         clear HO122
         clear HO125
         clear HO131
         clear HO134
         clear BK101
         clear BK119
         clear BK128
         clear HB
         have HO107 := n0_
         have HO110 := n1_
         have HO113 := n2_
         have HO116 := n3_
         have HO122 := n4_
         have HO125 := n5_
         have HO131 := n6_
         have HO134 := n7_
         have BK101 := n8_
         have BK119 := n9_
         have BK128 := n10_
         have HB := n11_
         clear n0_ n1_ n2_ n3_ n4_ n5_ n6_ n7_ n8_ n9_ n10_ n11_
         (try clear hb)
         (try clear hb2)
         (try clear hk)
         (try clear hi)
         refine hK.out _ _ ⟨(blk_cell BK101.out 0).trans rfl, (blk_cell BK101.out 1).trans rfl, (blk_cell BK119.out 0).trans rfl, (blk_cell BK119.out 1).trans rfl, (blk_cell BK128.out 0).trans rfl, (blk_cell BK128.out 1).trans rfl⟩ (fun hHeld => ?_)
         clear hK K
         refine norm_ (a' := ?_) ?_ ?_
         rotate_left
         ·show Act.put _ (some 53) _ = _
          simp only [Act.put, List.setIfInBounds_toArray, List.set_cons_zero, List.set_cons_succ, i64_w, i32_w]
          rfl
         refine pure_ (i := 20) (N := some 54) (v := ?_) (a' := ?_) #[true, true, true, true, true, true, true, true, true, true, true, true, true, true, true, true, true, true, true, true, true, false, false, false, false, false, false, false, false, false, false, false, false, false, false, false, false, false] rfl rfl (any_of HT_.out (by kernel_rfl)) (fun _ _ _ h => h) (Or.inl ⟨by rfl, ?_⟩) ?_ ?_
         rotate_left
         ·intro w'
          go_simp
          with_reducible rfl
         rotate_left
         ·simp only [Act.put, List.setIfInBounds_toArray, List.set_cons_zero, List.set_cons_succ, i64_w, i32_w]
          rfl
         refine pure_ (i := 21) (N := some 55) (v := ?_) (a' := ?_) #[true, true, true, true, true, true, true, true, true, true, true, true, true, true, true, true, true, true, true, true, true, true, false, false, false, false, false, false, false, false, false, false, false, false, false, false, false, false] rfl rfl (any_of HT_.out (by kernel_rfl)) (fun _ _ _ h => h) (Or.inl ⟨by rfl, ?_⟩) ?_ ?_
         rotate_left
         ·intro w'
          go_simp
          with_reducible rfl
         rotate_left
         ·simp only [Act.put, List.setIfInBounds_toArray, List.set_cons_zero, List.set_cons_succ, i64_w, i32_w]
          rfl
         refine take_ (i := 22) (N := some 56) (v := ?_) (a' := ?_) #[true, true, true, true, true, true, true, true, true, true, true, true, true, true, true, true, true, true, true, true, true, true, true, false, false, false, false, false, false, false, false, false, false, false, false, false, false, false] rfl rfl (take_ofW HT_.out HW_.out (by kernel_rfl)) (fun _ _ _ h => h) (Or.inl ⟨by rfl, ?_⟩) hHeld ?_ ?_
         rotate_left
         ·rintro w' ⟨s0, s1, s2, s3, s4, s5⟩
          go_simp
          with_reducible rfl
         rotate_left
         ·simp only [Act.put, List.setIfInBounds_toArray, List.set_cons_zero, List.set_cons_succ, i64_w, i32_w]
          rfl
         refine take_ (i := 23) (N := some 57) (v := ?_) (a' := ?_) #[true, true, true, true, true, true, true, true, true, true, true, true, true, true, true, true, true, true, true, true, true, true, true, true, false, false, false, false, false, false, false, false, false, false, false, false, false, false] rfl rfl (take_ofW HT_.out HW_.out (by kernel_rfl)) (fun _ _ _ h => h) (Or.inl ⟨by rfl, ?_⟩) hHeld ?_ ?_
         rotate_left
         ·rintro w' ⟨s0, s1, s2, s3, s4, s5⟩
          go_simp
          with_reducible rfl
         rotate_left
         ·simp only [Act.put, List.setIfInBounds_toArray, List.set_cons_zero, List.set_cons_succ, i64_w, i32_w]
          rfl
         refine one_ (i := 24) (N := some 58) #[true, true, true, true, true, true, true, true, true, true, true, true, true, true, true, true, true, true, true, true, true, true, true, true, true, false, false, false, false, false, false, false, false, false, false, false, false, false] rfl rfl (one_of HT_.out (by kernel_rfl)) (by decide) (fun K hK => ?_)
         refine goes_ Try.func13 (by kernel_rfl) rfl #[.agg #[.slice A0_0 l0_0.length c0_0, .slice A0_1 l0_1.length c0_1]] (by rfl) rfl rfl aM ?_
         with_reducible refine (scarfjointref05_Copied.calls _ _ l0_0 _ _ l0_1 t138 t141 _ ?side1 ?side2 ?side3 ?side4 A18.out).mono ?_
         (case side1 => repeat (first | exact (cB HR0_0.out HB.out) | (with_reducible refine cA ?_ _) | (with_reducible refine cN ?_ _) | (with_reducible refine cD ?_)))
         (case side2 => exact HC0_0.out)
         (case side3 => repeat (first | exact (cB HR0_1.out HB.out) | (with_reducible refine cA ?_ _) | (with_reducible refine cN ?_ _) | (with_reducible refine cD ?_)))
         (case side4 => exact HC0_1.out)
         rintro e w53 ⟨v139, v142, rfl, ho0, ho1, hb⟩
         refine ⟨_, rfl, ?_⟩
         have n0_ := Aside0.mk (Kd.R_elder' (by (with_reducible repeat (first | apply rA | apply rN | apply rD)); exact HO107.out) (Kd.R_base ho0) hb)
         have n1_ := Aside0.mk (Kd.R_elder' (by (with_reducible repeat (first | apply rA | apply rN | apply rD)); exact HO110.out) (Kd.R_base ho1) hb)
         have n2_ := Aside0.mk (Kd.R_elder' (by (with_reducible repeat (first | apply rA | apply rN | apply rD)); exact HO113.out) (Kd.R_base ho0) hb)
         have n3_ := Aside0.mk (Kd.R_elder' (by (with_reducible repeat (first | apply rA | apply rN | apply rD)); exact HO116.out) (Kd.R_base ho1) hb)
         have n4_ := Aside0.mk (Kd.R_elder' (by (with_reducible repeat (first | apply rA | apply rN | apply rD)); exact HO122.out) (Kd.R_base ho0) hb)
         have n5_ := Aside0.mk (Kd.R_elder' (by (with_reducible repeat (first | apply rA | apply rN | apply rD)); exact HO125.out) (Kd.R_base ho1) hb)
         have n6_ := Aside0.mk (Kd.R_elder' (by (with_reducible repeat (first | apply rA | apply rN | apply rD)); exact HO131.out) (Kd.R_base ho0) hb)
         have n7_ := Aside0.mk (Kd.R_elder' (by (with_reducible repeat (first | apply rA | apply rN | apply rD)); exact HO134.out) (Kd.R_base ho1) hb)
         have n8_ := Aside0.mk (Kd.R_lower (Kd.R_new' (Kd.R_new' (Kd.R_new' (Kd.R_new' ho0 (Kd.R_lt (by (with_reducible repeat (first | apply rA | apply rN | apply rD)); exact HO107.out))) (Kd.R_lt (by (with_reducible repeat (first | apply rA | apply rN | apply rD)); exact HO113.out))) (Kd.R_lt (by (with_reducible repeat (first | apply rA | apply rN | apply rD)); exact HO122.out))) (Kd.R_lt (by (with_reducible repeat (first | apply rA | apply rN | apply rD)); exact HO131.out))) (below_size (by repeat (first | (with_reducible first | exact HB.out | apply wA | apply wN | apply wD | refine below_set ?_ GE101.out | refine below_set ?_ GE119.out | refine below_set ?_ GE128.out) | exact HB.out))))
         have n9_ := Aside0.mk (Kd.R_lower (Kd.R_new' (Kd.R_new' (Kd.R_new' (Kd.R_new' ho1 (Kd.R_lt (by (with_reducible repeat (first | apply rA | apply rN | apply rD)); exact HO110.out))) (Kd.R_lt (by (with_reducible repeat (first | apply rA | apply rN | apply rD)); exact HO116.out))) (Kd.R_lt (by (with_reducible repeat (first | apply rA | apply rN | apply rD)); exact HO125.out))) (Kd.R_lt (by (with_reducible repeat (first | apply rA | apply rN | apply rD)); exact HO134.out))) (below_size (by repeat (first | (with_reducible first | exact HB.out | apply wA | apply wN | apply wD | refine below_set ?_ GE101.out | refine below_set ?_ GE119.out | refine below_set ?_ GE128.out) | exact HB.out))))
         have n10_ := Aside0.mk (bB (g := gb101) (o := .cells #[.slice A0_0 l0_0.length c0_0, .slice A0_1 l0_1.length c0_1] 25 (0, 0)) (by (with_reducible repeat (first | refine bN ?_ _ | refine bD ?_ | refine bA ?_ _)); exact BK101.out) hb)
         have n11_ := Aside0.mk (bB (g := gb119) (o := .cells #[.slice Ao33 t111.length co33, .slice Ao36 t114.length co36] 25 (0, 0)) (by (with_reducible repeat (first | refine bN ?_ _ | refine bD ?_ | refine bA ?_ _)); exact BK119.out) hb)
         have n12_ := Aside0.mk (bB (g := gb128) (o := .cells #[.slice Ao40 t120.length co40, .slice Ao44 t123.length co44] 25 (0, 0)) (by (with_reducible repeat (first | refine bN ?_ _ | refine bD ?_ | refine bA ?_ _)); exact BK128.out) hb)
         have n13_ := Aside0.mk (wS (by repeat (first | (with_reducible first | exact HB.out | apply wA | apply wN | apply wD | refine below_set ?_ GE101.out | refine below_set ?_ GE119.out | refine below_set ?_ GE128.out) | exact HB.out)) hb)
         clear HO107
         clear HO110
         clear HO113
         clear HO116
         clear HO122
         clear HO125
         clear HO131
         clear HO134
         clear BK101
         clear BK119
         clear BK128
         clear HB
         have HO107 := n0_
         have HO110 := n1_
         have HO113 := n2_
         have HO116 := n3_
         have HO122 := n4_
         have HO125 := n5_
         have HO131 := n6_
         have HO134 := n7_
         have HO140 := n8_
         have HO143 := n9_
         have BK101 := n10_
         have BK119 := n11_
         have BK128 := n12_
         have HB := n13_
         clear n0_ n1_ n2_ n3_ n4_ n5_ n6_ n7_ n8_ n9_ n10_ n11_ n12_ n13_
         (try clear hb)
         (try clear hb2)
         (try clear hk)
         (try clear hi)
         (try clear ho0)
         (try clear ho1)
         obtain ⟨Ao54, co54, eo54⟩ := Kd.R_slice HO140.out
         (first | subst eo54 | (injection eo54 with f1_ f2_ f3_; have f4_ := f1_.symm; have f5_ := f3_.symm; clear f1_ f2_ f3_; subst f4_; subst f5_))
         obtain ⟨Ao55, co55, eo55⟩ := Kd.R_slice HO143.out
         (first | subst eo55 | (injection eo55 with f1_ f2_ f3_; have f4_ := f1_.symm; have f5_ := f3_.symm; clear f1_ f2_ f3_; subst f4_; subst f5_))
         refine hK.out _ _ ⟨(blk_cell BK101.out 0).trans rfl, (blk_cell BK101.out 1).trans rfl, (blk_cell BK119.out 0).trans rfl, (blk_cell BK119.out 1).trans rfl, (blk_cell BK128.out 0).trans rfl, (blk_cell BK128.out 1).trans rfl⟩ (fun hHeld => ?_)
         clear hK K
         refine norm_ (a' := ?_) ?_ ?_
         rotate_left
         ·show Act.put _ (some 58) _ = _
          simp only [Act.put, List.setIfInBounds_toArray, List.set_cons_zero, List.set_cons_succ, i64_w, i32_w]
          rfl
         refine one_ (i := 25) (N := some 59) #[true, true, true, true, true, true, true, true, true, true, true, true, true, true, true, true, true, true, true, true, true, true, true, true, true, true, false, false, false, false, false, false, false, false, false, false, false, false] rfl rfl (one_of HT_.out (by kernel_rfl)) (by decide) (fun K hK => ?_)
         refine goes_ Try.func28 (by kernel_rfl) rfl #[.agg #[.slice A0_0 l0_0.length c0_0, .slice A0_1 l0_1.length c0_1], .agg #[.slice Ao54 t138.length co54, .slice Ao55 t141.length co55]] (by rfl) rfl rfl aM ?_
         with_reducible refine (graph_Same.calls k _ _ l0_0 _ _ l0_1 _ _ t138 _ _ t141 true _ ?side1 ?side2 ?side3 ?side4 ?side5 ?side6 ?side7 ?side8 A19.out).mono ?_
         (case side1 => repeat (first | exact (cB HR0_0.out HB.out) | (with_reducible refine cA ?_ _) | (with_reducible refine cN ?_ _) | (with_reducible refine cD ?_)))
         (case side2 => exact HC0_0.out)
         (case side3 => repeat (first | exact (cB HR0_1.out HB.out) | (with_reducible refine cA ?_ _) | (with_reducible refine cN ?_ _) | (with_reducible refine cD ?_)))
         (case side4 => exact HC0_1.out)
         (case side5 => repeat (first | exact (Kd.R_reads' HO140.out).2.2 | (with_reducible refine cA ?_ _) | (with_reducible refine cN ?_ _) | (with_reducible refine cD ?_)))
         (case side6 => exact (Kd.R_reads' HO140.out).2.1)
         (case side7 => repeat (first | exact (Kd.R_reads' HO143.out).2.2 | (with_reducible refine cA ?_ _) | (with_reducible refine cN ?_ _) | (with_reducible refine cD ?_)))
         (case side8 => exact (Kd.R_reads' HO143.out).2.1)
         rintro e w56 ⟨rfl, hb⟩
         refine ⟨_, rfl, ?_⟩
         have n0_ := Aside0.mk (rB (by (with_reducible repeat (first | apply rA | apply rN | apply rD)); exact HO107.out) hb)
         have n1_ := Aside0.mk (rB (by (with_reducible repeat (first | apply rA | apply rN | apply rD)); exact HO110.out) hb)
         have n2_ := Aside0.mk (rB (by (with_reducible repeat (first | apply rA | apply rN | apply rD)); exact HO113.out) hb)
         have n3_ := Aside0.mk (rB (by (with_reducible repeat (first | apply rA | apply rN | apply rD)); exact HO116.out) hb)
         have n4_ := Aside0.mk (rB (by (with_reducible repeat (first | apply rA | apply rN | apply rD)); exact HO122.out) hb)
         have n5_ := Aside0.mk (rB (by (with_reducible repeat (first | apply rA | apply rN | apply rD)); exact HO125.out) hb)
         have n6_ := Aside0.mk (rB (by (with_reducible repeat (first | apply rA | apply rN | apply rD)); exact HO131.out) hb)
         have n7_ := Aside0.mk (rB (by (with_reducible repeat (first | apply rA | apply rN | apply rD)); exact HO134.out) hb)
         have n8_ := Aside0.mk (rB (by (with_reducible repeat (first | apply rA | apply rN | apply rD)); exact HO140.out) hb)
         have n9_ := Aside0.mk (rB (by (with_reducible repeat (first | apply rA | apply rN | apply rD)); exact HO143.out) hb)
         have n10_ := Aside0.mk (bB (g := gb101) (o := .cells #[.slice A0_0 l0_0.length c0_0, .slice A0_1 l0_1.length c0_1] 25 (0, 0)) (by (with_reducible repeat (first | refine bN ?_ _ | refine bD ?_ | refine bA ?_ _)); exact BK101.out) hb)
         have n11_ := Aside0.mk (bB (g := gb119) (o := .cells #[.slice Ao33 t111.length co33, .slice Ao36 t114.length co36] 25 (0, 0)) (by (with_reducible repeat (first | refine bN ?_ _ | refine bD ?_ | refine bA ?_ _)); exact BK119.out) hb)
         have n12_ := Aside0.mk (bB (g := gb128) (o := .cells #[.slice Ao40 t120.length co40, .slice Ao44 t123.length co44] 25 (0, 0)) (by (with_reducible repeat (first | refine bN ?_ _ | refine bD ?_ | refine bA ?_ _)); exact BK128.out) hb)
         have n13_ := Aside0.mk (wS (by repeat (first | (with_reducible first | exact HB.out | apply wA | apply wN | apply wD | refine below_set ?_ GE101.out | refine below_set ?_ GE119.out | refine below_set ?_ GE128.out) | exact HB.out)) hb)
         clear HO107
         clear HO110
         clear HO113
         clear HO116
         clear HO122
         clear HO125
         clear HO131
         clear HO134
         clear HO140
         clear HO143
         clear BK101
         clear BK119
         clear BK128
         clear HB
         have HO107 := n0_
         have HO110 := n1_
         have HO113 := n2_
         have HO116 := n3_
         have HO122 := n4_
         have HO125 := n5_
         have HO131 := n6_
         have HO134 := n7_
         have HO140 := n8_
         have HO143 := n9_
         have BK101 := n10_
         have BK119 := n11_
         have BK128 := n12_
         have HB := n13_
         clear n0_ n1_ n2_ n3_ n4_ n5_ n6_ n7_ n8_ n9_ n10_ n11_ n12_ n13_
         (try clear hb)
         (try clear hb2)
         (try clear hk)
         (try clear hi)
         refine hK.out _ _ ⟨(blk_cell BK101.out 0).trans rfl, (blk_cell BK101.out 1).trans rfl, (blk_cell BK119.out 0).trans rfl, (blk_cell BK119.out 1).trans rfl, (blk_cell BK128.out 0).trans rfl, (blk_cell BK128.out 1).trans rfl⟩ (fun hHeld => ?_)
         clear hK K
         refine norm_ (a' := ?_) ?_ ?_
         rotate_left
         ·show Act.put _ (some 59) _ = _
          simp only [Act.put, List.setIfInBounds_toArray, List.set_cons_zero, List.set_cons_succ, i64_w, i32_w]
          rfl
         refine pure_ (i := 26) (N := some 60) (v := ?_) (a' := ?_) #[true, true, true, true, true, true, true, true, true, true, true, true, true, true, true, true, true, true, true, true, true, true, true, true, true, true, true, false, false, false, false, false, false, false, false, false, false, false] rfl rfl (any_of HT_.out (by kernel_rfl)) (fun _ _ _ h => h) (Or.inl ⟨by rfl, ?_⟩) ?_ ?_
         rotate_left
         ·intro w'
          go_simp
          with_reducible rfl
         rotate_left
         ·simp only [Act.put, List.setIfInBounds_toArray, List.set_cons_zero, List.set_cons_succ, i64_w, i32_w]
          rfl
         refine pure_ (i := 27) (N := some 61) (v := ?_) (a' := ?_) #[true, true, true, true, true, true, true, true, true, true, true, true, true, true, true, true, true, true, true, true, true, true, true, true, true, true, true, true, false, false, false, false, false, false, false, false, false, false] rfl rfl (any_of HT_.out (by kernel_rfl)) (fun _ _ _ h => h) (Or.inl ⟨by rfl, ?_⟩) ?_ ?_
         rotate_left
         ·intro w'
          go_simp
          with_reducible rfl
         rotate_left
         ·simp only [Act.put, List.setIfInBounds_toArray, List.set_cons_zero, List.set_cons_succ, i64_w, i32_w]
          rfl
         refine pure_ (i := 28) (N := some 62) (v := ?_) (a' := ?_) #[true, true, true, true, true, true, true, true, true, true, true, true, true, true, true, true, true, true, true, true, true, true, true, true, true, true, true, true, true, false, false, false, false, false, false, false, false, false] rfl rfl (any_of HT_.out (by kernel_rfl)) (fun _ _ _ h => h) (Or.inl ⟨by rfl, ?_⟩) ?_ ?_
         rotate_left
         ·intro w'
          go_simp
          with_reducible rfl
         rotate_left
         ·simp only [Act.put, List.setIfInBounds_toArray, List.set_cons_zero, List.set_cons_succ, i64_w, i32_w]
          rfl
         refine pure_ (i := 29) (N := some 63) (v := ?_) (a' := ?_) #[true, true, true, true, true, true, true, true, true, true, true, true, true, true, true, true, true, true, true, true, true, true, true, true, true, true, true, true, true, true, false, false, false, false, false, false, false, false] rfl rfl (any_of HT_.out (by kernel_rfl)) (fun _ _ _ h => h) (Or.inl ⟨by rfl, ?_⟩) ?_ ?_
         rotate_left
         ·intro w'
          go_simp
          with_reducible rfl
         rotate_left
         ·simp only [Act.put, List.setIfInBounds_toArray, List.set_cons_zero, List.set_cons_succ, i64_w, i32_w]
          rfl
         refine pure_ (i := 30) (N := some 64) (v := ?_) (a' := ?_) #[true, true, true, true, true, true, true, true, true, true, true, true, true, true, true, true, true, true, true, true, true, true, true, true, true, true, true, true, true, true, true, false, false, false, false, false, false, false] rfl rfl (any_of HT_.out (by kernel_rfl)) (fun _ _ _ h => h) (Or.inl ⟨by rfl, ?_⟩) ?_ ?_
         rotate_left
         ·intro w'
          go_simp
          with_reducible rfl
         rotate_left
         ·simp only [Act.put, List.setIfInBounds_toArray, List.set_cons_zero, List.set_cons_succ, i64_w, i32_w]
          rfl
         refine take_ (i := 31) (N := some 65) (v := ?_) (a' := ?_) #[true, true, true, true, true, true, true, true, true, true, true, true, true, true, true, true, true, true, true, true, true, true, true, true, true, true, true, true, true, true, true, true, false, false, false, false, false, false] rfl rfl (take_ofW HT_.out HW_.out (by kernel_rfl)) (fun _ _ _ h => h) (Or.inl ⟨by rfl, ?_⟩) hHeld ?_ ?_
         rotate_left
         ·rintro w' ⟨s0, s1, s2, s3, s4, s5⟩
          go_simp
          with_reducible rfl
         rotate_left
         ·simp only [Act.put, List.setIfInBounds_toArray, List.set_cons_zero, List.set_cons_succ, i64_w, i32_w]
          rfl
         refine take_ (i := 32) (N := some 66) (v := ?_) (a' := ?_) #[true, true, true, true, true, true, true, true, true, true, true, true, true, true, true, true, true, true, true, true, true, true, true, true, true, true, true, true, true, true, true, true, true, false, false, false, false, false] rfl rfl (take_ofW HT_.out HW_.out (by kernel_rfl)) (fun _ _ _ h => h) (Or.inl ⟨by rfl, ?_⟩) hHeld ?_ ?_
         rotate_left
         ·rintro w' ⟨s0, s1, s2, s3, s4, s5⟩
          go_simp
          with_reducible rfl
         rotate_left
         ·simp only [Act.put, List.setIfInBounds_toArray, List.set_cons_zero, List.set_cons_succ, i64_w, i32_w]
          rfl
         refine one_ (i := 33) (N := some 67) #[true, true, true, true, true, true, true, true, true, true, true, true, true, true, true, true, true, true, true, true, true, true, true, true, true, true, true, true, true, true, true, true, true, true, false, false, false, false] rfl rfl (one_of HT_.out (by kernel_rfl)) (by decide) (fun K hK => ?_)
         refine goes_ Try.func28 (by kernel_rfl) rfl #[.agg #[.slice A0_0 l0_0.length c0_0, .slice A0_1 l0_1.length c0_1], .agg #[.slice Ao33 t111.length co33, .slice Ao36 t114.length co36]] (by rfl) rfl rfl aM ?_
         with_reducible refine (graph_Same.calls k _ _ l0_0 _ _ l0_1 _ _ t111 _ _ t114 t145 _ ?side1 ?side2 ?side3 ?side4 ?side5 ?side6 ?side7 ?side8 A22.out).mono ?_
         (case side1 => repeat (first | exact (cB HR0_0.out HB.out) | (with_reducible refine cA ?_ _) | (with_reducible refine cN ?_ _) | (with_reducible refine cD ?_)))
         (case side2 => exact HC0_0.out)
         (case side3 => repeat (first | exact (cB HR0_1.out HB.out) | (with_reducible refine cA ?_ _) | (with_reducible refine cN ?_ _) | (with_reducible refine cD ?_)))
         (case side4 => exact HC0_1.out)
         (case side5 => repeat (first | exact (Kd.R_reads' HO113.out).2.2 | (with_reducible refine cA ?_ _) | (with_reducible refine cN ?_ _) | (with_reducible refine cD ?_)))
         (case side6 => exact (Kd.R_reads' HO113.out).2.1)
         (case side7 => repeat (first | exact (Kd.R_reads' HO116.out).2.2 | (with_reducible refine cA ?_ _) | (with_reducible refine cN ?_ _) | (with_reducible refine cD ?_)))
         (case side8 => exact (Kd.R_reads' HO116.out).2.1)
         rintro e w57 ⟨rfl, hb⟩
         refine ⟨_, rfl, ?_⟩
         have n0_ := Aside0.mk (rB (by (with_reducible repeat (first | apply rA | apply rN | apply rD)); exact HO107.out) hb)
         have n1_ := Aside0.mk (rB (by (with_reducible repeat (first | apply rA | apply rN | apply rD)); exact HO110.out) hb)
         have n2_ := Aside0.mk (rB (by (with_reducible repeat (first | apply rA | apply rN | apply rD)); exact HO113.out) hb)
         have n3_ := Aside0.mk (rB (by (with_reducible repeat (first | apply rA | apply rN | apply rD)); exact HO116.out) hb)
         have n4_ := Aside0.mk (rB (by (with_reducible repeat (first | apply rA | apply rN | apply rD)); exact HO122.out) hb)
         have n5_ := Aside0.mk (rB (by (with_reducible repeat (first | apply rA | apply rN | apply rD)); exact HO125.out) hb)
         have n6_ := Aside0.mk (rB (by (with_reducible repeat (first | apply rA | apply rN | apply rD)); exact HO131.out) hb)
         have n7_ := Aside0.mk (rB (by (with_reducible repeat (first | apply rA | apply rN | apply rD)); exact HO134.out) hb)
         have n8_ := Aside0.mk (rB (by (with_reducible repeat (first | apply rA | apply rN | apply rD)); exact HO140.out) hb)
         have n9_ := Aside0.mk (rB (by (with_reducible repeat (first | apply rA | apply rN | apply rD)); exact HO143.out) hb)
         have n10_ := Aside0.mk (bB (g := gb101) (o := .cells #[.slice A0_0 l0_0.length c0_0, .slice A0_1 l0_1.length c0_1] 25 (0, 0)) (by (with_reducible repeat (first | refine bN ?_ _ | refine bD ?_ | refine bA ?_ _)); exact BK101.out) hb)
         have n11_ := Aside0.mk (bB (g := gb119) (o := .cells #[.slice Ao33 t111.length co33, .slice Ao36 t114.length co36] 25 (0, 0)) (by (with_reducible repeat (first | refine bN ?_ _ | refine bD ?_ | refine bA ?_ _)); exact BK119.out) hb)
         have n12_ := Aside0.mk (bB (g := gb128) (o := .cells #[.slice Ao40 t120.length co40, .slice Ao44 t123.length co44] 25 (0, 0)) (by (with_reducible repeat (first | refine bN ?_ _ | refine bD ?_ | refine bA ?_ _)); exact BK128.out) hb)
         have n13_ := Aside0.mk (wS (by repeat (first | (with_reducible first | exact HB.out | apply wA | apply wN | apply wD | refine below_set ?_ GE101.out | refine below_set ?_ GE119.out | refine below_set ?_ GE128.out) | exact HB.out)) hb)
         clear HO107
         clear HO110
         clear HO113
         clear HO116
         clear HO122
         clear HO125
         clear HO131
         clear HO134
         clear HO140
         clear HO143
         clear BK101
         clear BK119
         clear BK128
         clear HB
         have HO107 := n0_
         have HO110 := n1_
         have HO113 := n2_
         have HO116 := n3_
         have HO122 := n4_
         have HO125 := n5_
         have HO131 := n6_
         have HO134 := n7_
         have HO140 := n8_
         have HO143 := n9_
         have BK101 := n10_
         have BK119 := n11_
         have BK128 := n12_
         have HB := n13_
         clear n0_ n1_ n2_ n3_ n4_ n5_ n6_ n7_ n8_ n9_ n10_ n11_ n12_ n13_
         (try clear hb)
         (try clear hb2)
         (try clear hk)
         (try clear hi)
         refine hK.out _ _ ⟨(blk_cell BK101.out 0).trans rfl, (blk_cell BK101.out 1).trans rfl, (blk_cell BK119.out 0).trans rfl, (blk_cell BK119.out 1).trans rfl, (blk_cell BK128.out 0).trans rfl, (blk_cell BK128.out 1).trans rfl⟩ (fun hHeld => ?_)
         clear hK K
         refine norm_ (a' := ?_) ?_ ?_
         rotate_left
         ·show Act.put _ (some 67) _ = _
          simp only [Act.put, List.setIfInBounds_toArray, List.set_cons_zero, List.set_cons_succ, i64_w, i32_w]
          rfl
         refine pure_ (i := 34) (N := some 68) (v := ?_) (a' := ?_) #[true, true, true, true, true, true, true, true, true, true, true, true, true, true, true, true, true, true, true, true, true, true, true, true, true, true, true, true, true, true, true, true, true, true, true, false, false, false] rfl rfl (any_of HT_.out (by kernel_rfl)) (fun _ _ _ h => h) (Or.inl ⟨by rfl, ?_⟩) ?_ ?_
         rotate_left
         ·intro w'
          go_simp
          with_reducible rfl
         rotate_left
         ·simp only [Act.put, List.setIfInBounds_toArray, List.set_cons_zero, List.set_cons_succ, i64_w, i32_w]
          rfl
         refine pure_ (i := 35) (N := some 69) (v := ?_) (a' := ?_) #[true, true, true, true, true, true, true, true, true, true, true, true, true, true, true, true, true, true, true, true, true, true, true, true, true, true, true, true, true, true, true, true, true, true, true, true, false, false] rfl rfl (any_of HT_.out (by kernel_rfl)) (fun _ _ _ h => h) (Or.inl ⟨by rfl, ?_⟩) ?_ ?_
         rotate_left
         ·intro w'
          go_simp
          with_reducible rfl
         rotate_left
         ·simp only [Act.put, List.setIfInBounds_toArray, List.set_cons_zero, List.set_cons_succ, i64_w, i32_w]
          rfl
         refine pure_ (i := 36) (N := some 70) (v := ?_) (a' := ?_) #[true, true, true, true, true, true, true, true, true, true, true, true, true, true, true, true, true, true, true, true, true, true, true, true, true, true, true, true, true, true, true, true, true, true, true, true, true, false] rfl rfl (any_of HT_.out (by kernel_rfl)) (fun _ _ _ h => h) (Or.inl ⟨by rfl, ?_⟩) ?_ ?_
         rotate_left
         ·intro w'
          go_simp
          with_reducible rfl
         rotate_left
         ·simp only [Act.put, List.setIfInBounds_toArray, List.set_cons_zero, List.set_cons_succ, i64_w, i32_w]
          rfl
         refine pure_ (i := 37) (N := some 4) (v := ?_) (a' := ?_) #[true, true, true, true, true, true, true, true, true, true, true, true, true, true, true, true, true, true, true, true, true, true, true, true, true, true, true, true, true, true, true, true, true, true, true, true, true, true] rfl rfl (any_of HT_.out (by kernel_rfl)) (fun _ _ _ h => h) (Or.inl ⟨by rfl, ?_⟩) ?_ ?_
         rotate_left
         ·intro w'
          go_simp
          with_reducible rfl
         rotate_left
         ·simp only [Act.put, List.setIfInBounds_toArray, List.set_cons_zero, List.set_cons_succ, i64_w, i32_w]
          rfl
         refine done_ (done_of HT_.out (by kernel_rfl)) ?_
         try go_wp2
         go_ret
         exact ⟨by first | rfl | (simp [errW_none, errW_some] <;> rfl) | (simp [*, errW_none, errW_some] <;> rfl), by repeat (first | (with_reducible first | exact HB.out | apply wA | apply wN | apply wD | refine below_set ?_ GE101.out | refine below_set ?_ GE119.out | refine below_set ?_ GE128.out) | exact HB.out)⟩
        ·rw [if_neg c21] at H
         have c21b0 : (t118 == 0) = false := beq_eq_false_iff_ne.mpr c21
         have c21b1 : (t118 != 0) = true := bne_iff_ne.mpr c21
         obtain rfl := Option.some.inj H
         go_enter Try.func5, Try.ntmps5
         try go_wp2_with (first | ((with_reducible refine gate_dst (N := 2) rfl ?_); refine box_event ?hg (N := 2) ?hd (cs := #[.slice A0_0 l0_0.length c0_0, .slice A0_1 l0_1.length c0_1]) (t := 25) ?hr ?_; (case hd => rfl); (case hg => rfl); (case hr => first | (go_simp; done) | (go_simp; rfl)); intro gb101 hg w58 hbox hb; have n0_ := Aside0.mk (wS hB hb); have n1_ := Aside0.mk (hbox); have n2_ := Aside0.mk ((by rw [hg]; exact (below_size hB) : w.heap.size ≤ gb101)); have n3_ := Aside0.mk ((by rw [hg]; exact (below_size hB) : w.heap.size ≤ gb101)); clear HB; have HB := n0_; have BK101 := n1_; have GW101 := n2_; have GE101 := n3_; clear n0_ n1_ n2_ n3_; clear hb hbox hg) | ((with_reducible refine gate_callee (f := 10) rfl ?_); refine goesL_ (some 11) rfl rfl Try.func10 (by kernel_rfl) rfl #[] rfl aM ?_; (with_reducible refine (scarfjointlaw05_awake.calls k  true _ A3.out).mono ?_); rintro e w59 ⟨rfl, hb⟩; refine ⟨_, rfl, ?_⟩; have n0_ := Aside0.mk (bB (g := gb101) (o := .cells #[.slice A0_0 l0_0.length c0_0, .slice A0_1 l0_1.length c0_1] 25 (0, 0)) (by (with_reducible repeat (first | refine bN ?_ _ | refine bD ?_ | refine bA ?_ _)); exact BK101.out) hb); have n1_ := Aside0.mk (wS (by repeat (first | (with_reducible first | exact HB.out | apply wA | apply wN | apply wD | refine below_set ?_ GE101.out) | exact HB.out)) hb); clear BK101; clear HB; have BK101 := n0_; have HB := n1_; clear n0_ n1_; (try clear hb); (try clear hb2); (try clear hk); (try clear hi); have hcz60_0 : w59.cell? ⟨gb101, 0, none⟩ = some (.slice A0_0 l0_0.length c0_0) := (blk_cell BK101.out 0).trans rfl; have hcz60_1 : w59.cell? ⟨gb101, 1, none⟩ = some (.slice A0_1 l0_1.length c0_1) := (blk_cell BK101.out 1).trans rfl; have hfz60_0 := blk_frozen BK101.out 0; have hfz60_1 := blk_frozen BK101.out 1) | (go_at_call 11; (with_reducible refine (scarfjointref05_Few.calls _ _ l0_0 _ _ l0_1 true _ ?side1 ?side2 ?side3 ?side4 A5.out).mono ?_); (case side1 => repeat (first | exact (cB HR0_0.out HB.out) | (with_reducible refine cA ?_ _) | (with_reducible refine cN ?_ _) | (with_reducible refine cD ?_))); (case side2 => exact HC0_0.out); (case side3 => repeat (first | exact (cB HR0_1.out HB.out) | (with_reducible refine cA ?_ _) | (with_reducible refine cN ?_ _) | (with_reducible refine cD ?_))); (case side4 => exact HC0_1.out); rintro e w61 ⟨rfl, hb⟩; have n0_ := Aside0.mk (bB (g := gb101) (o := .cells #[.slice A0_0 l0_0.length c0_0, .slice A0_1 l0_1.length c0_1] 25 (0, 0)) (by (with_reducible repeat (first | refine bN ?_ _ | refine bD ?_ | refine bA ?_ _)); exact BK101.out) hb); have n1_ := Aside0.mk (wS (by repeat (first | (with_reducible first | exact HB.out | apply wA | apply wN | apply wD | refine below_set ?_ GE101.out) | exact HB.out)) hb); clear BK101; clear HB; have BK101 := n0_; have HB := n1_; clear n0_ n1_; (try clear hb); (try clear hb2); (try clear hk); (try clear hi); have hcz62_0 : w61.cell? ⟨gb101, 0, none⟩ = some (.slice A0_0 l0_0.length c0_0) := (blk_cell BK101.out 0).trans rfl; have hcz62_1 : w61.cell? ⟨gb101, 1, none⟩ = some (.slice A0_1 l0_1.length c0_1) := (blk_cell BK101.out 1).trans rfl; have hfz62_0 := blk_frozen BK101.out 0; have hfz62_1 := blk_frozen BK101.out 1) | ((with_reducible refine gate_callee (f := 13) rfl ?_); refine goesL_ (some 21) rfl rfl Try.func13 (by kernel_rfl) rfl #[.agg #[.slice A0_0 l0_0.length c0_0, .slice A0_1 l0_1.length c0_1]] rfl aM ?_; (with_reducible refine (scarfjointref05_Copied.calls _ _ l0_0 _ _ l0_1 t105 t108 _ ?side1 ?side2 ?side3 ?side4 A7.out).mono ?_); (case side1 => repeat (first | exact (cB HR0_0.out HB.out) | (with_reducible refine cA ?_ _) | (with_reducible refine cN ?_ _) | (with_reducible refine cD ?_))); (case side2 => exact HC0_0.out); (case side3 => repeat (first | exact (cB HR0_1.out HB.out) | (with_reducible refine cA ?_ _) | (with_reducible refine cN ?_ _) | (with_reducible refine cD ?_))); (case side4 => exact HC0_1.out); rintro e w63 ⟨v106, v109, rfl, ho0, ho1, hb⟩; refine ⟨_, rfl, ?_⟩; have n0_ := Aside0.mk (Kd.R_lower ho0 (below_size (by repeat (first | (with_reducible first | exact HB.out | apply wA | apply wN | apply wD | refine below_set ?_ GE101.out) | exact HB.out)))); have n1_ := Aside0.mk (Kd.R_lower ho1 (below_size (by repeat (first | (with_reducible first | exact HB.out | apply wA | apply wN | apply wD | refine below_set ?_ GE101.out) | exact HB.out)))); have n2_ := Aside0.mk (bB (g := gb101) (o := .cells #[.slice A0_0 l0_0.length c0_0, .slice A0_1 l0_1.length c0_1] 25 (0, 0)) (by (with_reducible repeat (first | refine bN ?_ _ | refine bD ?_ | refine bA ?_ _)); exact BK101.out) hb); have n3_ := Aside0.mk (wS (by repeat (first | (with_reducible first | exact HB.out | apply wA | apply wN | apply wD | refine below_set ?_ GE101.out) | exact HB.out)) hb); clear BK101; clear HB; have HO107 := n0_; have HO110 := n1_; have BK101 := n2_; have HB := n3_; clear n0_ n1_ n2_ n3_; (try clear hb); (try clear hb2); (try clear hk); (try clear hi); (try clear ho0); (try clear ho1); obtain ⟨Ao64, co64, eo64⟩ := Kd.R_slice HO107.out; subst eo64; obtain ⟨Ao65, co65, eo65⟩ := Kd.R_slice HO110.out; subst eo65) | ((with_reducible refine gate_callee (f := 24) rfl ?_); refine goesL_ (some 23) rfl rfl Try.func24 (by kernel_rfl) rfl #[.agg #[.slice Ao64 t105.length co64, .slice Ao65 t108.length co65], .int .i64 a1] rfl aM ?_; (with_reducible refine (graph_AddNode.calls _ _ t105 _ _ t108 a1 t111 t114 t117 t118 _ ?side1 ?side2 ?side3 ?side4 A8.out).mono ?_); (case side1 => repeat (first | exact (Kd.R_reads' HO107.out).2.2 | (with_reducible refine cA ?_ _) | (with_reducible refine cN ?_ _) | (with_reducible refine cD ?_))); (case side2 => exact (Kd.R_reads' HO107.out).2.1); (case side3 => repeat (first | exact (Kd.R_reads' HO110.out).2.2 | (with_reducible refine cA ?_ _) | (with_reducible refine cN ?_ _) | (with_reducible refine cD ?_))); (case side4 => exact (Kd.R_reads' HO110.out).2.1); rintro e w66 ⟨v112, v115, rfl, ho0, ho1, hb⟩; refine ⟨_, rfl, ?_⟩; have n0_ := Aside0.mk (Kd.R_elder' (by (with_reducible repeat (first | apply rA | apply rN | apply rD)); exact HO107.out) (Kd.R_base ho0) hb); have n1_ := Aside0.mk (Kd.R_elder' (by (with_reducible repeat (first | apply rA | apply rN | apply rD)); exact HO110.out) (Kd.R_base ho1) hb); have n2_ := Aside0.mk (Kd.R_lower (Kd.R_new' ho0 (Kd.R_lt (by (with_reducible repeat (first | apply rA | apply rN | apply rD)); exact HO107.out))) (below_size (by repeat (first | (with_reducible first | exact HB.out | apply wA | apply wN | apply wD | refine below_set ?_ GE101.out) | exact HB.out)))); have n3_ := Aside0.mk (Kd.R_lower (Kd.R_new' ho1 (Kd.R_lt (by (with_reducible repeat (first | apply rA | apply rN | apply rD)); exact HO110.out))) (below_size (by repeat (first | (with_reducible first | exact HB.out | apply wA | apply wN | apply wD | refine below_set ?_ GE101.out) | exact HB.out)))); have n4_ := Aside0.mk (bB (g := gb101) (o := .cells #[.slice A0_0 l0_0.length c0_0, .slice A0_1 l0_1.length c0_1] 25 (0, 0)) (by (with_reducible repeat (first | refine bN ?_ _ | refine bD ?_ | refine bA ?_ _)); exact BK101.out) hb); have n5_ := Aside0.mk (wS (by repeat (first | (with_reducible first | exact HB.out | apply wA | apply wN | apply wD | refine below_set ?_ GE101.out) | exact HB.out)) hb); clear HO107; clear HO110; clear BK101; clear HB; have HO107 := n0_; have HO110 := n1_; have HO113 := n2_; have HO116 := n3_; have BK101 := n4_; have HB := n5_; clear n0_ n1_ n2_ n3_ n4_ n5_; (try clear hb); (try clear hb2); (try clear hk); (try clear hi); (try clear ho0); (try clear ho1)) | ((with_reducible refine gate_dst (N := 5) rfl ?_); refine box_event ?hg (N := 5) ?hd (cs := #[.slice none 0 0, .slice none 0 0]) (t := 25) ?hr ?_; (case hd => rfl); (case hg => rfl); (case hr => first | (go_simp; done) | (go_simp; rfl)); intro gb119 hg w67 hbox hb; have n0_ := Aside0.mk (rB (by (with_reducible repeat (first | apply rA | apply rN | apply rD)); exact HO107.out) hb); have n1_ := Aside0.mk (rB (by (with_reducible repeat (first | apply rA | apply rN | apply rD)); exact HO110.out) hb); have n2_ := Aside0.mk (rB (by (with_reducible repeat (first | apply rA | apply rN | apply rD)); exact HO113.out) hb); have n3_ := Aside0.mk (rB (by (with_reducible repeat (first | apply rA | apply rN | apply rD)); exact HO116.out) hb); have n4_ := Aside0.mk (bB (g := gb101) (o := .cells #[.slice A0_0 l0_0.length c0_0, .slice A0_1 l0_1.length c0_1] 25 (0, 0)) (by (with_reducible repeat (first | refine bN ?_ _ | refine bD ?_ | refine bA ?_ _)); exact BK101.out) hb); have n5_ := Aside0.mk (wS (by repeat (first | (with_reducible first | exact HB.out | apply wA | apply wN | apply wD | refine below_set ?_ GE101.out) | exact HB.out)) hb); have n6_ := Aside0.mk (hbox); have n7_ := Aside0.mk ((by rw [hg]; exact (below_size (by repeat (first | (with_reducible first | exact HB.out | apply wA | apply wN | apply wD | refine below_set ?_ GE101.out) | exact HB.out))) : w.heap.size ≤ gb119)); have n8_ := Aside0.mk ((by rw [hg]; exact (below_size (by repeat (first | (with_reducible first | exact HB.out | apply wA | apply wN | apply wD | refine below_set ?_ GE101.out) | exact HB.out))) : w.heap.size ≤ gb119)); have n9_ := Aside0.mk ((by rw [hg]; exact Nat.ne_of_lt (blk_lt (g := gb101) (o := .cells #[.slice A0_0 l0_0.length c0_0, .slice A0_1 l0_1.length c0_1] 25 (0, 0)) (by (with_reducible repeat (first | refine bN ?_ _ | refine bD ?_ | refine bA ?_ _)); exact BK101.out)) : gb101 ≠ gb119)); have n10_ := Aside0.mk ((by rw [hg]; exact Nat.ne_of_gt (blk_lt (g := gb101) (o := .cells #[.slice A0_0 l0_0.length c0_0, .slice A0_1 l0_1.length c0_1] 25 (0, 0)) (by (with_reducible repeat (first | refine bN ?_ _ | refine bD ?_ | refine bA ?_ _)); exact BK101.out)) : gb119 ≠ gb101)); clear HO107; clear HO110; clear HO113; clear HO116; clear BK101; clear HB; have HO107 := n0_; have HO110 := n1_; have HO113 := n2_; have HO116 := n3_; have BK101 := n4_; have HB := n5_; have BK119 := n6_; have GW119 := n7_; have GE119 := n8_; have NB101_119 := n9_; have NB119_101 := n10_; clear n0_ n1_ n2_ n3_ n4_ n5_ n6_ n7_ n8_ n9_ n10_; clear hb hbox hg; obtain ⟨Ao68, co68, eo68⟩ := Kd.R_slice HO113.out; subst eo68; have hnb69 := NB119_101.out; have hnc69 := NB101_119.out; have hcz70_0 : w67.cell? ⟨gb119, 0, none⟩ = some (.slice none 0 0) := (blk_cell BK119.out 0).trans rfl; have hcz70_1 : w67.cell? ⟨gb119, 1, none⟩ = some (.slice none 0 0) := (blk_cell BK119.out 1).trans rfl; have hfz70_0 := blk_frozen BK119.out 0; have hfz70_1 := blk_frozen BK119.out 1; obtain ⟨Ao71, co71, eo71⟩ := Kd.R_slice HO116.out; subst eo71; have hcz72_0 : w67.cell? ⟨gb101, 0, none⟩ = some (.slice A0_0 l0_0.length c0_0) := (blk_cell BK101.out 0).trans rfl; have hcz72_1 : w67.cell? ⟨gb101, 1, none⟩ = some (.slice A0_1 l0_1.length c0_1) := (blk_cell BK101.out 1).trans rfl; have hfz72_0 := blk_frozen BK101.out 0; have hfz72_1 := blk_frozen BK101.out 1) | ((with_reducible refine gate_callee (f := 25) rfl ?_); refine goesL_ (some 30) rfl rfl Try.func25 (by kernel_rfl) rfl #[.agg #[.slice A0_0 l0_0.length c0_0, .slice A0_1 l0_1.length c0_1], .int .i64 a1] rfl aM ?_; (with_reducible refine (scarfjointref05_AddNode.calls k _ _ l0_0 _ _ l0_1 a1 t120 t123 t126 t127 _ ?side1 ?side2 ?side3 ?side4 A9.out).mono ?_); (case side1 => exact cB HR0_0.out (by repeat (first | (with_reducible first | exact HB.out | apply wA | apply wN | apply wD | refine below_set ?_ GE101.out | refine below_set ?_ GE119.out) | exact HB.out))); (case side2 => exact HC0_0.out); (case side3 => exact cB HR0_1.out (by repeat (first | (with_reducible first | exact HB.out | apply wA | apply wN | apply wD | refine below_set ?_ GE101.out | refine below_set ?_ GE119.out) | exact HB.out))); (case side4 => exact HC0_1.out); rintro e w73 ⟨v121, v124, rfl, ho0, ho1, hb⟩; refine ⟨_, rfl, ?_⟩; have n0_ := Aside0.mk (Kd.R_elder' (by (with_reducible repeat (first | apply rA | apply rN | apply rD)); exact (Kd.R_mono (Kd.R_far (p := ⟨gb119, 1, none⟩) (Kd.R_far (p := ⟨gb119, 0, none⟩) (Kd.R_types HO107.out BK119.out (by decide)) (fun _ hk => hk.2) (.slice Ao68 t111.length co68)) (fun _ hk => hk.2) (.slice Ao71 t114.length co71)) (fun _ h_ => h_.1))) (Kd.R_base ho0) hb); have n1_ := Aside0.mk (Kd.R_elder' (by (with_reducible repeat (first | apply rA | apply rN | apply rD)); exact (Kd.R_mono (Kd.R_far (p := ⟨gb119, 1, none⟩) (Kd.R_far (p := ⟨gb119, 0, none⟩) (Kd.R_types HO110.out BK119.out (by decide)) (fun _ hk => hk.2) (.slice Ao68 t111.length co68)) (fun _ hk => hk.2) (.slice Ao71 t114.length co71)) (fun _ h_ => h_.1))) (Kd.R_base ho1) hb); have n2_ := Aside0.mk (Kd.R_elder' (by (with_reducible repeat (first | apply rA | apply rN | apply rD)); exact (Kd.R_mono (Kd.R_far (p := ⟨gb119, 1, none⟩) (Kd.R_far (p := ⟨gb119, 0, none⟩) (Kd.R_types HO113.out BK119.out (by decide)) (fun _ hk => hk.2) (.slice Ao68 t111.length co68)) (fun _ hk => hk.2) (.slice Ao71 t114.length co71)) (fun _ h_ => h_.1))) (Kd.R_base ho0) hb); have n3_ := Aside0.mk (Kd.R_elder' (by (with_reducible repeat (first | apply rA | apply rN | apply rD)); exact (Kd.R_mono (Kd.R_far (p := ⟨gb119, 1, none⟩) (Kd.R_far (p := ⟨gb119, 0, none⟩) (Kd.R_types HO116.out BK119.out (by decide)) (fun _ hk => hk.2) (.slice Ao68 t111.length co68)) (fun _ hk => hk.2) (.slice Ao71 t114.length co71)) (fun _ h_ => h_.1))) (Kd.R_base ho1) hb); have n4_ := Aside0.mk (Kd.R_lower (Kd.R_new' (Kd.R_new' ho0 (Kd.R_lt (by (with_reducible repeat (first | apply rA | apply rN | apply rD)); exact (Kd.R_mono (Kd.R_far (p := ⟨gb119, 1, none⟩) (Kd.R_far (p := ⟨gb119, 0, none⟩) (Kd.R_types HO107.out BK119.out (by decide)) (fun _ hk => hk.2) (.slice Ao68 t111.length co68)) (fun _ hk => hk.2) (.slice Ao71 t114.length co71)) (fun _ h_ => h_.1))))) (Kd.R_lt (by (with_reducible repeat (first | apply rA | apply rN | apply rD)); exact (Kd.R_mono (Kd.R_far (p := ⟨gb119, 1, none⟩) (Kd.R_far (p := ⟨gb119, 0, none⟩) (Kd.R_types HO113.out BK119.out (by decide)) (fun _ hk => hk.2) (.slice Ao68 t111.length co68)) (fun _ hk => hk.2) (.slice Ao71 t114.length co71)) (fun _ h_ => h_.1))))) (below_size (by repeat (first | (with_reducible first | exact HB.out | apply wA | apply wN | apply wD | refine below_set ?_ GE101.out | refine below_set ?_ GE119.out) | exact HB.out)))); have n5_ := Aside0.mk (Kd.R_lower (Kd.R_new' (Kd.R_new' ho1 (Kd.R_lt (by (with_reducible repeat (first | apply rA | apply rN | apply rD)); exact (Kd.R_mono (Kd.R_far (p := ⟨gb119, 1, none⟩) (Kd.R_far (p := ⟨gb119, 0, none⟩) (Kd.R_types HO110.out BK119.out (by decide)) (fun _ hk => hk.2) (.slice Ao68 t111.length co68)) (fun _ hk => hk.2) (.slice Ao71 t114.length co71)) (fun _ h_ => h_.1))))) (Kd.R_lt (by (with_reducible repeat (first | apply rA | apply rN | apply rD)); exact (Kd.R_mono (Kd.R_far (p := ⟨gb119, 1, none⟩) (Kd.R_far (p := ⟨gb119, 0, none⟩) (Kd.R_types HO116.out BK119.out (by decide)) (fun _ hk => hk.2) (.slice Ao68 t111.length co68)) (fun _ hk => hk.2) (.slice Ao71 t114.length co71)) (fun _ h_ => h_.1))))) (below_size (by repeat (first | (with_reducible first | exact HB.out | apply wA | apply wN | apply wD | refine below_set ?_ GE101.out | refine below_set ?_ GE119.out) | exact HB.out)))); have n6_ := Aside0.mk (bB (g := gb101) (o := .cells #[.slice A0_0 l0_0.length c0_0, .slice A0_1 l0_1.length c0_1] 25 (0, 0)) (by (with_reducible repeat (first | refine bN ?_ _ | refine bD ?_ | refine bA ?_ _)); refine blk_far ?_ NB101_119.out _; (with_reducible repeat (first | refine bN ?_ _ | refine bD ?_ | refine bA ?_ _)); refine blk_far ?_ NB101_119.out _; (with_reducible repeat (first | refine bN ?_ _ | refine bD ?_ | refine bA ?_ _)); exact BK101.out) hb); have n7_ := Aside0.mk (bB (g := gb119) (o := .cells #[.slice Ao68 t111.length co68, .slice Ao71 t114.length co71] 25 (0, 0)) (by (with_reducible repeat (first | refine bN ?_ _ | refine bD ?_ | refine bA ?_ _)); refine blk_put (cs := #[.slice Ao68 t111.length co68, .slice none 0 0]) ?_ 1 _ rfl; (with_reducible repeat (first | refine bN ?_ _ | refine bD ?_ | refine bA ?_ _)); refine blk_put (cs := #[.slice none 0 0, .slice none 0 0]) ?_ 0 _ rfl; (with_reducible repeat (first | refine bN ?_ _ | refine bD ?_ | refine bA ?_ _)); exact BK119.out) hb); have n8_ := Aside0.mk (wS (by repeat (first | (with_reducible first | exact HB.out | apply wA | apply wN | apply wD | refine below_set ?_ GE101.out | refine below_set ?_ GE119.out) | exact HB.out)) hb); clear HO107; clear HO110; clear HO113; clear HO116; clear BK101; clear BK119; clear HB; have HO107 := n0_; have HO110 := n1_; have HO113 := n2_; have HO116 := n3_; have HO122 := n4_; have HO125 := n5_; have BK101 := n6_; have BK119 := n7_; have HB := n8_; clear n0_ n1_ n2_ n3_ n4_ n5_ n6_ n7_ n8_; (try clear hb); (try clear hb2); (try clear hk); (try clear hi); (try clear ho0); (try clear ho1)) | ((with_reducible refine gate_dst (N := 8) rfl ?_); refine box_event ?hg (N := 8) ?hd (cs := #[.slice none 0 0, .slice none 0 0]) (t := 25) ?hr ?_; (case hd => rfl); (case hg => rfl); (case hr => first | (go_simp; done) | (go_simp; rfl)); intro gb128 hg w74 hbox hb; have n0_ := Aside0.mk (rB (by (with_reducible repeat (first | apply rA | apply rN | apply rD)); exact HO107.out) hb); have n1_ := Aside0.mk (rB (by (with_reducible repeat (first | apply rA | apply rN | apply rD)); exact HO110.out) hb); have n2_ := Aside0.mk (rB (by (with_reducible repeat (first | apply rA | apply rN | apply rD)); exact HO113.out) hb); have n3_ := Aside0.mk (rB (by (with_reducible repeat (first | apply rA | apply rN | apply rD)); exact HO116.out) hb); have n4_ := Aside0.mk (rB (by (with_reducible repeat (first | apply rA | apply rN | apply rD)); exact HO122.out) hb); have n5_ := Aside0.mk (rB (by (with_reducible repeat (first | apply rA | apply rN | apply rD)); exact HO125.out) hb); have n6_ := Aside0.mk (bB (g := gb101) (o := .cells #[.slice A0_0 l0_0.length c0_0, .slice A0_1 l0_1.length c0_1] 25 (0, 0)) (by (with_reducible repeat (first | refine bN ?_ _ | refine bD ?_ | refine bA ?_ _)); exact BK101.out) hb); have n7_ := Aside0.mk (bB (g := gb119) (o := .cells #[.slice Ao68 t111.length co68, .slice Ao71 t114.length co71] 25 (0, 0)) (by (with_reducible repeat (first | refine bN ?_ _ | refine bD ?_ | refine bA ?_ _)); exact BK119.out) hb); have n8_ := Aside0.mk (wS (by repeat (first | (with_reducible first | exact HB.out | apply wA | apply wN | apply wD | refine below_set ?_ GE101.out | refine below_set ?_ GE119.out) | exact HB.out)) hb); have n9_ := Aside0.mk (hbox); have n10_ := Aside0.mk ((by rw [hg]; exact (below_size (by repeat (first | (with_reducible first | exact HB.out | apply wA | apply wN | apply wD | refine below_set ?_ GE101.out | refine below_set ?_ GE119.out) | exact HB.out))) : w.heap.size ≤ gb128)); have n11_ := Aside0.mk ((by rw [hg]; exact (below_size (by repeat (first | (with_reducible first | exact HB.out | apply wA | apply wN | apply wD | refine below_set ?_ GE101.out | refine below_set ?_ GE119.out) | exact HB.out))) : w.heap.size ≤ gb128)); have n12_ := Aside0.mk ((by rw [hg]; exact Nat.ne_of_lt (blk_lt (g := gb101) (o := .cells #[.slice A0_0 l0_0.length c0_0, .slice A0_1 l0_1.length c0_1] 25 (0, 0)) (by (with_reducible repeat (first | refine bN ?_ _ | refine bD ?_ | refine bA ?_ _)); exact BK101.out)) : gb101 ≠ gb128)); have n13_ := Aside0.mk ((by rw [hg]; exact Nat.ne_of_gt (blk_lt (g := gb101) (o := .cells #[.slice A0_0 l0_0.length c0_0, .slice A0_1 l0_1.length c0_1] 25 (0, 0)) (by (with_reducible repeat (first | refine bN ?_ _ | refine bD ?_ | refine bA ?_ _)); exact BK101.out)) : gb128 ≠ gb101)); have n14_ := Aside0.mk ((by rw [hg]; exact Nat.ne_of_lt (blk_lt (g := gb119) (o := .cells #[.slice Ao68 t111.length co68, .slice Ao71 t114.length co71] 25 (0, 0)) (by (with_reducible repeat (first | refine bN ?_ _ | refine bD ?_ | refine bA ?_ _)); exact BK119.out)) : gb119 ≠ gb128)); have n15_ := Aside0.mk ((by rw [hg]; exact Nat.ne_of_gt (blk_lt (g := gb119) (o := .cells #[.slice Ao68 t111.length co68, .slice Ao71 t114.length co71] 25 (0, 0)) (by (with_reducible repeat (first | refine bN ?_ _ | refine bD ?_ | refine bA ?_ _)); exact BK119.out)) : gb128 ≠ gb119)); clear HO107; clear HO110; clear HO113; clear HO116; clear HO122; clear HO125; clear BK101; clear BK119; clear HB; have HO107 := n0_; have HO110 := n1_; have HO113 := n2_; have HO116 := n3_; have HO122 := n4_; have HO125 := n5_; have BK101 := n6_; have BK119 := n7_; have HB := n8_; have BK128 := n9_; have GW128 := n10_; have GE128 := n11_; have NB101_128 := n12_; have NB128_101 := n13_; have NB119_128 := n14_; have NB128_119 := n15_; clear n0_ n1_ n2_ n3_ n4_ n5_ n6_ n7_ n8_ n9_ n10_ n11_ n12_ n13_ n14_ n15_; clear hb hbox hg; obtain ⟨Ao75, co75, eo75⟩ := Kd.R_slice HO122.out; subst eo75; have hnb76 := NB128_101.out; have hnc76 := NB101_128.out; have hnb77 := NB128_119.out; have hnc77 := NB119_128.out; have hcz78_0 : w74.cell? ⟨gb128, 0, none⟩ = some (.slice none 0 0) := (blk_cell BK128.out 0).trans rfl; have hcz78_1 : w74.cell? ⟨gb128, 1, none⟩ = some (.slice none 0 0) := (blk_cell BK128.out 1).trans rfl; have hfz78_0 := blk_frozen BK128.out 0; have hfz78_1 := blk_frozen BK128.out 1; obtain ⟨Ao79, co79, eo79⟩ := Kd.R_slice HO125.out; subst eo79))
         have n0_ : Aside0 (Kd.R (Kd.int .i64) 3 ((w74.setCell ⟨gb128, 0, none⟩ (.slice Ao75 t120.length co75)).setCell ⟨gb128, 1, none⟩ (.slice Ao79 t123.length co79)) w.heap.size (fun k_ => some k_ ≠ (.slice Ao68 t111.length co68 : Value).ownBlock ∧ some k_ ≠ (.slice Ao75 t120.length co75 : Value).ownBlock) (.slice Ao64 t105.length co64) t105) := ⟨by (with_reducible repeat (first | apply rA | apply rN | apply rD)); exact Kd.R_mono (Kd.R_far (p := ⟨gb128, 1, none⟩) (Kd.R_far (p := ⟨gb128, 0, none⟩) (Kd.R_types HO107.out BK128.out (by decide)) (fun _ hk => hk.2) (.slice Ao75 t120.length co75)) (fun _ hk => hk.2) (.slice Ao79 t123.length co79)) (fun _ hk => ⟨hk.1.1.2, hk.1.2⟩)⟩
         have n1_ : Aside0 (Kd.R k38 38 ((w74.setCell ⟨gb128, 0, none⟩ (.slice Ao75 t120.length co75)).setCell ⟨gb128, 1, none⟩ (.slice Ao79 t123.length co79)) w.heap.size (fun k_ => some k_ ≠ (.slice Ao71 t114.length co71 : Value).ownBlock ∧ some k_ ≠ (.slice Ao79 t123.length co79 : Value).ownBlock) (.slice Ao65 t108.length co65) t108) := ⟨by (with_reducible repeat (first | apply rA | apply rN | apply rD)); exact Kd.R_mono (Kd.R_far (p := ⟨gb128, 1, none⟩) (Kd.R_far (p := ⟨gb128, 0, none⟩) (Kd.R_types HO110.out BK128.out (by decide)) (fun _ hk => hk.2) (.slice Ao75 t120.length co75)) (fun _ hk => hk.2) (.slice Ao79 t123.length co79)) (fun _ hk => ⟨hk.1.1.2, hk.1.2⟩)⟩
         have n2_ : Aside0 (Kd.R (Kd.int .i64) 3 ((w74.setCell ⟨gb128, 0, none⟩ (.slice Ao75 t120.length co75)).setCell ⟨gb128, 1, none⟩ (.slice Ao79 t123.length co79)) w.heap.size (fun k_ => some k_ ≠ (.slice Ao64 t105.length co64 : Value).ownBlock ∧ some k_ ≠ (.slice Ao75 t120.length co75 : Value).ownBlock) (.slice Ao68 t111.length co68) t111) := ⟨by (with_reducible repeat (first | apply rA | apply rN | apply rD)); exact Kd.R_mono (Kd.R_far (p := ⟨gb128, 1, none⟩) (Kd.R_far (p := ⟨gb128, 0, none⟩) (Kd.R_types HO113.out BK128.out (by decide)) (fun _ hk => hk.2) (.slice Ao75 t120.length co75)) (fun _ hk => hk.2) (.slice Ao79 t123.length co79)) (fun _ hk => ⟨hk.1.1.2, hk.1.2⟩)⟩
         have n3_ : Aside0 (Kd.R k38 38 ((w74.setCell ⟨gb128, 0, none⟩ (.slice Ao75 t120.length co75)).setCell ⟨gb128, 1, none⟩ (.slice Ao79 t123.length co79)) w.heap.size (fun k_ => some k_ ≠ (.slice Ao65 t108.length co65 : Value).ownBlock ∧ some k_ ≠ (.slice Ao79 t123.length co79 : Value).ownBlock) (.slice Ao71 t114.length co71) t114) := ⟨by (with_reducible repeat (first | apply rA | apply rN | apply rD)); exact Kd.R_mono (Kd.R_far (p := ⟨gb128, 1, none⟩) (Kd.R_far (p := ⟨gb128, 0, none⟩) (Kd.R_types HO116.out BK128.out (by decide)) (fun _ hk => hk.2) (.slice Ao75 t120.length co75)) (fun _ hk => hk.2) (.slice Ao79 t123.length co79)) (fun _ hk => ⟨hk.1.1.2, hk.1.2⟩)⟩
         have n4_ : Aside0 (Kd.R (Kd.int .i64) 3 ((w74.setCell ⟨gb128, 0, none⟩ (.slice Ao75 t120.length co75)).setCell ⟨gb128, 1, none⟩ (.slice Ao79 t123.length co79)) w.heap.size (fun k_ => some k_ ≠ (.slice Ao64 t105.length co64 : Value).ownBlock ∧ some k_ ≠ (.slice Ao68 t111.length co68 : Value).ownBlock) (.slice Ao75 t120.length co75) t120) := ⟨by (with_reducible repeat (first | apply rA | apply rN | apply rD)); exact Kd.R_mono (Kd.R_far (p := ⟨gb128, 1, none⟩) (Kd.R_far (p := ⟨gb128, 0, none⟩) (Kd.R_types HO122.out BK128.out (by decide)) (fun _ hk => hk.2) (.slice Ao75 t120.length co75)) (fun _ hk => hk.2) (.slice Ao79 t123.length co79)) (fun _ hk => ⟨hk.1.1.2, hk.1.2⟩)⟩
         have n5_ : Aside0 (Kd.R k38 38 ((w74.setCell ⟨gb128, 0, none⟩ (.slice Ao75 t120.length co75)).setCell ⟨gb128, 1, none⟩ (.slice Ao79 t123.length co79)) w.heap.size (fun k_ => some k_ ≠ (.slice Ao65 t108.length co65 : Value).ownBlock ∧ some k_ ≠ (.slice Ao71 t114.length co71 : Value).ownBlock) (.slice Ao79 t123.length co79) t123) := ⟨by (with_reducible repeat (first | apply rA | apply rN | apply rD)); exact Kd.R_mono (Kd.R_far (p := ⟨gb128, 1, none⟩) (Kd.R_far (p := ⟨gb128, 0, none⟩) (Kd.R_types HO125.out BK128.out (by decide)) (fun _ hk => hk.2) (.slice Ao75 t120.length co75)) (fun _ hk => hk.2) (.slice Ao79 t123.length co79)) (fun _ hk => ⟨hk.1.1.2, hk.1.2⟩)⟩
         have n6_ : Aside0 (((w74.setCell ⟨gb128, 0, none⟩ (.slice Ao75 t120.length co75)).setCell ⟨gb128, 1, none⟩ (.slice Ao79 t123.length co79)).heap[gb101]? = some (.cells #[.slice A0_0 l0_0.length c0_0, .slice A0_1 l0_1.length c0_1] 25 (0, 0))) := ⟨by (with_reducible repeat (first | refine bN ?_ _ | refine bD ?_ | refine bA ?_ _)); refine blk_far ?_ NB101_128.out _; (with_reducible repeat (first | refine bN ?_ _ | refine bD ?_ | refine bA ?_ _)); refine blk_far ?_ NB101_128.out _; (with_reducible repeat (first | refine bN ?_ _ | refine bD ?_ | refine bA ?_ _)); exact BK101.out⟩
         have n7_ : Aside0 (((w74.setCell ⟨gb128, 0, none⟩ (.slice Ao75 t120.length co75)).setCell ⟨gb128, 1, none⟩ (.slice Ao79 t123.length co79)).heap[gb119]? = some (.cells #[.slice Ao68 t111.length co68, .slice Ao71 t114.length co71] 25 (0, 0))) := ⟨by (with_reducible repeat (first | refine bN ?_ _ | refine bD ?_ | refine bA ?_ _)); refine blk_far ?_ NB119_128.out _; (with_reducible repeat (first | refine bN ?_ _ | refine bD ?_ | refine bA ?_ _)); refine blk_far ?_ NB119_128.out _; (with_reducible repeat (first | refine bN ?_ _ | refine bD ?_ | refine bA ?_ _)); exact BK119.out⟩
         have n8_ : Aside0 (((w74.setCell ⟨gb128, 0, none⟩ (.slice Ao75 t120.length co75)).setCell ⟨gb128, 1, none⟩ (.slice Ao79 t123.length co79)).heap[gb128]? = some (.cells #[.slice Ao75 t120.length co75, .slice Ao79 t123.length co79] 25 (0, 0))) := ⟨by (with_reducible repeat (first | refine bN ?_ _ | refine bD ?_ | refine bA ?_ _)); refine blk_put (cs := #[.slice Ao75 t120.length co75, .slice none 0 0]) ?_ 1 _ rfl; (with_reducible repeat (first | refine bN ?_ _ | refine bD ?_ | refine bA ?_ _)); refine blk_put (cs := #[.slice none 0 0, .slice none 0 0]) ?_ 0 _ rfl; (with_reducible repeat (first | refine bN ?_ _ | refine bD ?_ | refine bA ?_ _)); exact BK128.out⟩
         have n9_ : Aside0 (Below w.heap.size w ((w74.setCell ⟨gb128, 0, none⟩ (.slice Ao75 t120.length co75)).setCell ⟨gb128, 1, none⟩ (.slice Ao79 t123.length co79))) := ⟨by repeat (first | (with_reducible first | exact HB.out | apply wA | apply wN | apply wD | refine below_set ?_ GE101.out | refine below_set ?_ GE119.out | refine below_set ?_ GE128.out) | exact HB.out)⟩
         (try clear HO107)
         (try clear HO110)
         (try clear HO113)
         (try clear HO116)
         (try clear HO122)
         (try clear HO125)
         (try clear BK101)
         (try clear BK119)
         (try clear BK128)
         (try clear HB)
         generalize ((w74.setCell ⟨gb128, 0, none⟩ (.slice Ao75 t120.length co75)).setCell ⟨gb128, 1, none⟩ (.slice Ao79 t123.length co79)) = w80 at n0_ n1_ n2_ n3_ n4_ n5_ n6_ n7_ n8_ n9_ ⊢
         have HO107 := n0_
         have HO110 := n1_
         have HO113 := n2_
         have HO116 := n3_
         have HO122 := n4_
         have HO125 := n5_
         have BK101 := n6_
         have BK119 := n7_
         have BK128 := n8_
         have HB := n9_
         clear n0_ n1_ n2_ n3_ n4_ n5_ n6_ n7_ n8_ n9_
         have n0_ := Aside0.mk (rD HO107.out)
         have n1_ := Aside0.mk (rD HO110.out)
         have n2_ := Aside0.mk (rD HO113.out)
         have n3_ := Aside0.mk (rD HO116.out)
         have n4_ := Aside0.mk (rD HO122.out)
         have n5_ := Aside0.mk (rD HO125.out)
         have n6_ := Aside0.mk (bD BK101.out)
         have n7_ := Aside0.mk (bD BK119.out)
         have n8_ := Aside0.mk (bD BK128.out)
         have n9_ := Aside0.mk (wD HB.out)
         clear HO107
         clear HO110
         clear HO113
         clear HO116
         clear HO122
         clear HO125
         clear BK101
         clear BK119
         clear BK128
         clear HB
         have HO107 := n0_
         have HO110 := n1_
         have HO113 := n2_
         have HO116 := n3_
         have HO122 := n4_
         have HO125 := n5_
         have BK101 := n6_
         have BK119 := n7_
         have BK128 := n8_
         have HB := n9_
         clear n0_ n1_ n2_ n3_ n4_ n5_ n6_ n7_ n8_ n9_
         refine start_ (n := 38) (S := fun w' => w'.cell? ⟨gb101, 0, none⟩ = some (.slice A0_0 l0_0.length c0_0) ∧ w'.cell? ⟨gb101, 1, none⟩ = some (.slice A0_1 l0_1.length c0_1) ∧ w'.cell? ⟨gb119, 0, none⟩ = some (.slice Ao68 t111.length co68) ∧ w'.cell? ⟨gb119, 1, none⟩ = some (.slice Ao71 t114.length co71) ∧ w'.cell? ⟨gb128, 0, none⟩ = some (.slice Ao75 t120.length co75) ∧ w'.cell? ⟨gb128, 1, none⟩ = some (.slice Ao79 t123.length co79)) (ds := []) #[false, false, false, false, false, false, false, false, false, false, false, false, false, false, false, false, false, false, false, false, false, false, false, false, false, false, false, false, false, false, false, false, false, false, false, false, false, false] (by kernel_rfl) rfl rfl ⟨(blk_cell BK101.out 0).trans rfl, (blk_cell BK101.out 1).trans rfl, (blk_cell BK119.out 0).trans rfl, (blk_cell BK119.out 1).trans rfl, (blk_cell BK128.out 0).trans rfl, (blk_cell BK128.out 1).trans rfl⟩ (fun hHeld => ?_); refine with_tabW scarfjointlaw05_GraphAdd.tab5 scarfjointlaw05_GraphAdd.bits5 (fun HT_ HW_ => ?_)
         generalize w80.drew = w81 at HO107 HO110 HO113 HO116 HO122 HO125 BK101 BK119 BK128 HB hHeld ⊢
         refine take_ (i := 0) (N := some 34) (v := ?_) (a' := ?_) #[true, false, false, false, false, false, false, false, false, false, false, false, false, false, false, false, false, false, false, false, false, false, false, false, false, false, false, false, false, false, false, false, false, false, false, false, false, false] rfl rfl (take_ofW HT_.out HW_.out (by kernel_rfl)) (fun _ _ _ h => h) (Or.inl ⟨by rfl, ?_⟩) hHeld ?_ ?_
         rotate_left
         ·rintro w' ⟨s0, s1, s2, s3, s4, s5⟩
          go_simp
          with_reducible rfl
         rotate_left
         ·simp only [Act.put, List.setIfInBounds_toArray, List.set_cons_zero, List.set_cons_succ, i64_w, i32_w]
          rfl
         refine take_ (i := 3) (N := some 37) (v := ?_) (a' := ?_) #[true, false, false, true, false, false, false, false, false, false, false, false, false, false, false, false, false, false, false, false, false, false, false, false, false, false, false, false, false, false, false, false, false, false, false, false, false, false] rfl rfl (take_ofW HT_.out HW_.out (by kernel_rfl)) (fun _ _ _ h => h) (Or.inl ⟨by rfl, ?_⟩) hHeld ?_ ?_
         rotate_left
         ·rintro w' ⟨s0, s1, s2, s3, s4, s5⟩
          go_simp
          with_reducible rfl
         rotate_left
         ·simp only [Act.put, List.setIfInBounds_toArray, List.set_cons_zero, List.set_cons_succ, i64_w, i32_w]
          rfl
         refine one_ (i := 1) (N := some 35) #[true, true, false, true, false, false, false, false, false, false, false, false, false, false, false, false, false, false, false, false, false, false, false, false, false, false, false, false, false, false, false, false, false, false, false, false, false, false] rfl rfl (one_of HT_.out (by kernel_rfl)) (by decide) (fun K hK => ?_)
         refine goes_ Try.func13 (by kernel_rfl) rfl #[.agg #[.slice A0_0 l0_0.length c0_0, .slice A0_1 l0_1.length c0_1]] (by rfl) rfl rfl aM ?_
         with_reducible refine (scarfjointref05_Copied.calls _ _ l0_0 _ _ l0_1 t129 t132 _ ?side1 ?side2 ?side3 ?side4 A10.out).mono ?_
         (case side1 => repeat (first | exact (cB HR0_0.out HB.out) | (with_reducible refine cA ?_ _) | (with_reducible refine cN ?_ _) | (with_reducible refine cD ?_)))
         (case side2 => exact HC0_0.out)
         (case side3 => repeat (first | exact (cB HR0_1.out HB.out) | (with_reducible refine cA ?_ _) | (with_reducible refine cN ?_ _) | (with_reducible refine cD ?_)))
         (case side4 => exact HC0_1.out)
         rintro e w82 ⟨v130, v133, rfl, ho0, ho1, hb⟩
         refine ⟨_, rfl, ?_⟩
         have n0_ := Aside0.mk (Kd.R_elder' (by (with_reducible repeat (first | apply rA | apply rN | apply rD)); exact HO107.out) (Kd.R_base ho0) hb)
         have n1_ := Aside0.mk (Kd.R_elder' (by (with_reducible repeat (first | apply rA | apply rN | apply rD)); exact HO110.out) (Kd.R_base ho1) hb)
         have n2_ := Aside0.mk (Kd.R_elder' (by (with_reducible repeat (first | apply rA | apply rN | apply rD)); exact HO113.out) (Kd.R_base ho0) hb)
         have n3_ := Aside0.mk (Kd.R_elder' (by (with_reducible repeat (first | apply rA | apply rN | apply rD)); exact HO116.out) (Kd.R_base ho1) hb)
         have n4_ := Aside0.mk (Kd.R_elder' (by (with_reducible repeat (first | apply rA | apply rN | apply rD)); exact HO122.out) (Kd.R_base ho0) hb)
         have n5_ := Aside0.mk (Kd.R_elder' (by (with_reducible repeat (first | apply rA | apply rN | apply rD)); exact HO125.out) (Kd.R_base ho1) hb)
         have n6_ := Aside0.mk (Kd.R_lower (Kd.R_new' (Kd.R_new' (Kd.R_new' ho0 (Kd.R_lt (by (with_reducible repeat (first | apply rA | apply rN | apply rD)); exact HO107.out))) (Kd.R_lt (by (with_reducible repeat (first | apply rA | apply rN | apply rD)); exact HO113.out))) (Kd.R_lt (by (with_reducible repeat (first | apply rA | apply rN | apply rD)); exact HO122.out))) (below_size (by repeat (first | (with_reducible first | exact HB.out | apply wA | apply wN | apply wD | refine below_set ?_ GE101.out | refine below_set ?_ GE119.out | refine below_set ?_ GE128.out) | exact HB.out))))
         have n7_ := Aside0.mk (Kd.R_lower (Kd.R_new' (Kd.R_new' (Kd.R_new' ho1 (Kd.R_lt (by (with_reducible repeat (first | apply rA | apply rN | apply rD)); exact HO110.out))) (Kd.R_lt (by (with_reducible repeat (first | apply rA | apply rN | apply rD)); exact HO116.out))) (Kd.R_lt (by (with_reducible repeat (first | apply rA | apply rN | apply rD)); exact HO125.out))) (below_size (by repeat (first | (with_reducible first | exact HB.out | apply wA | apply wN | apply wD | refine below_set ?_ GE101.out | refine below_set ?_ GE119.out | refine below_set ?_ GE128.out) | exact HB.out))))
         have n8_ := Aside0.mk (bB (g := gb101) (o := .cells #[.slice A0_0 l0_0.length c0_0, .slice A0_1 l0_1.length c0_1] 25 (0, 0)) (by (with_reducible repeat (first | refine bN ?_ _ | refine bD ?_ | refine bA ?_ _)); exact BK101.out) hb)
         have n9_ := Aside0.mk (bB (g := gb119) (o := .cells #[.slice Ao68 t111.length co68, .slice Ao71 t114.length co71] 25 (0, 0)) (by (with_reducible repeat (first | refine bN ?_ _ | refine bD ?_ | refine bA ?_ _)); exact BK119.out) hb)
         have n10_ := Aside0.mk (bB (g := gb128) (o := .cells #[.slice Ao75 t120.length co75, .slice Ao79 t123.length co79] 25 (0, 0)) (by (with_reducible repeat (first | refine bN ?_ _ | refine bD ?_ | refine bA ?_ _)); exact BK128.out) hb)
         have n11_ := Aside0.mk (wS (by repeat (first | (with_reducible first | exact HB.out | apply wA | apply wN | apply wD | refine below_set ?_ GE101.out | refine below_set ?_ GE119.out | refine below_set ?_ GE128.out) | exact HB.out)) hb)
         clear HO107
         clear HO110
         clear HO113
         clear HO116
         clear HO122
         clear HO125
         clear BK101
         clear BK119
         clear BK128
         clear HB
         have HO107 := n0_
         have HO110 := n1_
         have HO113 := n2_
         have HO116 := n3_
         have HO122 := n4_
         have HO125 := n5_
         have HO131 := n6_
         have HO134 := n7_
         have BK101 := n8_
         have BK119 := n9_
         have BK128 := n10_
         have HB := n11_
         clear n0_ n1_ n2_ n3_ n4_ n5_ n6_ n7_ n8_ n9_ n10_ n11_
         (try clear hb)
         (try clear hb2)
         (try clear hk)
         (try clear hi)
         (try clear ho0)
         (try clear ho1)
         obtain ⟨Ao83, co83, eo83⟩ := Kd.R_slice HO131.out
         (first | subst eo83 | (injection eo83 with f1_ f2_ f3_; have f4_ := f1_.symm; have f5_ := f3_.symm; clear f1_ f2_ f3_; subst f4_; subst f5_))
         obtain ⟨Ao84, co84, eo84⟩ := Kd.R_slice HO134.out
         (first | subst eo84 | (injection eo84 with f1_ f2_ f3_; have f4_ := f1_.symm; have f5_ := f3_.symm; clear f1_ f2_ f3_; subst f4_; subst f5_))
         refine hK.out _ _ ⟨(blk_cell BK101.out 0).trans rfl, (blk_cell BK101.out 1).trans rfl, (blk_cell BK119.out 0).trans rfl, (blk_cell BK119.out 1).trans rfl, (blk_cell BK128.out 0).trans rfl, (blk_cell BK128.out 1).trans rfl⟩ (fun hHeld => ?_)
         clear hK K
         refine norm_ (a' := ?_) ?_ ?_
         rotate_left
         ·show Act.put _ (some 35) _ = _
          simp only [Act.put, List.setIfInBounds_toArray, List.set_cons_zero, List.set_cons_succ, i64_w, i32_w]
          rfl
         refine one_ (i := 2) (N := some 36) #[true, true, true, true, false, false, false, false, false, false, false, false, false, false, false, false, false, false, false, false, false, false, false, false, false, false, false, false, false, false, false, false, false, false, false, false, false, false] rfl rfl (one_of HT_.out (by kernel_rfl)) (by decide) (fun K hK => ?_)
         refine goes_ Try.func26 (by kernel_rfl) rfl #[.agg #[.slice Ao83 t129.length co83, .slice Ao84 t132.length co84]] (by rfl) rfl rfl aM ?_
         with_reducible refine (graph_Valid.calls _ _ t129 _ _ t132 t135 _ ?side1 ?side2 ?side3 ?side4 A11.out).mono ?_
         (case side1 => repeat (first | exact (Kd.R_reads' HO131.out).2.2 | (with_reducible refine cA ?_ _) | (with_reducible refine cN ?_ _) | (with_reducible refine cD ?_)))
         (case side2 => exact (Kd.R_reads' HO131.out).2.1)
         (case side3 => repeat (first | exact (Kd.R_reads' HO134.out).2.2 | (with_reducible refine cA ?_ _) | (with_reducible refine cN ?_ _) | (with_reducible refine cD ?_)))
         (case side4 => exact (Kd.R_reads' HO134.out).2.1)
         rintro e w85 ⟨rfl, hb⟩
         refine ⟨_, rfl, ?_⟩
         have n0_ := Aside0.mk (rB (by (with_reducible repeat (first | apply rA | apply rN | apply rD)); exact HO107.out) hb)
         have n1_ := Aside0.mk (rB (by (with_reducible repeat (first | apply rA | apply rN | apply rD)); exact HO110.out) hb)
         have n2_ := Aside0.mk (rB (by (with_reducible repeat (first | apply rA | apply rN | apply rD)); exact HO113.out) hb)
         have n3_ := Aside0.mk (rB (by (with_reducible repeat (first | apply rA | apply rN | apply rD)); exact HO116.out) hb)
         have n4_ := Aside0.mk (rB (by (with_reducible repeat (first | apply rA | apply rN | apply rD)); exact HO122.out) hb)
         have n5_ := Aside0.mk (rB (by (with_reducible repeat (first | apply rA | apply rN | apply rD)); exact HO125.out) hb)
         have n6_ := Aside0.mk (rB (by (with_reducible repeat (first | apply rA | apply rN | apply rD)); exact HO131.out) hb)
         have n7_ := Aside0.mk (rB (by (with_reducible repeat (first | apply rA | apply rN | apply rD)); exact HO134.out) hb)
         have n8_ := Aside0.mk (bB (g := gb101) (o := .cells #[.slice A0_0 l0_0.length c0_0, .slice A0_1 l0_1.length c0_1] 25 (0, 0)) (by (with_reducible repeat (first | refine bN ?_ _ | refine bD ?_ | refine bA ?_ _)); exact BK101.out) hb)
         have n9_ := Aside0.mk (bB (g := gb119) (o := .cells #[.slice Ao68 t111.length co68, .slice Ao71 t114.length co71] 25 (0, 0)) (by (with_reducible repeat (first | refine bN ?_ _ | refine bD ?_ | refine bA ?_ _)); exact BK119.out) hb)
         have n10_ := Aside0.mk (bB (g := gb128) (o := .cells #[.slice Ao75 t120.length co75, .slice Ao79 t123.length co79] 25 (0, 0)) (by (with_reducible repeat (first | refine bN ?_ _ | refine bD ?_ | refine bA ?_ _)); exact BK128.out) hb)
         have n11_ := Aside0.mk (wS (by repeat (first | (with_reducible first | exact HB.out | apply wA | apply wN | apply wD | refine below_set ?_ GE101.out | refine below_set ?_ GE119.out | refine below_set ?_ GE128.out) | exact HB.out)) hb)
         clear HO107
         clear HO110
         clear HO113
         clear HO116
         clear HO122
         clear HO125
         clear HO131
         clear HO134
         clear BK101
         clear BK119
         clear BK128
         clear HB
         have HO107 := n0_
         have HO110 := n1_
         have HO113 := n2_
         have HO116 := n3_
         have HO122 := n4_
         have HO125 := n5_
         have HO131 := n6_
         have HO134 := n7_
         have BK101 := n8_
         have BK119 := n9_
         have BK128 := n10_
         have HB := n11_
         clear n0_ n1_ n2_ n3_ n4_ n5_ n6_ n7_ n8_ n9_ n10_ n11_
         (try clear hb)
         (try clear hb2)
         (try clear hk)
         (try clear hi)
         refine hK.out _ _ ⟨(blk_cell BK101.out 0).trans rfl, (blk_cell BK101.out 1).trans rfl, (blk_cell BK119.out 0).trans rfl, (blk_cell BK119.out 1).trans rfl, (blk_cell BK128.out 0).trans rfl, (blk_cell BK128.out 1).trans rfl⟩ (fun hHeld => ?_)
         clear hK K
         refine norm_ (a' := ?_) ?_ ?_
         rotate_left
         ·show Act.put _ (some 36) _ = _
          simp only [Act.put, List.setIfInBounds_toArray, List.set_cons_zero, List.set_cons_succ, i64_w, i32_w]
          rfl
         refine one_ (i := 4) (N := some 38) #[true, true, true, true, true, false, false, false, false, false, false, false, false, false, false, false, false, false, false, false, false, false, false, false, false, false, false, false, false, false, false, false, false, false, false, false, false, false] rfl rfl (one_of HT_.out (by kernel_rfl)) (by decide) (fun K hK => ?_)
         refine goes_ Try.func27 (by kernel_rfl) rfl #[.agg #[.slice A0_0 l0_0.length c0_0, .slice A0_1 l0_1.length c0_1]] (by rfl) rfl rfl aM ?_
         with_reducible refine (scarfjointref05_Valid.calls k _ _ l0_0 _ _ l0_1 t136 _ ?side1 ?side2 ?side3 ?side4 A12.out).mono ?_
         (case side1 => repeat (first | exact (cB HR0_0.out HB.out) | (with_reducible refine cA ?_ _) | (with_reducible refine cN ?_ _) | (with_reducible refine cD ?_)))
         (case side2 => exact HC0_0.out)
         (case side3 => repeat (first | exact (cB HR0_1.out HB.out) | (with_reducible refine cA ?_ _) | (with_reducible refine cN ?_ _) | (with_reducible refine cD ?_)))
         (case side4 => exact HC0_1.out)
         rintro e w86 ⟨rfl, hb⟩
         refine ⟨_, rfl, ?_⟩
         have n0_ := Aside0.mk (rB (by (with_reducible repeat (first | apply rA | apply rN | apply rD)); exact HO107.out) hb)
         have n1_ := Aside0.mk (rB (by (with_reducible repeat (first | apply rA | apply rN | apply rD)); exact HO110.out) hb)
         have n2_ := Aside0.mk (rB (by (with_reducible repeat (first | apply rA | apply rN | apply rD)); exact HO113.out) hb)
         have n3_ := Aside0.mk (rB (by (with_reducible repeat (first | apply rA | apply rN | apply rD)); exact HO116.out) hb)
         have n4_ := Aside0.mk (rB (by (with_reducible repeat (first | apply rA | apply rN | apply rD)); exact HO122.out) hb)
         have n5_ := Aside0.mk (rB (by (with_reducible repeat (first | apply rA | apply rN | apply rD)); exact HO125.out) hb)
         have n6_ := Aside0.mk (rB (by (with_reducible repeat (first | apply rA | apply rN | apply rD)); exact HO131.out) hb)
         have n7_ := Aside0.mk (rB (by (with_reducible repeat (first | apply rA | apply rN | apply rD)); exact HO134.out) hb)
         have n8_ := Aside0.mk (bB (g := gb101) (o := .cells #[.slice A0_0 l0_0.length c0_0, .slice A0_1 l0_1.length c0_1] 25 (0, 0)) (by (with_reducible repeat (first | refine bN ?_ _ | refine bD ?_ | refine bA ?_ _)); exact BK101.out) hb)
         have n9_ := Aside0.mk (bB (g := gb119) (o := .cells #[.slice Ao68 t111.length co68, .slice Ao71 t114.length co71] 25 (0, 0)) (by (with_reducible repeat (first | refine bN ?_ _ | refine bD ?_ | refine bA ?_ _)); exact BK119.out) hb)
         have n10_ := Aside0.mk (bB (g := gb128) (o := .cells #[.slice Ao75 t120.length co75, .slice Ao79 t123.length co79] 25 (0, 0)) (by (with_reducible repeat (first | refine bN ?_ _ | refine bD ?_ | refine bA ?_ _)); exact BK128.out) hb)
         have n11_ := Aside0.mk (wS (by repeat (first | (with_reducible first | exact HB.out | apply wA | apply wN | apply wD | refine below_set ?_ GE101.out | refine below_set ?_ GE119.out | refine below_set ?_ GE128.out) | exact HB.out)) hb)
         clear HO107
         clear HO110
         clear HO113
         clear HO116
         clear HO122
         clear HO125
         clear HO131
         clear HO134
         clear BK101
         clear BK119
         clear BK128
         clear HB
         have HO107 := n0_
         have HO110 := n1_
         have HO113 := n2_
         have HO116 := n3_
         have HO122 := n4_
         have HO125 := n5_
         have HO131 := n6_
         have HO134 := n7_
         have BK101 := n8_
         have BK119 := n9_
         have BK128 := n10_
         have HB := n11_
         clear n0_ n1_ n2_ n3_ n4_ n5_ n6_ n7_ n8_ n9_ n10_ n11_
         (try clear hb)
         (try clear hb2)
         (try clear hk)
         (try clear hi)
         refine hK.out _ _ ⟨(blk_cell BK101.out 0).trans rfl, (blk_cell BK101.out 1).trans rfl, (blk_cell BK119.out 0).trans rfl, (blk_cell BK119.out 1).trans rfl, (blk_cell BK128.out 0).trans rfl, (blk_cell BK128.out 1).trans rfl⟩ (fun hHeld => ?_)
         clear hK K
         refine norm_ (a' := ?_) ?_ ?_
         rotate_left
         ·show Act.put _ (some 38) _ = _
          simp only [Act.put, List.setIfInBounds_toArray, List.set_cons_zero, List.set_cons_succ, i64_w, i32_w]
          rfl
         refine pure_ (i := 5) (N := some 39) (v := ?_) (a' := ?_) #[true, true, true, true, true, true, false, false, false, false, false, false, false, false, false, false, false, false, false, false, false, false, false, false, false, false, false, false, false, false, false, false, false, false, false, false, false, false] rfl rfl (any_of HT_.out (by kernel_rfl)) (fun _ _ _ h => h) (Or.inl ⟨by rfl, ?_⟩) ?_ ?_
         rotate_left
         ·intro w'
          go_simp
          with_reducible rfl
         rotate_left
         ·simp only [Act.put, List.setIfInBounds_toArray, List.set_cons_zero, List.set_cons_succ, i64_w, i32_w]
          rfl
         refine pure_ (i := 6) (N := some 40) (v := ?_) (a' := ?_) #[true, true, true, true, true, true, true, false, false, false, false, false, false, false, false, false, false, false, false, false, false, false, false, false, false, false, false, false, false, false, false, false, false, false, false, false, false, false] rfl rfl (any_of HT_.out (by kernel_rfl)) (fun _ _ _ h => h) (Or.inl ⟨by rfl, ?_⟩) ?_ ?_
         rotate_left
         ·intro w'
          go_simp
          with_reducible rfl
         rotate_left
         ·simp only [Act.put, List.setIfInBounds_toArray, List.set_cons_zero, List.set_cons_succ, i64_w, i32_w]
          rfl
         refine pure_ (i := 7) (N := some 41) (v := ?_) (a' := ?_) #[true, true, true, true, true, true, true, true, false, false, false, false, false, false, false, false, false, false, false, false, false, false, false, false, false, false, false, false, false, false, false, false, false, false, false, false, false, false] rfl rfl (any_of HT_.out (by kernel_rfl)) (fun _ _ _ h => h) (Or.inl ⟨by rfl, ?_⟩) ?_ ?_
         rotate_left
         ·intro w'
          go_simp
          with_reducible rfl
         rotate_left
         ·simp only [Act.put, List.setIfInBounds_toArray, List.set_cons_zero, List.set_cons_succ, i64_w, i32_w]
          rfl
         refine pure_ (i := 8) (N := some 42) (v := ?_) (a' := ?_) #[true, true, true, true, true, true, true, true, true, false, false, false, false, false, false, false, false, false, false, false, false, false, false, false, false, false, false, false, false, false, false, false, false, false, false, false, false, false] rfl rfl (any_of HT_.out (by kernel_rfl)) (fun _ _ _ h => h) (Or.inl ⟨by rfl, ?_⟩) ?_ ?_
         rotate_left
         ·intro w'
          go_simp
          with_reducible rfl
         rotate_left
         ·simp only [Act.put, List.setIfInBounds_toArray, List.set_cons_zero, List.set_cons_succ, i64_w, i32_w]
          rfl
         refine pure_ (i := 9) (N := some 43) (v := ?_) (a' := ?_) #[true, true, true, true, true, true, true, true, true, true, false, false, false, false, false, false, false, false, false, false, false, false, false, false, false, false, false, false, false, false, false, false, false, false, false, false, false, false] rfl rfl (any_of HT_.out (by kernel_rfl)) (fun _ _ _ h => h) (Or.inl ⟨by rfl, ?_⟩) ?_ ?_
         rotate_left
         ·intro w'
          go_simp
          with_reducible rfl
         rotate_left
         ·simp only [Act.put, List.setIfInBounds_toArray, List.set_cons_zero, List.set_cons_succ, i64_w, i32_w]
          rfl
         refine pure_ (i := 10) (N := some 44) (v := ?_) (a' := ?_) #[true, true, true, true, true, true, true, true, true, true, true, false, false, false, false, false, false, false, false, false, false, false, false, false, false, false, false, false, false, false, false, false, false, false, false, false, false, false] rfl rfl (any_of HT_.out (by kernel_rfl)) (fun _ _ _ h => h) (Or.inl ⟨by rfl, ?_⟩) ?_ ?_
         rotate_left
         ·intro w'
          go_simp
          with_reducible rfl
         rotate_left
         ·simp only [Act.put, List.setIfInBounds_toArray, List.set_cons_zero, List.set_cons_succ, i64_w, i32_w]
          rfl
         refine pure_ (i := 11) (N := some 45) (v := ?_) (a' := ?_) #[true, true, true, true, true, true, true, true, true, true, true, true, false, false, false, false, false, false, false, false, false, false, false, false, false, false, false, false, false, false, false, false, false, false, false, false, false, false] rfl rfl (any_of HT_.out (by kernel_rfl)) (fun _ _ _ h => h) (Or.inl ⟨by rfl, ?_⟩) ?_ ?_
         rotate_left
         ·intro w'
          go_simp
          with_reducible rfl
         rotate_left
         ·simp only [Act.put, List.setIfInBounds_toArray, List.set_cons_zero, List.set_cons_succ, i64_w, i32_w]
          rfl
         refine pure_ (i := 12) (N := some 46) (v := ?_) (a' := ?_) #[true, true, true, true, true, true, true, true, true, true, true, true, true, false, false, false, false, false, false, false, false, false, false, false, false, false, false, false, false, false, false, false, false, false, false, false, false, false] rfl rfl (any_of HT_.out (by kernel_rfl)) (fun _ _ _ h => h) (Or.inl ⟨by rfl, ?_⟩) ?_ ?_
         rotate_left
         ·intro w'
          go_simp
          with_reducible rfl
         rotate_left
         ·simp only [Act.put, List.setIfInBounds_toArray, List.set_cons_zero, List.set_cons_succ, i64_w, i32_w]
          rfl
         refine pure_ (i := 13) (N := some 47) (v := ?_) (a' := ?_) #[true, true, true, true, true, true, true, true, true, true, true, true, true, true, false, false, false, false, false, false, false, false, false, false, false, false, false, false, false, false, false, false, false, false, false, false, false, false] rfl rfl (any_of HT_.out (by kernel_rfl)) (fun _ _ _ h => h) (Or.inl ⟨by rfl, ?_⟩) ?_ ?_
         rotate_left
         ·intro w'
          go_simp
          with_reducible rfl
         rotate_left
         ·simp only [Act.put, List.setIfInBounds_toArray, List.set_cons_zero, List.set_cons_succ, i64_w, i32_w]
          rfl
         refine pure_ (i := 14) (N := some 48) (v := ?_) (a' := ?_) #[true, true, true, true, true, true, true, true, true, true, true, true, true, true, true, false, false, false, false, false, false, false, false, false, false, false, false, false, false, false, false, false, false, false, false, false, false, false] rfl rfl (any_of HT_.out (by kernel_rfl)) (fun _ _ _ h => h) (Or.inl ⟨by rfl, ?_⟩) ?_ ?_
         rotate_left
         ·intro w'
          go_simp
          with_reducible rfl
         rotate_left
         ·simp only [Act.put, List.setIfInBounds_toArray, List.set_cons_zero, List.set_cons_succ, i64_w, i32_w]
          rfl
         refine pure_ (i := 15) (N := some 49) (v := ?_) (a' := ?_) #[true, true, true, true, true, true, true, true, true, true, true, true, true, true, true, true, false, false, false, false, false, false, false, false, false, false, false, false, false, false, false, false, false, false, false, false, false, false] rfl rfl (any_of HT_.out (by kernel_rfl)) (fun _ _ _ h => h) (Or.inl ⟨by rfl, ?_⟩) ?_ ?_
         rotate_left
         ·intro w'
          go_simp
          with_reducible rfl
         rotate_left
         ·simp only [Act.put, List.setIfInBounds_toArray, List.set_cons_zero, List.set_cons_succ, i64_w, i32_w]
          rfl
         refine pure_ (i := 16) (N := some 50) (v := ?_) (a' := ?_) #[true, true, true, true, true, true, true, true, true, true, true, true, true, true, true, true, true, false, false, false, false, false, false, false, false, false, false, false, false, false, false, false, false, false, false, false, false, false] rfl rfl (any_of HT_.out (by kernel_rfl)) (fun _ _ _ h => h) (Or.inl ⟨by rfl, ?_⟩) ?_ ?_
         rotate_left
         ·intro w'
          go_simp
          with_reducible rfl
         rotate_left
         ·simp only [Act.put, List.setIfInBounds_toArray, List.set_cons_zero, List.set_cons_succ, i64_w, i32_w]
          rfl
         refine take_ (i := 17) (N := some 51) (v := ?_) (a' := ?_) #[true, true, true, true, true, true, true, true, true, true, true, true, true, true, true, true, true, true, false, false, false, false, false, false, false, false, false, false, false, false, false, false, false, false, false, false, false, false] rfl rfl (take_ofW HT_.out HW_.out (by kernel_rfl)) (fun _ _ _ h => h) (Or.inl ⟨by rfl, ?_⟩) hHeld ?_ ?_
         rotate_left
         ·rintro w' ⟨s0, s1, s2, s3, s4, s5⟩
          go_simp
          with_reducible rfl
         rotate_left
         ·simp only [Act.put, List.setIfInBounds_toArray, List.set_cons_zero, List.set_cons_succ, i64_w, i32_w]
          rfl
         refine take_ (i := 18) (N := some 52) (v := ?_) (a' := ?_) #[true, true, true, true, true, true, true, true, true, true, true, true, true, true, true, true, true, true, true, false, false, false, false, false, false, false, false, false, false, false, false, false, false, false, false, false, false, false] rfl rfl (take_ofW HT_.out HW_.out (by kernel_rfl)) (fun _ _ _ h => h) (Or.inl ⟨by rfl, ?_⟩) hHeld ?_ ?_
         rotate_left
         ·rintro w' ⟨s0, s1, s2, s3, s4, s5⟩
          go_simp
          with_reducible rfl
         rotate_left
         ·simp only [Act.put, List.setIfInBounds_toArray, List.set_cons_zero, List.set_cons_succ, i64_w, i32_w]
          rfl
         refine one_ (i := 19) (N := some 53) #[true, true, true, true, true, true, true, true, true, true, true, true, true, true, true, true, true, true, true, true, false, false, false, false, false, false, false, false, false, false, false, false, false, false, false, false, false, false] rfl rfl (one_of HT_.out (by kernel_rfl)) (by decide) (fun K hK => ?_)
         refine goes_ Try.func16 (by kernel_rfl) rfl #[.agg #[.slice Ao68 t111.length co68, .slice Ao71 t114.length co71], .agg #[.slice Ao75 t120.length co75, .slice Ao79 t123.length co79]] (by rfl) rfl rfl aM ?_
         with_reducible refine (scarfjointref05_Same.calls k _ _ t111 _ _ t114 _ _ t120 _ _ t123 true _ ?side1 ?side2 ?side3 ?side4 ?side5 ?side6 ?side7 ?side8 A16.out).mono ?_
         (case side1 => repeat (first | exact (Kd.R_reads' HO113.out).2.2 | (with_reducible refine cA ?_ _) | (with_reducible refine cN ?_ _) | (with_reducible refine cD ?_)))
         (case side2 => exact (Kd.R_reads' HO113.out).2.1)
         (case side3 => repeat (first | exact (Kd.R_reads' HO116.out).2.2 | (with_reducible refine cA ?_ _) | (with_reducible refine cN ?_ _) | (with_reducible refine cD ?_)))
         (case side4 => exact (Kd.R_reads' HO116.out).2.1)
         (case side5 => repeat (first | exact (Kd.R_reads' HO122.out).2.2 | (with_reducible refine cA ?_ _) | (with_reducible refine cN ?_ _) | (with_reducible refine cD ?_)))
         (case side6 => exact (Kd.R_reads' HO122.out).2.1)
         (case side7 => repeat (first | exact (Kd.R_reads' HO125.out).2.2 | (with_reducible refine cA ?_ _) | (with_reducible refine cN ?_ _) | (with_reducible refine cD ?_)))
         (case side8 => exact (Kd.R_reads' HO125.out).2.1)
         rintro e w87 ⟨rfl, hb⟩
         refine ⟨_, rfl, ?_⟩
         have n0_ := Aside0.mk (rB (by (with_reducible repeat (first | apply rA | apply rN | apply rD)); exact HO107.out) hb)
         have n1_ := Aside0.mk (rB (by (with_reducible repeat (first | apply rA | apply rN | apply rD)); exact HO110.out) hb)
         have n2_ := Aside0.mk (rB (by (with_reducible repeat (first | apply rA | apply rN | apply rD)); exact HO113.out) hb)
         have n3_ := Aside0.mk (rB (by (with_reducible repeat (first | apply rA | apply rN | apply rD)); exact HO116.out) hb)
         have n4_ := Aside0.mk (rB (by (with_reducible repeat (first | apply rA | apply rN | apply rD)); exact HO122.out) hb)
         have n5_ := Aside0.mk (rB (by (with_reducible repeat (first | apply rA | apply rN | apply rD)); exact HO125.out) hb)
         have n6_ := Aside0.mk (rB (by (with_reducible repeat (first | apply rA | apply rN | apply rD)); exact HO131.out) hb)
         have n7_ := Aside0.mk (rB (by (with_reducible repeat (first | apply rA | apply rN | apply rD)); exact HO134.out) hb)
         have n8_ := Aside0.mk (bB (g := gb101) (o := .cells #[.slice A0_0 l0_0.length c0_0, .slice A0_1 l0_1.length c0_1] 25 (0, 0)) (by (with_reducible repeat (first | refine bN ?_ _ | refine bD ?_ | refine bA ?_ _)); exact BK101.out) hb)
         have n9_ := Aside0.mk (bB (g := gb119) (o := .cells #[.slice Ao68 t111.length co68, .slice Ao71 t114.length co71] 25 (0, 0)) (by (with_reducible repeat (first | refine bN ?_ _ | refine bD ?_ | refine bA ?_ _)); exact BK119.out) hb)
         have n10_ := Aside0.mk (bB (g := gb128) (o := .cells #[.slice Ao75 t120.length co75, .slice Ao79 t123.length co79] 25 (0, 0)) (by (with_reducible repeat (first | refine bN ?_ _ | refine bD ?_ | refine bA ?_ _)); exact BK128.out) hb)
         have n11_ := Aside0.mk (wS (by repeat (first | (with_reducible first | exact HB.out | apply wA | apply wN | apply wD | refine below_set ?_ GE101.out | refine below_set ?_ GE119.out | refine below_set ?_ GE128.out) | exact HB.out)) hb)
         clear HO107
         clear HO110
         clear HO113
         clear HO116
         clear HO122
         clear HO125
         clear HO131
         clear HO134
         clear BK101
         clear BK119
         clear BK128
         clear HB
         have HO107 := n0_
         have HO110 := n1_
         have HO113 := n2_
         have HO116 := n3_
         have HO122 := n4_
         have HO125 := n5_
         have HO131 := n6_
         have HO134 := n7_
         have BK101 := n8_
         have BK119 := n9_
         have BK128 := n10_
         have HB := n11_
         clear n0_ n1_ n2_ n3_ n4_ n5_ n6_ n7_ n8_ n9_ n10_ n11_
         (try clear hb)
         (try clear hb2)
         (try clear hk)
         (try clear hi)
         refine hK.out _ _ ⟨(blk_cell BK101.out 0).trans rfl, (blk_cell BK101.out 1).trans rfl, (blk_cell BK119.out 0).trans rfl, (blk_cell BK119.out 1).trans rfl, (blk_cell BK128.out 0).trans rfl, (blk_cell BK128.out 1).trans rfl⟩ (fun hHeld => ?_)
         clear hK K
         refine norm_ (a' := ?_) ?_ ?_
         rotate_left
         ·show Act.put _ (some 53) _ = _
          simp only [Act.put, List.setIfInBounds_toArray, List.set_cons_zero, List.set_cons_succ, i64_w, i32_w]
          rfl
         refine pure_ (i := 20) (N := some 54) (v := ?_) (a' := ?_) #[true, true, true, true, true, true, true, true, true, true, true, true, true, true, true, true, true, true, true, true, true, false, false, false, false, false, false, false, false, false, false, false, false, false, false, false, false, false] rfl rfl (any_of HT_.out (by kernel_rfl)) (fun _ _ _ h => h) (Or.inl ⟨by rfl, ?_⟩) ?_ ?_
         rotate_left
         ·intro w'
          go_simp
          with_reducible rfl
         rotate_left
         ·simp only [Act.put, List.setIfInBounds_toArray, List.set_cons_zero, List.set_cons_succ, i64_w, i32_w]
          rfl
         refine pure_ (i := 21) (N := some 55) (v := ?_) (a' := ?_) #[true, true, true, true, true, true, true, true, true, true, true, true, true, true, true, true, true, true, true, true, true, true, false, false, false, false, false, false, false, false, false, false, false, false, false, false, false, false] rfl rfl (any_of HT_.out (by kernel_rfl)) (fun _ _ _ h => h) (Or.inl ⟨by rfl, ?_⟩) ?_ ?_
         rotate_left
         ·intro w'
          go_simp
          with_reducible rfl
         rotate_left
         ·simp only [Act.put, List.setIfInBounds_toArray, List.set_cons_zero, List.set_cons_succ, i64_w, i32_w]
          rfl
         refine take_ (i := 22) (N := some 56) (v := ?_) (a' := ?_) #[true, true, true, true, true, true, true, true, true, true, true, true, true, true, true, true, true, true, true, true, true, true, true, false, false, false, false, false, false, false, false, false, false, false, false, false, false, false] rfl rfl (take_ofW HT_.out HW_.out (by kernel_rfl)) (fun _ _ _ h => h) (Or.inl ⟨by rfl, ?_⟩) hHeld ?_ ?_
         rotate_left
         ·rintro w' ⟨s0, s1, s2, s3, s4, s5⟩
          go_simp
          with_reducible rfl
         rotate_left
         ·simp only [Act.put, List.setIfInBounds_toArray, List.set_cons_zero, List.set_cons_succ, i64_w, i32_w]
          rfl
         refine take_ (i := 23) (N := some 57) (v := ?_) (a' := ?_) #[true, true, true, true, true, true, true, true, true, true, true, true, true, true, true, true, true, true, true, true, true, true, true, true, false, false, false, false, false, false, false, false, false, false, false, false, false, false] rfl rfl (take_ofW HT_.out HW_.out (by kernel_rfl)) (fun _ _ _ h => h) (Or.inl ⟨by rfl, ?_⟩) hHeld ?_ ?_
         rotate_left
         ·rintro w' ⟨s0, s1, s2, s3, s4, s5⟩
          go_simp
          with_reducible rfl
         rotate_left
         ·simp only [Act.put, List.setIfInBounds_toArray, List.set_cons_zero, List.set_cons_succ, i64_w, i32_w]
          rfl
         refine one_ (i := 24) (N := some 58) #[true, true, true, true, true, true, true, true, true, true, true, true, true, true, true, true, true, true, true, true, true, true, true, true, true, false, false, false, false, false, false, false, false, false, false, false, false, false] rfl rfl (one_of HT_.out (by kernel_rfl)) (by decide) (fun K hK => ?_)
         refine goes_ Try.func13 (by kernel_rfl) rfl #[.agg #[.slice A0_0 l0_0.length c0_0, .slice A0_1 l0_1.length c0_1]] (by rfl) rfl rfl aM ?_
         with_reducible refine (scarfjointref05_Copied.calls _ _ l0_0 _ _ l0_1 t138 t141 _ ?side1 ?side2 ?side3 ?side4 A18.out).mono ?_
         (case side1 => repeat (first | exact (cB HR0_0.out HB.out) | (with_reducible refine cA ?_ _) | (with_reducible refine cN ?_ _) | (with_reducible refine cD ?_)))
         (case side2 => exact HC0_0.out)
         (case side3 => repeat (first | exact (cB HR0_1.out HB.out) | (with_reducible refine cA ?_ _) | (with_reducible refine cN ?_ _) | (with_reducible refine cD ?_)))
         (case side4 => exact HC0_1.out)
         rintro e w88 ⟨v139, v142, rfl, ho0, ho1, hb⟩
         refine ⟨_, rfl, ?_⟩
         have n0_ := Aside0.mk (Kd.R_elder' (by (with_reducible repeat (first | apply rA | apply rN | apply rD)); exact HO107.out) (Kd.R_base ho0) hb)
         have n1_ := Aside0.mk (Kd.R_elder' (by (with_reducible repeat (first | apply rA | apply rN | apply rD)); exact HO110.out) (Kd.R_base ho1) hb)
         have n2_ := Aside0.mk (Kd.R_elder' (by (with_reducible repeat (first | apply rA | apply rN | apply rD)); exact HO113.out) (Kd.R_base ho0) hb)
         have n3_ := Aside0.mk (Kd.R_elder' (by (with_reducible repeat (first | apply rA | apply rN | apply rD)); exact HO116.out) (Kd.R_base ho1) hb)
         have n4_ := Aside0.mk (Kd.R_elder' (by (with_reducible repeat (first | apply rA | apply rN | apply rD)); exact HO122.out) (Kd.R_base ho0) hb)
         have n5_ := Aside0.mk (Kd.R_elder' (by (with_reducible repeat (first | apply rA | apply rN | apply rD)); exact HO125.out) (Kd.R_base ho1) hb)
         have n6_ := Aside0.mk (Kd.R_elder' (by (with_reducible repeat (first | apply rA | apply rN | apply rD)); exact HO131.out) (Kd.R_base ho0) hb)
         have n7_ := Aside0.mk (Kd.R_elder' (by (with_reducible repeat (first | apply rA | apply rN | apply rD)); exact HO134.out) (Kd.R_base ho1) hb)
         have n8_ := Aside0.mk (Kd.R_lower (Kd.R_new' (Kd.R_new' (Kd.R_new' (Kd.R_new' ho0 (Kd.R_lt (by (with_reducible repeat (first | apply rA | apply rN | apply rD)); exact HO107.out))) (Kd.R_lt (by (with_reducible repeat (first | apply rA | apply rN | apply rD)); exact HO113.out))) (Kd.R_lt (by (with_reducible repeat (first | apply rA | apply rN | apply rD)); exact HO122.out))) (Kd.R_lt (by (with_reducible repeat (first | apply rA | apply rN | apply rD)); exact HO131.out))) (below_size (by repeat (first | (with_reducible first | exact HB.out | apply wA | apply wN | apply wD | refine below_set ?_ GE101.out | refine below_set ?_ GE119.out | refine below_set ?_ GE128.out) | exact HB.out))))
         have n9_ := Aside0.mk (Kd.R_lower (Kd.R_new' (Kd.R_new' (Kd.R_new' (Kd.R_new' ho1 (Kd.R_lt (by (with_reducible repeat (first | apply rA | apply rN | apply rD)); exact HO110.out))) (Kd.R_lt (by (with_reducible repeat (first | apply rA | apply rN | apply rD)); exact HO116.out))) (Kd.R_lt (by (with_reducible repeat (first | apply rA | apply rN | apply rD)); exact HO125.out))) (Kd.R_lt (by (with_reducible repeat (first | apply rA | apply rN | apply rD)); exact HO134.out))) (below_size (by repeat (first | (with_reducible first | exact HB.out | apply wA | apply wN | apply wD | refine below_set ?_ GE101.out | refine below_set ?_ GE119.out | refine below_set ?_ GE128.out) | exact HB.out))))
         have n10_ := Aside0.mk (bB (g := gb101) (o := .cells #[.slice A0_0 l0_0.length c0_0, .slice A0_1 l0_1.length c0_1] 25 (0, 0)) (by (with_reducible repeat (first | refine bN ?_ _ | refine bD ?_ | refine bA ?_ _)); exact BK101.out) hb)
         have n11_ := Aside0.mk (bB (g := gb119) (o := .cells #[.slice Ao68 t111.length co68, .slice Ao71 t114.length co71] 25 (0, 0)) (by (with_reducible repeat (first | refine bN ?_ _ | refine bD ?_ | refine bA ?_ _)); exact BK119.out) hb)
         have n12_ := Aside0.mk (bB (g := gb128) (o := .cells #[.slice Ao75 t120.length co75, .slice Ao79 t123.length co79] 25 (0, 0)) (by (with_reducible repeat (first | refine bN ?_ _ | refine bD ?_ | refine bA ?_ _)); exact BK128.out) hb)
         have n13_ := Aside0.mk (wS (by repeat (first | (with_reducible first | exact HB.out | apply wA | apply wN | apply wD | refine below_set ?_ GE101.out | refine below_set ?_ GE119.out | refine below_set ?_ GE128.out) | exact HB.out)) hb)
         clear HO107
         clear HO110
         clear HO113
         clear HO116
         clear HO122
         clear HO125
         clear HO131
         clear HO134
         clear BK101
         clear BK119
         clear BK128
         clear HB
         have HO107 := n0_
         have HO110 := n1_
         have HO113 := n2_
         have HO116 := n3_
         have HO122 := n4_
         have HO125 := n5_
         have HO131 := n6_
         have HO134 := n7_
         have HO140 := n8_
         have HO143 := n9_
         have BK101 := n10_
         have BK119 := n11_
         have BK128 := n12_
         have HB := n13_
         clear n0_ n1_ n2_ n3_ n4_ n5_ n6_ n7_ n8_ n9_ n10_ n11_ n12_ n13_
         (try clear hb)
         (try clear hb2)
         (try clear hk)
         (try clear hi)
         (try clear ho0)
         (try clear ho1)
         obtain ⟨Ao89, co89, eo89⟩ := Kd.R_slice HO140.out
         (first | subst eo89 | (injection eo89 with f1_ f2_ f3_; have f4_ := f1_.symm; have f5_ := f3_.symm; clear f1_ f2_ f3_; subst f4_; subst f5_))
         obtain ⟨Ao90, co90, eo90⟩ := Kd.R_slice HO143.out
         (first | subst eo90 | (injection eo90 with f1_ f2_ f3_; have f4_ := f1_.symm; have f5_ := f3_.symm; clear f1_ f2_ f3_; subst f4_; subst f5_))
         refine hK.out _ _ ⟨(blk_cell BK101.out 0).trans rfl, (blk_cell BK101.out 1).trans rfl, (blk_cell BK119.out 0).trans rfl, (blk_cell BK119.out 1).trans rfl, (blk_cell BK128.out 0).trans rfl, (blk_cell BK128.out 1).trans rfl⟩ (fun hHeld => ?_)
         clear hK K
         refine norm_ (a' := ?_) ?_ ?_
         rotate_left
         ·show Act.put _ (some 58) _ = _
          simp only [Act.put, List.setIfInBounds_toArray, List.set_cons_zero, List.set_cons_succ, i64_w, i32_w]
          rfl
         refine one_ (i := 25) (N := some 59) #[true, true, true, true, true, true, true, true, true, true, true, true, true, true, true, true, true, true, true, true, true, true, true, true, true, true, false, false, false, false, false, false, false, false, false, false, false, false] rfl rfl (one_of HT_.out (by kernel_rfl)) (by decide) (fun K hK => ?_)
         refine goes_ Try.func28 (by kernel_rfl) rfl #[.agg #[.slice A0_0 l0_0.length c0_0, .slice A0_1 l0_1.length c0_1], .agg #[.slice Ao89 t138.length co89, .slice Ao90 t141.length co90]] (by rfl) rfl rfl aM ?_
         with_reducible refine (graph_Same.calls k _ _ l0_0 _ _ l0_1 _ _ t138 _ _ t141 true _ ?side1 ?side2 ?side3 ?side4 ?side5 ?side6 ?side7 ?side8 A19.out).mono ?_
         (case side1 => repeat (first | exact (cB HR0_0.out HB.out) | (with_reducible refine cA ?_ _) | (with_reducible refine cN ?_ _) | (with_reducible refine cD ?_)))
         (case side2 => exact HC0_0.out)
         (case side3 => repeat (first | exact (cB HR0_1.out HB.out) | (with_reducible refine cA ?_ _) | (with_reducible refine cN ?_ _) | (with_reducible refine cD ?_)))
         (case side4 => exact HC0_1.out)
         (case side5 => repeat (first | exact (Kd.R_reads' HO140.out).2.2 | (with_reducible refine cA ?_ _) | (with_reducible refine cN ?_ _) | (with_reducible refine cD ?_)))
         (case side6 => exact (Kd.R_reads' HO140.out).2.1)
         (case side7 => repeat (first | exact (Kd.R_reads' HO143.out).2.2 | (with_reducible refine cA ?_ _) | (with_reducible refine cN ?_ _) | (with_reducible refine cD ?_)))
         (case side8 => exact (Kd.R_reads' HO143.out).2.1)
         rintro e w91 ⟨rfl, hb⟩
         refine ⟨_, rfl, ?_⟩
         have n0_ := Aside0.mk (rB (by (with_reducible repeat (first | apply rA | apply rN | apply rD)); exact HO107.out) hb)
         have n1_ := Aside0.mk (rB (by (with_reducible repeat (first | apply rA | apply rN | apply rD)); exact HO110.out) hb)
         have n2_ := Aside0.mk (rB (by (with_reducible repeat (first | apply rA | apply rN | apply rD)); exact HO113.out) hb)
         have n3_ := Aside0.mk (rB (by (with_reducible repeat (first | apply rA | apply rN | apply rD)); exact HO116.out) hb)
         have n4_ := Aside0.mk (rB (by (with_reducible repeat (first | apply rA | apply rN | apply rD)); exact HO122.out) hb)
         have n5_ := Aside0.mk (rB (by (with_reducible repeat (first | apply rA | apply rN | apply rD)); exact HO125.out) hb)
         have n6_ := Aside0.mk (rB (by (with_reducible repeat (first | apply rA | apply rN | apply rD)); exact HO131.out) hb)
         have n7_ := Aside0.mk (rB (by (with_reducible repeat (first | apply rA | apply rN | apply rD)); exact HO134.out) hb)
         have n8_ := Aside0.mk (rB (by (with_reducible repeat (first | apply rA | apply rN | apply rD)); exact HO140.out) hb)
         have n9_ := Aside0.mk (rB (by (with_reducible repeat (first | apply rA | apply rN | apply rD)); exact HO143.out) hb)
         have n10_ := Aside0.mk (bB (g := gb101) (o := .cells #[.slice A0_0 l0_0.length c0_0, .slice A0_1 l0_1.length c0_1] 25 (0, 0)) (by (with_reducible repeat (first | refine bN ?_ _ | refine bD ?_ | refine bA ?_ _)); exact BK101.out) hb)
         have n11_ := Aside0.mk (bB (g := gb119) (o := .cells #[.slice Ao68 t111.length co68, .slice Ao71 t114.length co71] 25 (0, 0)) (by (with_reducible repeat (first | refine bN ?_ _ | refine bD ?_ | refine bA ?_ _)); exact BK119.out) hb)
         have n12_ := Aside0.mk (bB (g := gb128) (o := .cells #[.slice Ao75 t120.length co75, .slice Ao79 t123.length co79] 25 (0, 0)) (by (with_reducible repeat (first | refine bN ?_ _ | refine bD ?_ | refine bA ?_ _)); exact BK128.out) hb)
         have n13_ := Aside0.mk (wS (by repeat (first | (with_reducible first | exact HB.out | apply wA | apply wN | apply wD | refine below_set ?_ GE101.out | refine below_set ?_ GE119.out | refine below_set ?_ GE128.out) | exact HB.out)) hb)
         clear HO107
         clear HO110
         clear HO113
         clear HO116
         clear HO122
         clear HO125
         clear HO131
         clear HO134
         clear HO140
         clear HO143
         clear BK101
         clear BK119
         clear BK128
         clear HB
         have HO107 := n0_
         have HO110 := n1_
         have HO113 := n2_
         have HO116 := n3_
         have HO122 := n4_
         have HO125 := n5_
         have HO131 := n6_
         have HO134 := n7_
         have HO140 := n8_
         have HO143 := n9_
         have BK101 := n10_
         have BK119 := n11_
         have BK128 := n12_
         have HB := n13_
         clear n0_ n1_ n2_ n3_ n4_ n5_ n6_ n7_ n8_ n9_ n10_ n11_ n12_ n13_
         (try clear hb)
         (try clear hb2)
         (try clear hk)
         (try clear hi)
         refine hK.out _ _ ⟨(blk_cell BK101.out 0).trans rfl, (blk_cell BK101.out 1).trans rfl, (blk_cell BK119.out 0).trans rfl, (blk_cell BK119.out 1).trans rfl, (blk_cell BK128.out 0).trans rfl, (blk_cell BK128.out 1).trans rfl⟩ (fun hHeld => ?_)
         clear hK K
         refine norm_ (a' := ?_) ?_ ?_
         rotate_left
         ·show Act.put _ (some 59) _ = _
          simp only [Act.put, List.setIfInBounds_toArray, List.set_cons_zero, List.set_cons_succ, i64_w, i32_w]
          rfl
         refine pure_ (i := 26) (N := some 60) (v := ?_) (a' := ?_) #[true, true, true, true, true, true, true, true, true, true, true, true, true, true, true, true, true, true, true, true, true, true, true, true, true, true, true, false, false, false, false, false, false, false, false, false, false, false] rfl rfl (any_of HT_.out (by kernel_rfl)) (fun _ _ _ h => h) (Or.inl ⟨by rfl, ?_⟩) ?_ ?_
         rotate_left
         ·intro w'
          go_simp
          with_reducible rfl
         rotate_left
         ·simp only [Act.put, List.setIfInBounds_toArray, List.set_cons_zero, List.set_cons_succ, i64_w, i32_w]
          rfl
         refine pure_ (i := 27) (N := some 61) (v := ?_) (a' := ?_) #[true, true, true, true, true, true, true, true, true, true, true, true, true, true, true, true, true, true, true, true, true, true, true, true, true, true, true, true, false, false, false, false, false, false, false, false, false, false] rfl rfl (any_of HT_.out (by kernel_rfl)) (fun _ _ _ h => h) (Or.inl ⟨by rfl, ?_⟩) ?_ ?_
         rotate_left
         ·intro w'
          go_simp
          with_reducible rfl
         rotate_left
         ·simp only [Act.put, List.setIfInBounds_toArray, List.set_cons_zero, List.set_cons_succ, i64_w, i32_w]
          rfl
         refine pure_ (i := 28) (N := some 62) (v := ?_) (a' := ?_) #[true, true, true, true, true, true, true, true, true, true, true, true, true, true, true, true, true, true, true, true, true, true, true, true, true, true, true, true, true, false, false, false, false, false, false, false, false, false] rfl rfl (any_of HT_.out (by kernel_rfl)) (fun _ _ _ h => h) (Or.inl ⟨by rfl, ?_⟩) ?_ ?_
         rotate_left
         ·intro w'
          go_simp
          with_reducible rfl
         rotate_left
         ·simp only [Act.put, List.setIfInBounds_toArray, List.set_cons_zero, List.set_cons_succ, i64_w, i32_w]
          rfl
         refine pure_ (i := 29) (N := some 63) (v := ?_) (a' := ?_) #[true, true, true, true, true, true, true, true, true, true, true, true, true, true, true, true, true, true, true, true, true, true, true, true, true, true, true, true, true, true, false, false, false, false, false, false, false, false] rfl rfl (any_of HT_.out (by kernel_rfl)) (fun _ _ _ h => h) (Or.inl ⟨by rfl, ?_⟩) ?_ ?_
         rotate_left
         ·intro w'
          go_simp
          with_reducible rfl
         rotate_left
         ·simp only [Act.put, List.setIfInBounds_toArray, List.set_cons_zero, List.set_cons_succ, i64_w, i32_w]
          rfl
         refine pure_ (i := 30) (N := some 64) (v := ?_) (a' := ?_) #[true, true, true, true, true, true, true, true, true, true, true, true, true, true, true, true, true, true, true, true, true, true, true, true, true, true, true, true, true, true, true, false, false, false, false, false, false, false] rfl rfl (any_of HT_.out (by kernel_rfl)) (fun _ _ _ h => h) (Or.inl ⟨by rfl, ?_⟩) ?_ ?_
         rotate_left
         ·intro w'
          go_simp
          with_reducible rfl
         rotate_left
         ·simp only [Act.put, List.setIfInBounds_toArray, List.set_cons_zero, List.set_cons_succ, i64_w, i32_w]
          rfl
         refine pure_ (i := 31) (N := some 65) (v := undef) (a' := ?_) #[true, true, true, true, true, true, true, true, true, true, true, true, true, true, true, true, true, true, true, true, true, true, true, true, true, true, true, true, true, true, true, true, false, false, false, false, false, false] rfl rfl (any_of HT_.out (by kernel_rfl)) (fun _ _ _ h => h) (Or.inr ⟨by rfl, rfl⟩) ?_ ?_
         rotate_left
         ·simp only [Act.put, List.setIfInBounds_toArray, List.set_cons_zero, List.set_cons_succ, i64_w, i32_w]
          rfl
         refine pure_ (i := 32) (N := some 66) (v := undef) (a' := ?_) #[true, true, true, true, true, true, true, true, true, true, true, true, true, true, true, true, true, true, true, true, true, true, true, true, true, true, true, true, true, true, true, true, true, false, false, false, false, false] rfl rfl (any_of HT_.out (by kernel_rfl)) (fun _ _ _ h => h) (Or.inr ⟨by rfl, rfl⟩) ?_ ?_
         rotate_left
         ·simp only [Act.put, List.setIfInBounds_toArray, List.set_cons_zero, List.set_cons_succ, i64_w, i32_w]
          rfl
         refine pure_ (i := 33) (N := some 67) (v := undef) (a' := ?_) #[true, true, true, true, true, true, true, true, true, true, true, true, true, true, true, true, true, true, true, true, true, true, true, true, true, true, true, true, true, true, true, true, true, true, false, false, false, false] rfl rfl (any_of HT_.out (by kernel_rfl)) (fun _ _ _ h => h) (Or.inr ⟨by rfl, rfl⟩) ?_ ?_
         rotate_left
         ·simp only [Act.put, List.setIfInBounds_toArray, List.set_cons_zero, List.set_cons_succ, i64_w, i32_w]
          rfl
         refine pure_ (i := 34) (N := some 68) (v := undef) (a' := ?_) #[true, true, true, true, true, true, true, true, true, true, true, true, true, true, true, true, true, true, true, true, true, true, true, true, true, true, true, true, true, true, true, true, true, true, true, false, false, false] rfl rfl (any_of HT_.out (by kernel_rfl)) (fun _ _ _ h => h) (Or.inr ⟨by rfl, rfl⟩) ?_ ?_
         rotate_left
         ·simp only [Act.put, List.setIfInBounds_toArray, List.set_cons_zero, List.set_cons_succ, i64_w, i32_w]
          rfl
         refine pure_ (i := 35) (N := some 69) (v := ?_) (a' := ?_) #[true, true, true, true, true, true, true, true, true, true, true, true, true, true, true, true, true, true, true, true, true, true, true, true, true, true, true, true, true, true, true, true, true, true, true, true, false, false] rfl rfl (any_of HT_.out (by kernel_rfl)) (fun _ _ _ h => h) (Or.inl ⟨by rfl, ?_⟩) ?_ ?_
         rotate_left
         ·intro w'
          go_simp
          with_reducible rfl
         rotate_left
         ·simp only [Act.put, List.setIfInBounds_toArray, List.set_cons_zero, List.set_cons_succ, i64_w, i32_w]
          rfl
         refine pure_ (i := 36) (N := some 70) (v := ?_) (a' := ?_) #[true, true, true, true, true, true, true, true, true, true, true, true, true, true, true, true, true, true, true, true, true, true, true, true, true, true, true, true, true, true, true, true, true, true, true, true, true, false] rfl rfl (any_of HT_.out (by kernel_rfl)) (fun _ _ _ h => h) (Or.inl ⟨by rfl, ?_⟩) ?_ ?_
         rotate_left
         ·intro w'
          go_simp
          with_reducible rfl
         rotate_left
         ·simp only [Act.put, List.setIfInBounds_toArray, List.set_cons_zero, List.set_cons_succ, i64_w, i32_w]
          rfl
         refine pure_ (i := 37) (N := some 4) (v := ?_) (a' := ?_) #[true, true, true, true, true, true, true, true, true, true, true, true, true, true, true, true, true, true, true, true, true, true, true, true, true, true, true, true, true, true, true, true, true, true, true, true, true, true] rfl rfl (any_of HT_.out (by kernel_rfl)) (fun _ _ _ h => h) (Or.inl ⟨by rfl, ?_⟩) ?_ ?_
         rotate_left
         ·intro w'
          go_simp
          with_reducible rfl
         rotate_left
         ·simp only [Act.put, List.setIfInBounds_toArray, List.set_cons_zero, List.set_cons_succ, i64_w, i32_w]
          rfl
         refine done_ (done_of HT_.out (by kernel_rfl)) ?_
         try go_wp2
         go_ret
         exact ⟨by first | rfl | (simp [errW_none, errW_some] <;> rfl) | (simp [*, errW_none, errW_some] <;> rfl), by repeat (first | (with_reducible first | exact HB.out | apply wA | apply wN | apply wD | refine below_set ?_ GE101.out | refine below_set ?_ GE119.out | refine below_set ?_ GE128.out) | exact HB.out)⟩
       ·replace c20 := Bool.eq_false_iff.mpr c20
        subst c20
        have H1 : (none) = some r := by rw [if_neg (show ¬ (false = true) by decide)] at H; exact H
        clear H
        have H := H1
        clear H1
        exact absurd H (by simp)
      ·replace c17 := Bool.eq_false_iff.mpr c17
       subst c17
       have H1 : (none) = some r := by rw [if_neg (show ¬ (false = true) by decide)] at H; exact H
       clear H
       have H := H1
       clear H1
       exact absurd H (by simp)
     ·rw [if_neg c15] at H
      exact absurd H (by simp)
    ·rw [if_neg c14] at H
     exact absurd H (by simp)
   ·rw [if_neg c13] at H
    exact absurd H (by simp)
  ·replace c6 := Bool.eq_false_iff.mpr c6
   subst c6
   have H1 : ((scarfjointlaw05_awake.f k).bind fun t104 => (some t104)) = some r := by rw [if_neg (show ¬ (false = true) by decide)] at H; exact H
   clear H
   have H := H1
   clear H1
   replace H := Option.bind_eq_some_iff.mp H
   obtain ⟨t104, A920, H⟩ := H
   replace H : (some t104) = some r := H
   have A92 := Aside0.mk A920
   clear A920
   obtain rfl := Option.some.inj H
   go_enter Try.func5, Try.ntmps5
   go_wp2_with (first | ((with_reducible refine gate_dst (N := 2) rfl ?_); refine box_event ?hg (N := 2) ?hd (cs := #[.slice A0_0 l0_0.length c0_0, .slice A0_1 l0_1.length c0_1]) (t := 25) ?hr ?_; (case hd => rfl); (case hg => rfl); (case hr => first | (go_simp; done) | (go_simp; rfl)); intro gb101 hg w93 hbox hb; have n0_ := Aside0.mk (wS hB hb); have n1_ := Aside0.mk (hbox); have n2_ := Aside0.mk ((by rw [hg]; exact (below_size hB) : w.heap.size ≤ gb101)); have n3_ := Aside0.mk ((by rw [hg]; exact (below_size hB) : w.heap.size ≤ gb101)); clear HB; have HB := n0_; have BK101 := n1_; have GW101 := n2_; have GE101 := n3_; clear n0_ n1_ n2_ n3_; clear hb hbox hg) | ((with_reducible refine gate_callee (f := 10) rfl ?_); refine goesL_ (some 11) rfl rfl Try.func10 (by kernel_rfl) rfl #[] rfl aM ?_; (with_reducible refine (scarfjointlaw05_awake.calls k  true _ A3.out).mono ?_); rintro e w94 ⟨rfl, hb⟩; refine ⟨_, rfl, ?_⟩; have n0_ := Aside0.mk (bB (g := gb101) (o := .cells #[.slice A0_0 l0_0.length c0_0, .slice A0_1 l0_1.length c0_1] 25 (0, 0)) (by (with_reducible repeat (first | refine bN ?_ _ | refine bD ?_ | refine bA ?_ _)); exact BK101.out) hb); have n1_ := Aside0.mk (wS (by repeat (first | (with_reducible first | exact HB.out | apply wA | apply wN | apply wD | refine below_set ?_ GE101.out) | exact HB.out)) hb); clear BK101; clear HB; have BK101 := n0_; have HB := n1_; clear n0_ n1_; (try clear hb); (try clear hb2); (try clear hk); (try clear hi); have hcz95_0 : w94.cell? ⟨gb101, 0, none⟩ = some (.slice A0_0 l0_0.length c0_0) := (blk_cell BK101.out 0).trans rfl; have hcz95_1 : w94.cell? ⟨gb101, 1, none⟩ = some (.slice A0_1 l0_1.length c0_1) := (blk_cell BK101.out 1).trans rfl; have hfz95_0 := blk_frozen BK101.out 0; have hfz95_1 := blk_frozen BK101.out 1) | (go_at_call 11; (with_reducible refine (scarfjointref05_Few.calls _ _ l0_0 _ _ l0_1 false _ ?side1 ?side2 ?side3 ?side4 A5.out).mono ?_); (case side1 => repeat (first | exact (cB HR0_0.out HB.out) | (with_reducible refine cA ?_ _) | (with_reducible refine cN ?_ _) | (with_reducible refine cD ?_))); (case side2 => exact HC0_0.out); (case side3 => repeat (first | exact (cB HR0_1.out HB.out) | (with_reducible refine cA ?_ _) | (with_reducible refine cN ?_ _) | (with_reducible refine cD ?_))); (case side4 => exact HC0_1.out); rintro e w96 ⟨rfl, hb⟩; have n0_ := Aside0.mk (bB (g := gb101) (o := .cells #[.slice A0_0 l0_0.length c0_0, .slice A0_1 l0_1.length c0_1] 25 (0, 0)) (by (with_reducible repeat (first | refine bN ?_ _ | refine bD ?_ | refine bA ?_ _)); exact BK101.out) hb); have n1_ := Aside0.mk (wS (by repeat (first | (with_reducible first | exact HB.out | apply wA | apply wN | apply wD | refine below_set ?_ GE101.out) | exact HB.out)) hb); clear BK101; clear HB; have BK101 := n0_; have HB := n1_; clear n0_ n1_; (try clear hb); (try clear hb2); (try clear hk); (try clear hi)) | ((with_reducible refine gate_callee (f := 10) rfl ?_); refine goesL_ (some 18) rfl rfl Try.func10 (by kernel_rfl) rfl #[] rfl aM ?_; (with_reducible refine (scarfjointlaw05_awake.calls k  t104 _ A92.out).mono ?_); rintro e w97 ⟨rfl, hb⟩; refine ⟨_, rfl, ?_⟩; have n0_ := Aside0.mk (bB (g := gb101) (o := .cells #[.slice A0_0 l0_0.length c0_0, .slice A0_1 l0_1.length c0_1] 25 (0, 0)) (by (with_reducible repeat (first | refine bN ?_ _ | refine bD ?_ | refine bA ?_ _)); exact BK101.out) hb); have n1_ := Aside0.mk (wS (by repeat (first | (with_reducible first | exact HB.out | apply wA | apply wN | apply wD | refine below_set ?_ GE101.out) | exact HB.out)) hb); clear BK101; clear HB; have BK101 := n0_; have HB := n1_; clear n0_ n1_; (try clear hb); (try clear hb2); (try clear hk); (try clear hi)))
   go_ret
   exact ⟨by first | rfl | (simp [errW_none, errW_some] <;> rfl) | (simp [*, errW_none, errW_some] <;> rfl), by repeat (first | (with_reducible first | exact HB.out | apply wA | apply wN | apply wD | refine below_set ?_ GE101.out) | exact HB.out)⟩
 ·replace c4 := Bool.eq_false_iff.mpr c4
  subst c4
  have H1 : (none) = some r := by rw [if_neg (show ¬ (false = true) by decide)] at H; exact H
  clear H
  have H := H1
  clear H1
  exact absurd H (by simp)
end Go.Proofs.Ytmbnibonggbjgaa.X

/- The seat's own argument types, by 'Opens'. -/
namespace Go.Proofs.Ytmbnibonggbjgaa.Open
open Go.RowKit Go.Proofs.YtmbnibonggbjgaaW.PrintWords Go.Proofs.Ytmbnibonggbjgaa.X
set_option linter.unusedVariables false
abbrev okInt (n : Int) : Prop := (Lit.int .i64 n).wf = true
theorem open22 : Opens Try.prog 22 (Kd.slice 3 (Kd.int .i64)) (fun l => ∀ x ∈ l, okInt x) := opens_slice Try.underlying22 (opens_int Try.underlying3) (by kernel_rfl)
theorem open38 : Opens Try.prog 38 k38 (fun e : S38 => okInt e.f0 ∧ okInt e.f1 ∧ okInt e.f2) :=
  opens_iso (opens_struct3 Try.underlying38 rfl (by kernel_rfl) (by kernel_rfl) (by kernel_rfl) (opens_int Try.underlying3) (opens_int Try.underlying3) (opens_int Try.underlying3)) _ (fun p => ⟨p.1, p.2.1, p.2.2⟩) (fun _ => rfl)
theorem open23 : Opens Try.prog 23 (Kd.slice 38 k38) (fun l => ∀ e ∈ l, okInt e.f0 ∧ okInt e.f1 ∧ okInt e.f2) := opens_slice Try.underlying23 open38 (by kernel_rfl)
theorem open25 : Opens Try.prog 25 k25 (fun g : S25 => (∀ x ∈ g.f0, okInt x) ∧ ∀ e ∈ g.f1, okInt e.f0 ∧ okInt e.f1 ∧ okInt e.f2) :=
  opens_iso (opens_struct2 Try.underlying25 rfl (by kernel_rfl) (by kernel_rfl) open22 open23) _ (fun p => ⟨p.1, p.2⟩) (fun _ => rfl)
end Go.Proofs.Ytmbnibonggbjgaa.Open

/- Plain laws: the reference's Valid and the program's are one; a list is the same as itself. -/
namespace Go.Proofs.Ytmbnibonggbjgaa.Pl
open Go.RowKit Go.Proofs.YtmbnibonggbjgaaW.PrintWords Go.Proofs.Ytmbnibonggbjgaa.X
set_option linter.unusedVariables false

theorem rd_mid (pre : List Int) (x : Int) (r : List Int) : rd (pre ++ x :: r) (pre.length : Int) = x := by
  unfold rd; rw [Int.toNat_natCast, List.getD_eq_getElem?_getD, List.getElem?_append_right (Nat.le_refl _)]; simp
theorem rd38_mid (pre : List S38) (x : S38) (r : List S38) : rd_T38 (pre ++ x :: r) (pre.length : Int) = x := by
  unfold rd_T38; rw [Int.toNat_natCast, List.getD_eq_getElem?_getD, List.getElem?_append_right (Nat.le_refl _)]; simp
theorem lt_mid {α : Type} (pre : List α) (x : α) (r : List α) : (pre.length : Int) < ((pre ++ x :: r).length : Int) := by simp; omega
theorem snoc_mid {α : Type} (pre : List α) (x : α) (r : List α) : pre ++ x :: r = (pre ++ [x]) ++ r := by simp
theorem wrap_mid {α : Type} (pre : List α) (x : α) (r : List α) (h : (pre ++ x :: r).length ≤ 9223372036854775807) : wrap64 ((pre.length : Int) + 1) = ((pre ++ [x]).length : Int) := by
  simp at h ⊢
  unfold wrap64
  omega
theorem wrap_id {i : Int} (h0 : 0 ≤ i) (h : i ≤ 9223372036854775807) : wrap64 i = i := by unfold wrap64; omega

theorem kind_eq (t : Int) : scarfjointref05_kind.f t = some (kindB t) := by
  unfold scarfjointref05_kind.f kindB
  by_cases h : t ≥ 0
  · rw [if_pos h]; simp [h]
  · rw [if_neg h]; simp [h]
theorem right_eq (e : S38) (n : Int) : scarfjointref05_right.f e.f0 e.f1 e.f2 n = some (edgeB n e) := by
  unfold scarfjointref05_right.f edgeB
  rw [kind_eq]
  simp only [Option.bind_some]
  cases kindB e.f0
  · simp
  · simp only [if_true, Bool.true_and]
    by_cases h1 : e.f1 ≥ 0
    · rw [if_pos h1]
      by_cases h2 : e.f1 < n
      · rw [if_pos h2]
        by_cases h3 : e.f2 ≥ 0
        · rw [if_pos h3]; simp [h1, h2, h3]
        · rw [if_neg h3]; simp [h3]
      · rw [if_neg h2]; simp [h2]
    · rw [if_neg h1]; simp [h1]

theorem valid_l1 (l0 : List Int) (l1 : List S38) (hl : l1.length ≤ 9223372036854775807) : ∀ (r pre : List S38), l1 = pre ++ r →
    Ev (fun k => scarfjointref05_Valid.l1 k (pre.length : Int) l0 l1) (if r.any (fun e => !edgeB l0.length e) = true then 6 else 0) := by
  intro r
  induction r with
  | nil =>
    rintro pre rfl
    refine Ev.step (fun k => by simp only [scarfjointref05_Valid.l1]; rw [if_neg (by simp)]) ?_
    exact Ev.now _
  | cons x r ih =>
    rintro pre rfl
    have ih' := ih (pre ++ [x]) (snoc_mid pre x r)
    cases hb : edgeB l0.length x with
    | true =>
      refine Ev.step (fun k => by simp only [scarfjointref05_Valid.l1]; rw [if_pos (lt_mid pre x r), if_pos (by omega), rd38_mid, right_eq, hb, wrap_mid pre x r hl]) ?_
      simpa [hb] using ih'
    | false =>
      refine Ev.step (fun k => by simp only [scarfjointref05_Valid.l1]; rw [if_pos (lt_mid pre x r), if_pos (by omega), rd38_mid, right_eq, hb]) ?_
      simpa [hb] using Ev.now (6 : Int)

theorem valid_l0 (l0 : List Int) (l1 : List S38) (hl0 : l0.length ≤ 9223372036854775807) (hl : l1.length ≤ 9223372036854775807) : ∀ (r pre : List Int), l0 = pre ++ r →
    Ev (fun k => scarfjointref05_Valid.l0 k (pre.length : Int) l0 l1) (if r.any (fun t => !kindB t) = true then 6 else if l1.any (fun e => !edgeB l0.length e) = true then 6 else 0) := by
  intro r
  induction r with
  | nil =>
    rintro pre rfl
    refine Ev.step (fun k => by simp only [scarfjointref05_Valid.l0]; rw [if_neg (by simp)]) ?_
    have h := valid_l1 pre l1 hl l1 [] rfl
    simpa using h
  | cons x r ih =>
    rintro pre rfl
    have ih' := ih (pre ++ [x]) (snoc_mid pre x r)
    cases hb : kindB x with
    | true =>
      refine Ev.step (fun k => by simp only [scarfjointref05_Valid.l0]; rw [if_pos (lt_mid pre x r), if_pos (by omega), rd_mid, kind_eq, hb, wrap_mid pre x r hl0]) ?_
      simpa [hb] using ih'
    | false =>
      refine Ev.step (fun k => by simp only [scarfjointref05_Valid.l0]; rw [if_pos (lt_mid pre x r), if_pos (by omega), rd_mid, kind_eq, hb]) ?_
      simpa [hb] using Ev.now (6 : Int)

theorem valid_ev (l0 : List Int) (l1 : List S38) : Ev (fun k => scarfjointref05_Valid.f k l0 l1) (validE l0 l1) := by
  unfold validE scarfjointref05_Valid.f
  by_cases h0 : l0.length > 40
  · rw [if_pos h0]
    simp only [if_pos (show (l0.length : Int) > 40 by omega)]
    exact Ev.step (fun k => by simp only [scarfjointref05_Valid.j0, if_true]) (Ev.now _)
  · rw [if_neg h0]
    simp only [if_neg (show ¬ (l0.length : Int) > 40 by omega)]
    by_cases h1 : l1.length > 80
    · rw [if_pos h1]
      refine Ev.step (fun k => by simp only [scarfjointref05_Valid.j0]; rw [if_pos (by simp; omega)]) (Ev.now _)
    · rw [if_neg h1]
      refine Ev.step (fun k => by simp only [scarfjointref05_Valid.j0]; rw [if_neg (by simp; omega)]) ?_
      exact valid_l0 l0 l1 (by omega) (by omega) l0 [] rfl

theorem few_eq (l0 : List Int) (l1 : List S38) : scarfjointref05_Few.f l0 l1 = some (decide (l0.length ≤ 45 ∧ l1.length ≤ 90)) := by
  unfold scarfjointref05_Few.f
  by_cases h : (l0.length : Int) ≤ 45
  · rw [if_pos h]
    have h' : l0.length ≤ 45 := by omega
    simp [h']; omega
  · rw [if_neg h]
    have h' : ¬ l0.length ≤ 45 := by omega
    simp [h']
theorem copied_eq (l0 : List Int) (l1 : List S38) (h0 : l0.length ≤ 1000000) (h1 : l1.length ≤ 1000000) : scarfjointref05_Copied.f l0 l1 = some (l0, l1) := by
  unfold scarfjointref05_Copied.f
  simp only [Option.bind_some]
  rw [if_pos (by simp; omega), if_pos (by simp; omega)]
  simp

theorem sameInts_l0 (l : List Int) (hl : l.length ≤ 9223372036854775807) : ∀ (r pre : List Int), l = pre ++ r → Ev (fun k => scarfjointref05_SameInts.l0 k l l (pre.length : Int)) true := by
  intro r
  induction r with
  | nil =>
    rintro pre rfl
    exact Ev.step (fun k => by simp only [scarfjointref05_SameInts.l0]; rw [if_neg (by simp)]) (Ev.now _)
  | cons x r ih =>
    rintro pre rfl
    refine Ev.step (fun k => by simp only [scarfjointref05_SameInts.l0]; rw [if_pos (lt_mid pre x r), if_pos (by omega), if_pos (lt_mid pre x r), if_pos trivial, wrap_mid pre x r hl]) (ih (pre ++ [x]) (snoc_mid pre x r))
theorem sameInts_self (l : List Int) (hl : l.length ≤ 1000000) : Ev (fun k => scarfjointref05_SameInts.f k l l) true := by
  unfold scarfjointref05_SameInts.f
  simp only [if_true]
  exact sameInts_l0 l (by omega) l [] rfl
theorem same_l0 (l : List S38) (a b : List Int) (hl : l.length ≤ 9223372036854775807) : ∀ (r pre : List S38), l = pre ++ r → Ev (fun k => scarfjointref05_Same.l0 k (pre.length : Int) a l b l) true := by
  intro r
  induction r with
  | nil =>
    rintro pre rfl
    exact Ev.step (fun k => by simp only [scarfjointref05_Same.l0]; rw [if_neg (by simp)]) (Ev.now _)
  | cons x r ih =>
    rintro pre rfl
    refine Ev.step (fun k => by simp only [scarfjointref05_Same.l0]; rw [if_pos (lt_mid pre x r), if_pos (by omega), if_pos (lt_mid pre x r), if_neg (by simp), wrap_mid pre x r hl]) (ih (pre ++ [x]) (snoc_mid pre x r))
theorem same_self (l0 : List Int) (l1 : List S38) (h0 : l0.length ≤ 1000000) (h1 : l1.length ≤ 1000000) : Ev (fun k => scarfjointref05_Same.f k l0 l1 l0 l1) true := by
  unfold scarfjointref05_Same.f
  refine Ev.bind (sameInts_self l0 h0) ?_
  simp only [if_true]
  refine Ev.step (fun k => by simp only [scarfjointref05_Same.j0]; rw [if_neg (by simp)]) ?_
  exact same_l0 l1 l0 l0 (by omega) l1 [] rfl
end Go.Proofs.Ytmbnibonggbjgaa.Pl

/- Plain laws: the program's Same at the same graph, and at one of other lengths. -/
namespace Go.Proofs.Ytmbnibonggbjgaa.Pl
open Go.RowKit Go.Proofs.YtmbnibonggbjgaaW.PrintWords Go.Proofs.Ytmbnibonggbjgaa.X
set_option linter.unusedVariables false

theorem equal_l0 (l : List Int) (hl : l.length ≤ 9223372036854775807) : ∀ (r pre : List Int), l = pre ++ r → Ev (fun k => slices_Equal_int_int.l0 k l l (l.length : Int) (pre.length : Int)) true := by
  intro r
  induction r with
  | nil =>
    rintro pre rfl
    exact Ev.step (fun k => by simp only [slices_Equal_int_int.l0]; rw [if_neg (by simp)]) (Ev.now _)
  | cons x r ih =>
    rintro pre rfl
    refine Ev.step (fun k => by simp only [slices_Equal_int_int.l0]; rw [if_pos (lt_mid pre x r), if_pos (by omega), if_pos (lt_mid pre x r), if_pos (lt_mid pre x r), if_pos trivial, wrap_mid pre x r hl]) (ih (pre ++ [x]) (snoc_mid pre x r))
theorem equal_self (l : List Int) (hl : l.length ≤ 1000000) : Ev (fun k => slices_Equal_int_int.f k l l) true := by
  unfold slices_Equal_int_int.f
  simp only [if_true]
  exact equal_l0 l (by omega) l [] rfl
theorem equal_ne (l m : List Int) (h : l.length ≠ m.length) : Ev (fun k => slices_Equal_int_int.f k l m) false := by
  unfold slices_Equal_int_int.f
  simp only [if_neg (show ¬ (l.length : Int) = (m.length : Int) by omega)]
  exact Ev.now _
theorem edges_l0 (l : List S38) (hl : l.length ≤ 9223372036854775807) : ∀ (r pre : List S38), l = pre ++ r → Ev (fun k => api_Edge_54.l0 k l l (l.length : Int) (pre.length : Int)) true := by
  intro r
  induction r with
  | nil =>
    rintro pre rfl
    exact Ev.step (fun k => by simp only [api_Edge_54.l0]; rw [if_neg (by simp)]) (Ev.now _)
  | cons x r ih =>
    rintro pre rfl
    refine Ev.step (fun k => by simp only [api_Edge_54.l0]; rw [if_pos (lt_mid pre x r), if_pos (by omega), if_pos (lt_mid pre x r), if_pos (lt_mid pre x r), if_neg (by simp), wrap_mid pre x r hl]) (ih (pre ++ [x]) (snoc_mid pre x r))
theorem edges_self (l : List S38) (hl : l.length ≤ 1000000) : Ev (fun k => api_Edge_54.f k l l) true := by
  unfold api_Edge_54.f
  simp only [if_true]
  exact edges_l0 l (by omega) l [] rfl
theorem edges_ne (l m : List S38) (h : l.length ≠ m.length) : Ev (fun k => api_Edge_54.f k l m) false := by
  unfold api_Edge_54.f
  simp only [if_neg (show ¬ (l.length : Int) = (m.length : Int) by omega)]
  exact Ev.now _
theorem gsame_self (l0 : List Int) (l1 : List S38) (h0 : l0.length ≤ 1000000) (h1 : l1.length ≤ 1000000) : Ev (fun k => graph_Same.f k l0 l1 l0 l1) true := by
  unfold graph_Same.f
  refine Ev.bind (equal_self l0 h0) ?_
  simp only [if_true]
  exact Ev.bind (edges_self l1 h1) (Ev.now _)
theorem gsame_nodes (l0 m0 : List Int) (l1 m1 : List S38) (h : l0.length ≠ m0.length) : Ev (fun k => graph_Same.f k l0 l1 m0 m1) false := by
  unfold graph_Same.f
  refine Ev.bind (equal_ne l0 m0 h) ?_
  simpa using Ev.now false
theorem gsame_edges (l0 : List Int) (l1 m1 : List S38) (h0 : l0.length ≤ 1000000) (h : l1.length ≠ m1.length) : Ev (fun k => graph_Same.f k l0 l1 l0 m1) false := by
  unfold graph_Same.f
  refine Ev.bind (equal_self l0 h0) ?_
  simp only [if_true]
  exact Ev.bind (edges_ne l1 m1 h) (Ev.now _)
end Go.Proofs.Ytmbnibonggbjgaa.Pl

namespace Go.Proofs.Ytmbnibonggbjgaa.Pl
open Go.RowKit Go.Proofs.YtmbnibonggbjgaaW.PrintWords Go.Proofs.Ytmbnibonggbjgaa.X
theorem awake_ev : Ev (fun k => scarfjointlaw05_awake.f k) true := Ev.of (fun k => scarfjointlaw05_awake.mono k) (k := 40) (by decide +kernel)
end Go.Proofs.Ytmbnibonggbjgaa.Pl

/- The plain law of GraphAdd: what the program computes answers true. -/
namespace Go.Proofs.Ytmbnibonggbjgaa.Pure
open Go.RowKit Go.Proofs.YtmbnibonggbjgaaW.PrintWords Go.Proofs.Ytmbnibonggbjgaa.X Go.Proofs.Ytmbnibonggbjgaa.Pl
set_option linter.unusedVariables false

theorem addNode_eq (l0 : List Int) (l1 : List S38) (a : Int) (h0 : l0.length ≤ 45) (h1 : l1.length ≤ 90) :
    graph_AddNode.f l0 l1 a = some (if validE l0 l1 = 0 then (if kindB a = true then (if l0.length = 40 then ([], [], 0, 3) else (l0 ++ [a], l1, (l0.length : Int), 0)) else ([], [], 0, 6)) else ([], [], 0, validE l0 l1)) := by
  unfold graph_AddNode.f graph_Valid.f
  simp only [Option.bind_some]
  by_cases hv : validE l0 l1 = 0
  · rw [if_pos hv, if_pos hv, within_kind]
    simp only [Option.bind_some]
    cases hk : kindB a
    · simp
    · simp only [if_true]
      by_cases h40 : l0.length = 40
      · rw [if_pos (by omega), if_pos h40]
      · rw [if_neg (by omega), if_neg h40]
        unfold slices_Clone_int_int.f api_Edge_46.f
        simp only [Option.bind_some]
        rw [if_pos (by simp; omega)]
        simp only [Option.bind_some]
        rw [if_pos (by simp; omega), if_pos (by simp; omega)]
        simp
  · rw [if_neg hv, if_neg hv]
theorem refAddNode_ev (l0 : List Int) (l1 : List S38) (a : Int) (h0 : l0.length ≤ 45) (h1 : l1.length ≤ 90) :
    Ev (fun k => scarfjointref05_AddNode.f k l0 l1 a) (if validE l0 l1 = 0 then (if kindB a = true then (if l0.length = 40 then ([], [], 0, 3) else (l0 ++ [a], l1, (l0.length : Int), 0)) else ([], [], 0, 6)) else ([], [], 0, validE l0 l1)) := by
  unfold scarfjointref05_AddNode.f
  refine Ev.bind (valid_ev l0 l1) ?_
  by_cases hv : validE l0 l1 = 0
  · rw [if_pos hv]
    simp only [if_pos hv, kind_eq, Option.bind_some]
    cases hk : kindB a
    · simpa using Ev.now _
    · simp only [if_true]
      by_cases h40 : l0.length = 40
      · rw [if_pos h40]
        simp only [if_pos (show (l0.length : Int) = 40 by omega)]
        exact Ev.now _
      · rw [if_neg h40]
        simp only [if_neg (show ¬ (l0.length : Int) = 40 by omega), copied_eq l0 l1 (by omega) (by omega), Option.bind_some, if_pos (show l0.length < 17592186044416 by omega)]
        exact Ev.now _
  · rw [if_neg hv]
    simp only [if_neg hv]
    exact Ev.now _

theorem GraphAdd_pure (l0 : List Int) (l1 : List S38) (a1 : Int) (g : (∀ x ∈ l0, Open.okInt x) ∧ ∀ e ∈ l1, Open.okInt e.f0 ∧ Open.okInt e.f1 ∧ Open.okInt e.f2) (w : Open.okInt a1) : ∃ k, scarfjointlaw05_GraphAdd.f k l0 l1 a1 = some true := by
  refine Ev.rounds (g := fun k => scarfjointlaw05_GraphAdd.f k l0 l1 a1) ?_
  unfold scarfjointlaw05_GraphAdd.f
  refine Ev.bind awake_ev ?_
  simp only [if_true, few_eq, Option.bind_some]
  by_cases hf : l0.length ≤ 45 ∧ l1.length ≤ 90
  rotate_left
  · simp only [decide_eq_false hf]
    simpa using Ev.bind awake_ev (Ev.now true)
  obtain ⟨h0, h1⟩ := hf
  simp only [decide_eq_true (show l0.length ≤ 45 ∧ l1.length ≤ 90 from ⟨h0, h1⟩), if_true, copied_eq l0 l1 (by omega) (by omega), Option.bind_some, addNode_eq l0 l1 a1 h0 h1]
  refine Ev.bind (refAddNode_ev l0 l1 a1 h0 h1) ?_
  generalize hR : (if validE l0 l1 = 0 then (if kindB a1 = true then (if l0.length = 40 then ([], [], 0, 3) else (l0 ++ [a1], l1, (l0.length : Int), 0)) else ([], [], 0, 6)) else ([], [], 0, validE l0 l1) : List Int × List S38 × Int × Int) = R
  have hl0 : R.1.length ≤ 1000000 := by rw [← hR]; (repeat' split) <;> simp <;> omega
  have hl1 : R.2.1.length ≤ 1000000 := by rw [← hR]; (repeat' split) <;> simp <;> omega
  have hne : R.2.2.2 = 0 → l0.length ≠ R.1.length := by
    rw [← hR]; intro h
    split at h
    · split at h
      · split at h
        · simp at h
        · rename_i a b c; simp [a, b, c]
      · simp at h
    · rename_i a; exact absurd h a
  clear hR
  simp only [graph_Valid.f, Option.bind_some]
  refine Ev.bind (valid_ev l0 l1) ?_
  simp only [if_true]
  refine Ev.bind (same_self R.1 R.2.1 hl0 hl1) ?_
  simp only [if_true]
  refine Ev.bind (gsame_self l0 l1 (by omega) (by omega)) ?_
  simp only [if_true]
  by_cases he : R.2.2.2 = 0
  · simp only [if_pos he]
    exact Ev.bind (gsame_nodes l0 R.1 l1 R.2.1 (hne he)) (Ev.now _)
  · simp only [if_neg he]
    exact Ev.now _
end Go.Proofs.Ytmbnibonggbjgaa.Pure


namespace Go.Proofs.Ytmbnibonggbjgaa.graphAdd
open Go.ChangeShapes Go.WideShapes Go.ChangeAt Go.RowKit
open Go.ChangeMaps (open_string shut_string)
open Go.Proofs.YtmbnibonggbjgaaW.PrintWords Go.Proofs.Ytmbnibonggbjgaa.X
set_option linter.unusedVariables false
theorem own : ownKnob Try.prog.godebug = none := by kernel_rfl
theorem laidOut : laidOutB Try.prog = true := by kernel_rfl
set_option maxRecDepth 100000 in
theorem lifted (os : Os) (started : os.Started) (H : Type) (enc : TypeId × Value → H) :
    ReturnsInHanded {} Try.checked os 5 .any (Rows.graphAddSpec.pre6 enc Try.prog Try.f5 Rows.graphAddRow.domain false) (Rows.graphAddSpec.post enc Try.prog Try.f5 false true false false) := by
  refine returnsInHanded_of_change_sized (C := Try.checked) own started (by kernel_rfl) Try.func5
    (ChangeSpec.witness6 (enc := enc) (C := Try.checked) false ⟨#[], #[.agg #[.slice none 0 0, .slice none 0 0], .int .i64 0], []⟩ 8 (by kernel_rfl) (by kernel_rfl) (by kernel_rfl) (by kernel_rfl)) ?_
  intro W base args ds gs before hval0 hW hcnd hsz0 _
  clear hsz0
  have hval : ∀ (j : Nat) t v, Try.f5.params[j]? = some t → args[j]? = some v → Value.okWide Try.prog W .any base t v := hval0
  have hW' := hW
  obtain ⟨p, q, hA0, hV, rfl, hfz, hnd⟩ := hW
  have hA : DataW.TrodAll enc Try.prog W 0 (fun _ => true) true Try.f5.params.toList args.toList ds p := hA0
  rw [Try.params5] at hA hval
  obtain ⟨v0, vs0, d0, ds0, p0, q0, hargs, rfl, rfl, h0, r0⟩ := trodAll_cons hA
  obtain ⟨v1, vs1, d1, ds1, p1, q1, rfl, rfl, rfl, h1, r1⟩ := trodAll_cons r0
  obtain ⟨rfl, rfl, rfl⟩ := trodAll_nil r1
  obtain rfl : args = #[v0, v1] := by cases args; simp_all
  obtain ⟨rfl, rfl⟩ := trodVars_none hV
  have k0 := h0
  have lt0 : ∀ x ∈ p0, x.block < W.heap.size := by obtain ⟨m, hm⟩ := k0; exact DataW.trod_lt m _ _ _ hm
  obtain ⟨cs0, rfl, hz0⟩ := okWide_struct Try.underlying25 (hval 0 25 v0 rfl rfl)
  obtain ⟨m0, hm0⟩ := h0
  obtain ⟨x0, K0, g0⟩ := Open.open25 hm0
  replace K0 : k25.K W x0 cs0.toList := K0
  obtain ⟨A0_0, c0_0, A0_1, c0_1, e0, hc0_0, hr0_0, hc0_1, hr0_1⟩ := k25_open K0
  obtain rfl : cs0 = #[.slice A0_0 x0.f0.length c0_0, .slice A0_1 x0.f1.length c0_1] := by apply Array.toList_inj.mp; rw [e0]
  obtain ⟨a1, rfl, rfl, rfl, w1⟩ := open_int Try.underlying3 (hval 1 3 v1 rfl rfl) h1
  clear hA0 hval0
  obtain ⟨k, hp⟩ := Pure.GraphAdd_pure x0.f0 x0.f1 a1 g0 w1
  refine (scarfjointlaw05_GraphAdd.calls k _ _ x0.f0 _ _ x0.f1 a1 true W hr0_0 hc0_0 hr0_1 hc0_1 hp).mono fun e W' ⟨he, bel⟩ => ?_
  subst he
  exact ⟨_, rfl, _, _, _, [], _, [], hW', trodAll_mk1 (shut_bool Try.underlying4 _), (trodAll_cons_mk (Below.trod laidOut (by kernel_rfl) (of_decide_eq_true (by kernel_rfl)) k0 bel lt0) (trodAll_cons_mk (shut_int Try.underlying3 w1) trodAll_mk0)), rfl, bel.frame _, fun h => by cases h⟩
theorem over : Rows.graphAddRow.holds Try.pinned (OpenSpec.ofChange Rows.graphAddSpec) :=
  OpenClaim.holds_of_wide 5 Try.f5 rfl rfl rfl rfl rfl rfl rfl ⟨rfl, rfl, rfl, rfl, rfl⟩ rfl rfl rfl rfl rfl (by kernel_rfl) Try.func5 (by kernel_rfl)
    (of_decide_eq_true (by kernel_rfl)) (by unfold Func.isWrapper; first | (rw [if_pos (by decide +kernel)]; kernel_rfl) | (rw [if_neg (by decide +kernel)]; exact ⟨rfl, rfl⟩))
    (fun os started H enc _ => lifted os started H enc)
theorem proved : Rows.GraphAddSaid := over
#print axioms proved
end Go.Proofs.Ytmbnibonggbjgaa.graphAdd
namespace Go.Proofs.Ytmbnibonggbjgaa
/-- The row, under a short name, for the claim. -/
theorem graphAdd_holds : Rows.GraphAddSaid := graphAdd.proved
end Go.Proofs.Ytmbnibonggbjgaa
