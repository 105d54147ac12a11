/- A part of the proof that the law GraphRemove returns true at every input: contracts of the functions that it calls, and lemmas. -/
import Derived.Test.YtmbnibonggbjgaaZGraphRemove3
namespace Go.Proofs.Ytmbnibonggbjgaa.X
open Go.RowKit Go.Proofs.YtmbnibonggbjgaaW.PrintWords Go.Proofs.YtmbnibonggbjgaaW.PrintLast Go.Proofs.YtmbnibonggbjgaaW.PrintMore
open Go.Proofs.YtmbnibonggbjgaaW.PrintWords renaming blk_drewN → bN, blk_drew → bD, blk_alloc → bA, below_alloc → wA, pw_below_drewN → wN, below_drew1 → wD, blk_below → bB, below_step → wS, blk_at → bT, blk_grown → bG
open Go.Proofs.YtmbnibonggbjgaaW.PrintWords.Kd renaming R_alloc → rA, R_drewN → rN, R_drew → rD, R_below → rB, R_grown → rG, C_below → cB, C_alloc → cA, C_drewN → cN, C_drew → cD
attribute [local go_sem] max2_int min2_int max_two min_two max_three min_three max_four min_four
set_option linter.unusedVariables false
set_option linter.unusedSimpArgs false
/-! ### scarfjointlaw05_awake: function 10 -/
def scarfjointlaw05_awake.f (k : Nat)  : Option (Bool) := (scarfjointlaw05_example.f).bind fun bt101 => ((graph_Remove.f k bt101.1 bt101.2 (([1] : List Int)) (([0] : List Int))).bind fun bt113 => ((scarfjointlaw05_example.f).bind fun bt128 => ((graph_Remove.f k bt128.1 bt128.2 (([1] : List Int)) ([] : List Int)).bind fun bt137 => ((scarfjointlaw05_example.f).bind fun bt152 => ((graph_Components.f k bt152.1 bt152.2).bind fun bt158 => (if bt113.2.2.2.2 = 0 then ((scarfjointref05_Same.f k bt113.1 bt113.2.1 (([3, 1] : List Int)) (([(⟨0, 0, 1⟩ : S38)] : List (S38)))).bind fun t168 => (if t168 = true then ((slices_Equal_int_int.f k bt113.2.2.1 (([0, (-1), 1] : List Int))).bind fun t172 => (if t172 = true then ((slices_Equal_int_int.f k bt113.2.2.2.1 (([(-1), 0] : List Int))).bind fun t176 => (if t176 = true then (if bt137.2.2.2.2 = 14 then (if bt158.2 = 0 then (some ((bt158.1.length : Int) == 1)) else (none)) else (none)) else (none))) else (none))) else (none))) else (none)))))))
theorem scarfjointlaw05_awake.mono : ∀ k, LeO (scarfjointlaw05_awake.f k ) (scarfjointlaw05_awake.f (k + 1) ) := by
 intro  k
 unfold scarfjointlaw05_awake.f
 repeat' first
   | (with_reducible exact graph_Components.mono _ _ _)
   | (with_reducible exact graph_Remove.mono _ _ _ _ _)
   | (with_reducible exact scarfjointref05_Same.mono _ _ _ _ _)
   | (with_reducible exact slices_Equal_int_int.mono _ _ _)
   | (with_reducible exact LeO.refl _)
   | (with_reducible exact LeO.none _)
   | (with_reducible refine LeO.ite ?_ ?_)
   | (with_reducible refine LeO.bind ?_ (fun _ => ?_))
   | exact graph_Components.mono _ _ _
   | exact graph_Remove.mono _ _ _ _ _
   | exact scarfjointref05_Same.mono _ _ _ _ _
   | exact slices_Equal_int_int.mono _ _ _
   | exact LeO.none _
   | refine LeO.ite ?_ ?_
   | refine LeO.bind ?_ (fun _ => ?_)
set_option maxHeartbeats 8000000 in
set_option maxRecDepth 100000 in
theorem scarfjointlaw05_awake.calls (k : Nat)  (r : Bool) (w : World) (h : scarfjointlaw05_awake.f k  = some r) :
  Calls Try.prog 10 #[] w fun e w' => e = .returned (.bool r) ∧ Below w.heap.size w w' := by
 have hu25 := Try.underlying25
 have hu29 := Try.underlying29
 have hu38 := Try.underlying38
 have HB := Aside0.mk (Below.refl w.heap.size w)
 have H : ((scarfjointlaw05_example.f).bind fun bt101 => ((graph_Remove.f k bt101.1 bt101.2 (([1] : List Int)) (([0] : List Int))).bind fun bt113 => ((scarfjointlaw05_example.f).bind fun bt128 => ((graph_Remove.f k bt128.1 bt128.2 (([1] : List Int)) ([] : List Int)).bind fun bt137 => ((scarfjointlaw05_example.f).bind fun bt152 => ((graph_Components.f k bt152.1 bt152.2).bind fun bt158 => (if bt113.2.2.2.2 = 0 then ((scarfjointref05_Same.f k bt113.1 bt113.2.1 (([3, 1] : List Int)) (([(⟨0, 0, 1⟩ : S38)] : List (S38)))).bind fun t168 => (if t168 = true then ((slices_Equal_int_int.f k bt113.2.2.1 (([0, (-1), 1] : List Int))).bind fun t172 => (if t172 = true then ((slices_Equal_int_int.f k bt113.2.2.2.1 (([(-1), 0] : List Int))).bind fun t176 => (if t176 = true then (if bt137.2.2.2.2 = 14 then (if bt158.2 = 0 then (some ((bt158.1.length : Int) == 1)) else (none)) else (none)) else (none))) else (none))) else (none))) else (none)))))))) = some r := h
 clear h
 replace H := Option.bind_eq_some_iff.mp H
 obtain ⟨⟨t101, t104⟩, A10, H⟩ := H
 replace H : ((graph_Remove.f k t101 t104 (([1] : List Int)) (([0] : List Int))).bind fun bt113 => ((scarfjointlaw05_example.f).bind fun bt128 => ((graph_Remove.f k bt128.1 bt128.2 (([1] : List Int)) ([] : List Int)).bind fun bt137 => ((scarfjointlaw05_example.f).bind fun bt152 => ((graph_Components.f k bt152.1 bt152.2).bind fun bt158 => (if bt113.2.2.2.2 = 0 then ((scarfjointref05_Same.f k bt113.1 bt113.2.1 (([3, 1] : List Int)) (([(⟨0, 0, 1⟩ : S38)] : List (S38)))).bind fun t168 => (if t168 = true then ((slices_Equal_int_int.f k bt113.2.2.1 (([0, (-1), 1] : List Int))).bind fun t172 => (if t172 = true then ((slices_Equal_int_int.f k bt113.2.2.2.1 (([(-1), 0] : List Int))).bind fun t176 => (if t176 = true then (if bt137.2.2.2.2 = 14 then (if bt158.2 = 0 then (some ((bt158.1.length : Int) == 1)) else (none)) else (none)) else (none))) else (none))) else (none))) else (none))))))) = some r := H
 have A1 := Aside0.mk A10
 clear A10
 obtain ⟨y107, hy107⟩ : ∃ y_ : List Int, y_ = (([1] : List Int)) := ⟨_, rfl⟩
 replace H : ((graph_Remove.f k t101 t104 y107 (([0] : List Int))).bind fun bt113 => ((scarfjointlaw05_example.f).bind fun bt128 => ((graph_Remove.f k bt128.1 bt128.2 (([1] : List Int)) ([] : List Int)).bind fun bt137 => ((scarfjointlaw05_example.f).bind fun bt152 => ((graph_Components.f k bt152.1 bt152.2).bind fun bt158 => (if bt113.2.2.2.2 = 0 then ((scarfjointref05_Same.f k bt113.1 bt113.2.1 (([3, 1] : List Int)) (([(⟨0, 0, 1⟩ : S38)] : List (S38)))).bind fun t168 => (if t168 = true then ((slices_Equal_int_int.f k bt113.2.2.1 (([0, (-1), 1] : List Int))).bind fun t172 => (if t172 = true then ((slices_Equal_int_int.f k bt113.2.2.2.1 (([(-1), 0] : List Int))).bind fun t176 => (if t176 = true then (if bt137.2.2.2.2 = 14 then (if bt158.2 = 0 then (some ((bt158.1.length : Int) == 1)) else (none)) else (none)) else (none))) else (none))) else (none))) else (none))))))) = some r := by first | (rw [hy107]; with_reducible exact H) | (have H2_ := (Option.bind_some _ _).symm.trans H; rw [hy107]; with_reducible exact H2_) | (have H2_ := (Option.bind_some _ _).symm.trans H; with_reducible exact H2_) | with_reducible exact H | (rw [hy107]; exact H) | exact H
 have Ny107 := Aside0.mk hy107
 clear hy107
 obtain ⟨y110, hy110⟩ : ∃ y_ : List Int, y_ = (([0] : List Int)) := ⟨_, rfl⟩
 replace H : ((graph_Remove.f k t101 t104 y107 y110).bind fun bt113 => ((scarfjointlaw05_example.f).bind fun bt128 => ((graph_Remove.f k bt128.1 bt128.2 (([1] : List Int)) ([] : List Int)).bind fun bt137 => ((scarfjointlaw05_example.f).bind fun bt152 => ((graph_Components.f k bt152.1 bt152.2).bind fun bt158 => (if bt113.2.2.2.2 = 0 then ((scarfjointref05_Same.f k bt113.1 bt113.2.1 (([3, 1] : List Int)) (([(⟨0, 0, 1⟩ : S38)] : List (S38)))).bind fun t168 => (if t168 = true then ((slices_Equal_int_int.f k bt113.2.2.1 (([0, (-1), 1] : List Int))).bind fun t172 => (if t172 = true then ((slices_Equal_int_int.f k bt113.2.2.2.1 (([(-1), 0] : List Int))).bind fun t176 => (if t176 = true then (if bt137.2.2.2.2 = 14 then (if bt158.2 = 0 then (some ((bt158.1.length : Int) == 1)) else (none)) else (none)) else (none))) else (none))) else (none))) else (none))))))) = some r := by first | (rw [hy110]; with_reducible exact H) | (have H2_ := (Option.bind_some _ _).symm.trans H; rw [hy110]; with_reducible exact H2_) | (have H2_ := (Option.bind_some _ _).symm.trans H; with_reducible exact H2_) | with_reducible exact H | (rw [hy110]; exact H) | exact H
 have Ny110 := Aside0.mk hy110
 clear hy110
 replace H := Option.bind_eq_some_iff.mp H
 obtain ⟨⟨t113, t116, t119, t122, t125⟩, A20, H⟩ := H
 replace H : ((scarfjointlaw05_example.f).bind fun bt128 => ((graph_Remove.f k bt128.1 bt128.2 (([1] : List Int)) ([] : List Int)).bind fun bt137 => ((scarfjointlaw05_example.f).bind fun bt152 => ((graph_Components.f k bt152.1 bt152.2).bind fun bt158 => (if t125 = 0 then ((scarfjointref05_Same.f k t113 t116 (([3, 1] : List Int)) (([(⟨0, 0, 1⟩ : S38)] : List (S38)))).bind fun t168 => (if t168 = true then ((slices_Equal_int_int.f k t119 (([0, (-1), 1] : List Int))).bind fun t172 => (if t172 = true then ((slices_Equal_int_int.f k t122 (([(-1), 0] : List Int))).bind fun t176 => (if t176 = true then (if bt137.2.2.2.2 = 14 then (if bt158.2 = 0 then (some ((bt158.1.length : Int) == 1)) else (none)) else (none)) else (none))) else (none))) else (none))) else (none)))))) = some r := H
 have A2 := Aside0.mk A20
 clear A20
 replace H := Option.bind_eq_some_iff.mp H
 obtain ⟨⟨t128, t131⟩, A30, H⟩ := H
 replace H : ((graph_Remove.f k t128 t131 (([1] : List Int)) ([] : List Int)).bind fun bt137 => ((scarfjointlaw05_example.f).bind fun bt152 => ((graph_Components.f k bt152.1 bt152.2).bind fun bt158 => (if t125 = 0 then ((scarfjointref05_Same.f k t113 t116 (([3, 1] : List Int)) (([(⟨0, 0, 1⟩ : S38)] : List (S38)))).bind fun t168 => (if t168 = true then ((slices_Equal_int_int.f k t119 (([0, (-1), 1] : List Int))).bind fun t172 => (if t172 = true then ((slices_Equal_int_int.f k t122 (([(-1), 0] : List Int))).bind fun t176 => (if t176 = true then (if bt137.2.2.2.2 = 14 then (if bt158.2 = 0 then (some ((bt158.1.length : Int) == 1)) else (none)) else (none)) else (none))) else (none))) else (none))) else (none))))) = some r := H
 have A3 := Aside0.mk A30
 clear A30
 obtain ⟨y134, hy134⟩ : ∃ y_ : List Int, y_ = (([1] : List Int)) := ⟨_, rfl⟩
 replace H : ((graph_Remove.f k t128 t131 y134 ([] : List Int)).bind fun bt137 => ((scarfjointlaw05_example.f).bind fun bt152 => ((graph_Components.f k bt152.1 bt152.2).bind fun bt158 => (if t125 = 0 then ((scarfjointref05_Same.f k t113 t116 (([3, 1] : List Int)) (([(⟨0, 0, 1⟩ : S38)] : List (S38)))).bind fun t168 => (if t168 = true then ((slices_Equal_int_int.f k t119 (([0, (-1), 1] : List Int))).bind fun t172 => (if t172 = true then ((slices_Equal_int_int.f k t122 (([(-1), 0] : List Int))).bind fun t176 => (if t176 = true then (if bt137.2.2.2.2 = 14 then (if bt158.2 = 0 then (some ((bt158.1.length : Int) == 1)) else (none)) else (none)) else (none))) else (none))) else (none))) else (none))))) = some r := by first | (rw [hy134]; with_reducible exact H) | (have H2_ := (Option.bind_some _ _).symm.trans H; rw [hy134]; with_reducible exact H2_) | (have H2_ := (Option.bind_some _ _).symm.trans H; with_reducible exact H2_) | with_reducible exact H | (rw [hy134]; exact H) | exact H
 have Ny134 := Aside0.mk hy134
 clear hy134
 replace H := Option.bind_eq_some_iff.mp H
 obtain ⟨⟨t137, t140, t143, t146, t149⟩, A40, H⟩ := H
 replace H : ((scarfjointlaw05_example.f).bind fun bt152 => ((graph_Components.f k bt152.1 bt152.2).bind fun bt158 => (if t125 = 0 then ((scarfjointref05_Same.f k t113 t116 (([3, 1] : List Int)) (([(⟨0, 0, 1⟩ : S38)] : List (S38)))).bind fun t168 => (if t168 = true then ((slices_Equal_int_int.f k t119 (([0, (-1), 1] : List Int))).bind fun t172 => (if t172 = true then ((slices_Equal_int_int.f k t122 (([(-1), 0] : List Int))).bind fun t176 => (if t176 = true then (if t149 = 14 then (if bt158.2 = 0 then (some ((bt158.1.length : Int) == 1)) else (none)) else (none)) else (none))) else (none))) else (none))) else (none)))) = some r := H
 have A4 := Aside0.mk A40
 clear A40
 replace H := Option.bind_eq_some_iff.mp H
 obtain ⟨⟨t152, t155⟩, A50, H⟩ := H
 replace H : ((graph_Components.f k t152 t155).bind fun bt158 => (if t125 = 0 then ((scarfjointref05_Same.f k t113 t116 (([3, 1] : List Int)) (([(⟨0, 0, 1⟩ : S38)] : List (S38)))).bind fun t168 => (if t168 = true then ((slices_Equal_int_int.f k t119 (([0, (-1), 1] : List Int))).bind fun t172 => (if t172 = true then ((slices_Equal_int_int.f k t122 (([(-1), 0] : List Int))).bind fun t176 => (if t176 = true then (if t149 = 14 then (if bt158.2 = 0 then (some ((bt158.1.length : Int) == 1)) else (none)) else (none)) else (none))) else (none))) else (none))) else (none))) = some r := H
 have A5 := Aside0.mk A50
 clear A50
 replace H := Option.bind_eq_some_iff.mp H
 obtain ⟨⟨t158, t161⟩, A60, H⟩ := H
 replace H : (if t125 = 0 then ((scarfjointref05_Same.f k t113 t116 (([3, 1] : List Int)) (([(⟨0, 0, 1⟩ : S38)] : List (S38)))).bind fun t168 => (if t168 = true then ((slices_Equal_int_int.f k t119 (([0, (-1), 1] : List Int))).bind fun t172 => (if t172 = true then ((slices_Equal_int_int.f k t122 (([(-1), 0] : List Int))).bind fun t176 => (if t176 = true then (if t149 = 14 then (if t161 = 0 then (some ((t158.length : Int) == 1)) else (none)) else (none)) else (none))) else (none))) else (none))) else (none)) = some r := H
 have A6 := Aside0.mk A60
 clear A60
 by_cases c7 : t125 = 0
 ·rw [if_pos c7] at H
  have c7b0 : (t125 == 0) = true := beq_iff_eq.mpr c7
  have c7b1 : (t125 != 0) = false := bne_eq_false_iff_eq.mpr c7
  clear c7
  obtain ⟨y162, hy162⟩ : ∃ y_ : List Int, y_ = (([3, 1] : List Int)) := ⟨_, rfl⟩
  replace H : ((scarfjointref05_Same.f k t113 t116 y162 (([(⟨0, 0, 1⟩ : S38)] : List (S38)))).bind fun t168 => (if t168 = true then ((slices_Equal_int_int.f k t119 (([0, (-1), 1] : List Int))).bind fun t172 => (if t172 = true then ((slices_Equal_int_int.f k t122 (([(-1), 0] : List Int))).bind fun t176 => (if t176 = true then (if t149 = 14 then (if t161 = 0 then (some ((t158.length : Int) == 1)) else (none)) else (none)) else (none))) else (none))) else (none))) = some r := by first | (rw [hy162]; with_reducible exact H) | (have H2_ := (Option.bind_some _ _).symm.trans H; rw [hy162]; with_reducible exact H2_) | (have H2_ := (Option.bind_some _ _).symm.trans H; with_reducible exact H2_) | with_reducible exact H | (rw [hy162]; exact H) | exact H
  have Ny162 := Aside0.mk hy162
  clear hy162
  obtain ⟨y165, hy165⟩ : ∃ y_ : List (S38), y_ = (([(⟨0, 0, 1⟩ : S38)] : List (S38))) := ⟨_, rfl⟩
  replace H : ((scarfjointref05_Same.f k t113 t116 y162 y165).bind fun t168 => (if t168 = true then ((slices_Equal_int_int.f k t119 (([0, (-1), 1] : List Int))).bind fun t172 => (if t172 = true then ((slices_Equal_int_int.f k t122 (([(-1), 0] : List Int))).bind fun t176 => (if t176 = true then (if t149 = 14 then (if t161 = 0 then (some ((t158.length : Int) == 1)) else (none)) else (none)) else (none))) else (none))) else (none))) = some r := by first | (rw [hy165]; with_reducible exact H) | (have H2_ := (Option.bind_some _ _).symm.trans H; rw [hy165]; with_reducible exact H2_) | (have H2_ := (Option.bind_some _ _).symm.trans H; with_reducible exact H2_) | with_reducible exact H | (rw [hy165]; exact H) | exact H
  have Ny165 := Aside0.mk hy165
  clear hy165
  replace H := Option.bind_eq_some_iff.mp H
  obtain ⟨t168, A80, H⟩ := H
  replace H : (if t168 = true then ((slices_Equal_int_int.f k t119 (([0, (-1), 1] : List Int))).bind fun t172 => (if t172 = true then ((slices_Equal_int_int.f k t122 (([(-1), 0] : List Int))).bind fun t176 => (if t176 = true then (if t149 = 14 then (if t161 = 0 then (some ((t158.length : Int) == 1)) else (none)) else (none)) else (none))) else (none))) else (none)) = some r := H
  have A8 := Aside0.mk A80
  clear A80
  by_cases c9 : t168 = true
  ·subst c9
   have H1 : ((slices_Equal_int_int.f k t119 (([0, (-1), 1] : List Int))).bind fun t172 => (if t172 = true then ((slices_Equal_int_int.f k t122 (([(-1), 0] : List Int))).bind fun t176 => (if t176 = true then (if t149 = 14 then (if t161 = 0 then (some ((t158.length : Int) == 1)) else (none)) else (none)) else (none))) else (none))) = some r := by rw [if_pos rfl] at H; exact H
   clear H
   have H := H1
   clear H1
   obtain ⟨y169, hy169⟩ : ∃ y_ : List Int, y_ = (([0, (-1), 1] : List Int)) := ⟨_, rfl⟩
   replace H : ((slices_Equal_int_int.f k t119 y169).bind fun t172 => (if t172 = true then ((slices_Equal_int_int.f k t122 (([(-1), 0] : List Int))).bind fun t176 => (if t176 = true then (if t149 = 14 then (if t161 = 0 then (some ((t158.length : Int) == 1)) else (none)) else (none)) else (none))) else (none))) = some r := by first | (rw [hy169]; with_reducible exact H) | (have H2_ := (Option.bind_some _ _).symm.trans H; rw [hy169]; with_reducible exact H2_) | (have H2_ := (Option.bind_some _ _).symm.trans H; with_reducible exact H2_) | with_reducible exact H | (rw [hy169]; exact H) | exact H
   have Ny169 := Aside0.mk hy169
   clear hy169
   replace H := Option.bind_eq_some_iff.mp H
   obtain ⟨t172, A100, H⟩ := H
   replace H : (if t172 = true then ((slices_Equal_int_int.f k t122 (([(-1), 0] : List Int))).bind fun t176 => (if t176 = true then (if t149 = 14 then (if t161 = 0 then (some ((t158.length : Int) == 1)) else (none)) else (none)) else (none))) else (none)) = some r := H
   have A10 := Aside0.mk A100
   clear A100
   by_cases c11 : t172 = true
   ·subst c11
    have H1 : ((slices_Equal_int_int.f k t122 (([(-1), 0] : List Int))).bind fun t176 => (if t176 = true then (if t149 = 14 then (if t161 = 0 then (some ((t158.length : Int) == 1)) else (none)) else (none)) else (none))) = some r := by rw [if_pos rfl] at H; exact H
    clear H
    have H := H1
    clear H1
    obtain ⟨y173, hy173⟩ : ∃ y_ : List Int, y_ = (([(-1), 0] : List Int)) := ⟨_, rfl⟩
    replace H : ((slices_Equal_int_int.f k t122 y173).bind fun t176 => (if t176 = true then (if t149 = 14 then (if t161 = 0 then (some ((t158.length : Int) == 1)) else (none)) else (none)) else (none))) = some r := by first | (rw [hy173]; with_reducible exact H) | (have H2_ := (Option.bind_some _ _).symm.trans H; rw [hy173]; with_reducible exact H2_) | (have H2_ := (Option.bind_some _ _).symm.trans H; with_reducible exact H2_) | with_reducible exact H | (rw [hy173]; exact H) | exact H
    have Ny173 := Aside0.mk hy173
    clear hy173
    replace H := Option.bind_eq_some_iff.mp H
    obtain ⟨t176, A120, H⟩ := H
    replace H : (if t176 = true then (if t149 = 14 then (if t161 = 0 then (some ((t158.length : Int) == 1)) else (none)) else (none)) else (none)) = some r := H
    have A12 := Aside0.mk A120
    clear A120
    by_cases c13 : t176 = true
    ·subst c13
     have H1 : (if t149 = 14 then (if t161 = 0 then (some ((t158.length : Int) == 1)) else (none)) else (none)) = some r := by rw [if_pos rfl] at H; exact H
     clear H
     have H := H1
     clear H1
     by_cases c14 : t149 = 14
     ·rw [if_pos c14] at H
      have c14b0 : (t149 == 14) = true := beq_iff_eq.mpr c14
      have c14b1 : (t149 != 14) = false := bne_eq_false_iff_eq.mpr c14
      clear c14
      by_cases c15 : t161 = 0
      ·rw [if_pos c15] at H
       have c15b0 : (t161 == 0) = true := beq_iff_eq.mpr c15
       have c15b1 : (t161 != 0) = false := bne_eq_false_iff_eq.mpr c15
       clear c15
       obtain rfl := Option.some.inj H
       go_enter Try.func10, Try.ntmps10
       go_wp2_with (first | ((with_reducible refine gate_callee (f := 38) rfl ?_); refine goesL_ (some 10) rfl rfl Try.func38 (by kernel_rfl) rfl #[] rfl aM ?_; (with_reducible refine (scarfjointlaw05_example.calls  t101 t104 _ A1.out).mono ?_); rintro e w16 ⟨v102, v105, rfl, ho0, ho1, hb⟩; refine ⟨_, rfl, ?_⟩; have n0_ := Aside0.mk (Kd.R_lower ho0 (below_size hB)); have n1_ := Aside0.mk (Kd.R_lower ho1 (below_size hB)); have n2_ := Aside0.mk (wS hB hb); clear HB; have HO103 := n0_; have HO106 := n1_; have HB := n2_; clear n0_ n1_ n2_; (try clear hb); (try clear hb2); (try clear hk); (try clear hi); (try clear ho0); (try clear ho1)) | ((with_reducible refine gate_dst (N := 11) rfl ?_); (try (refine gate_guard (by rfl) ?_; dsimp only)); refine Kd.R_lit (Kd.int .i64) _ 3 ?hg (N := 11) ?hd (xs := ([1] : List Int)) (inner := [.int .i64 1]) (ok := fun _ => True) (okp := fun _ => True) ?hr ?hp (fun _ hk => hk) trivial (Below.refl _ _) (Nat.le_refl _) (by simp) ?_; (case hd => rfl); (case hg => rfl); (case hr => first | (go_simp; done) | (go_simp; rfl)); (case hp => exact (Reps.one (show Kd.M (Kd.int .i64) _ _ _ 1 [.int .i64 1] from rfl) (Reps.none _ _))); intro v108 w17 ho18 hb hg_ hnew_; clear hg_ hnew_; (first | rw [← Ny107.out] at ho18 | (simp only [Int.reduceToNat] at ho18; rw [← Ny107.out] at ho18)); have n0_ := Aside0.mk (Kd.R_elder' (by (with_reducible repeat (first | apply rA | apply rN | apply rD)); exact HO103.out) (Kd.R_base ho18) hb); have n1_ := Aside0.mk (rB (by (with_reducible repeat (first | apply rA | apply rN | apply rD)); exact HO106.out) hb); have n2_ := Aside0.mk (Kd.R_lower (Kd.R_new' ho18 (Kd.R_lt (by (with_reducible repeat (first | apply rA | apply rN | apply rD)); exact HO103.out))) (below_size hB)); have n3_ := Aside0.mk (wS hB hb); clear HO103; clear HO106; clear HB; have HO103 := n0_; have HO106 := n1_; have HO109 := n2_; have HB := n3_; clear n0_ n1_ n2_ n3_; clear hb ho18) | ((with_reducible refine gate_dst (N := 12) rfl ?_); (try (refine gate_guard (by rfl) ?_; dsimp only)); refine Kd.R_lit (Kd.int .i64) _ 3 ?hg (N := 12) ?hd (xs := ([0] : List Int)) (inner := [.int .i64 0]) (ok := fun _ => True) (okp := fun _ => True) ?hr ?hp (fun _ hk => hk) trivial (Below.refl _ _) (Nat.le_refl _) (by simp) ?_; (case hd => rfl); (case hg => rfl); (case hr => first | (go_simp; done) | (go_simp; rfl)); (case hp => exact (Reps.one (show Kd.M (Kd.int .i64) _ _ _ 0 [.int .i64 0] from rfl) (Reps.none _ _))); intro v111 w19 ho20 hb hg_ hnew_; clear hg_ hnew_; (first | rw [← Ny110.out] at ho20 | (simp only [Int.reduceToNat] at ho20; rw [← Ny110.out] at ho20)); have n0_ := Aside0.mk (Kd.R_elder' (by (with_reducible repeat (first | apply rA | apply rN | apply rD)); exact HO103.out) (Kd.R_base ho20) hb); have n1_ := Aside0.mk (rB (by (with_reducible repeat (first | apply rA | apply rN | apply rD)); exact HO106.out) hb); have n2_ := Aside0.mk (Kd.R_elder' (by (with_reducible repeat (first | apply rA | apply rN | apply rD)); exact HO109.out) (Kd.R_base ho20) hb); have n3_ := Aside0.mk (Kd.R_lower (Kd.R_new' (Kd.R_new' ho20 (Kd.R_lt (by (with_reducible repeat (first | apply rA | apply rN | apply rD)); exact HO103.out))) (Kd.R_lt (by (with_reducible repeat (first | apply rA | apply rN | apply rD)); exact HO109.out))) (below_size hB)); have n4_ := Aside0.mk (wS hB hb); clear HO103; clear HO106; clear HO109; clear HB; have HO103 := n0_; have HO106 := n1_; have HO109 := n2_; have HO112 := n3_; have HB := n4_; clear n0_ n1_ n2_ n3_ n4_; clear hb ho20; obtain ⟨Ao21, co21, eo21⟩ := Kd.R_slice HO103.out; subst eo21; obtain ⟨Ao22, co22, eo22⟩ := Kd.R_slice HO106.out; subst eo22; obtain ⟨Ao23, co23, eo23⟩ := Kd.R_slice HO109.out; subst eo23; obtain ⟨Ao24, co24, eo24⟩ := Kd.R_slice HO112.out; subst eo24) | ((with_reducible refine gate_callee (f := 12) rfl ?_); refine goesL_ (some 13) rfl rfl Try.func12 (by kernel_rfl) rfl #[.agg #[.slice Ao21 t101.length co21, .slice Ao22 t104.length co22], .slice Ao23 y107.length co23, .slice Ao24 y110.length co24] rfl aM ?_; (with_reducible refine (graph_Remove.calls k _ _ t101 _ _ t104 _ _ y107 _ _ y110 t113 t116 t119 t122 t125 _ ?side1 ?side2 ?side3 ?side4 ?side5 ?side6 ?side7 ?side8 A2.out).mono ?_); (case side1 => repeat (first | exact (Kd.R_reads' HO103.out).2.2 | (with_reducible refine cA ?_ _) | (with_reducible refine cN ?_ _) | (with_reducible refine cD ?_))); (case side2 => exact (Kd.R_reads' HO103.out).2.1); (case side3 => repeat (first | exact (Kd.R_reads' HO106.out).2.2 | (with_reducible refine cA ?_ _) | (with_reducible refine cN ?_ _) | (with_reducible refine cD ?_))); (case side4 => exact (Kd.R_reads' HO106.out).2.1); (case side5 => repeat (first | exact (Kd.R_reads' HO109.out).2.2 | (with_reducible refine cA ?_ _) | (with_reducible refine cN ?_ _) | (with_reducible refine cD ?_))); (case side6 => exact (Kd.R_reads' HO109.out).2.1); (case side7 => repeat (first | exact (Kd.R_reads' HO112.out).2.2 | (with_reducible refine cA ?_ _) | (with_reducible refine cN ?_ _) | (with_reducible refine cD ?_))); (case side8 => exact (Kd.R_reads' HO112.out).2.1); rintro e w25 ⟨v114, v117, v120, v123, rfl, ho0, ho1, ho2, ho3, hb⟩; refine ⟨_, rfl, ?_⟩; have n0_ := Aside0.mk (Kd.R_mono (Kd.R_told (Kd.R_told (Kd.R_told (Kd.R_old (by (with_reducible repeat (first | apply rA | apply rN | apply rD)); exact HO103.out) hb) (Kd.R_base ho0)) (Kd.R_base ho2)) (Kd.R_base ho3)) (fun _ h_ => h_.1)); have n1_ := Aside0.mk (Kd.R_elder' (by (with_reducible repeat (first | apply rA | apply rN | apply rD)); exact HO106.out) (Kd.R_base ho1) hb); have n2_ := Aside0.mk (Kd.R_mono (Kd.R_told (Kd.R_told (Kd.R_told (Kd.R_old (by (with_reducible repeat (first | apply rA | apply rN | apply rD)); exact HO109.out) hb) (Kd.R_base ho0)) (Kd.R_base ho2)) (Kd.R_base ho3)) (fun _ h_ => h_.1)); have n3_ := Aside0.mk (Kd.R_mono (Kd.R_told (Kd.R_told (Kd.R_told (Kd.R_old (by (with_reducible repeat (first | apply rA | apply rN | apply rD)); exact HO112.out) hb) (Kd.R_base ho0)) (Kd.R_base ho2)) (Kd.R_base ho3)) (fun _ h_ => h_.1)); have n4_ := Aside0.mk (Kd.R_lower (Kd.R_new' (Kd.R_new' (Kd.R_new' ho0 (Kd.R_lt (by (with_reducible repeat (first | apply rA | apply rN | apply rD)); exact HO103.out))) (Kd.R_lt (by (with_reducible repeat (first | apply rA | apply rN | apply rD)); exact HO109.out))) (Kd.R_lt (by (with_reducible repeat (first | apply rA | apply rN | apply rD)); exact HO112.out))) (below_size hB)); have n5_ := Aside0.mk (Kd.R_lower (Kd.R_new' ho1 (Kd.R_lt (by (with_reducible repeat (first | apply rA | apply rN | apply rD)); exact HO106.out))) (below_size hB)); have n6_ := Aside0.mk (Kd.R_lower (Kd.R_new' (Kd.R_new' (Kd.R_new' ho2 (Kd.R_lt (by (with_reducible repeat (first | apply rA | apply rN | apply rD)); exact HO103.out))) (Kd.R_lt (by (with_reducible repeat (first | apply rA | apply rN | apply rD)); exact HO109.out))) (Kd.R_lt (by (with_reducible repeat (first | apply rA | apply rN | apply rD)); exact HO112.out))) (below_size hB)); have n7_ := Aside0.mk (Kd.R_lower (Kd.R_new' (Kd.R_new' (Kd.R_new' ho3 (Kd.R_lt (by (with_reducible repeat (first | apply rA | apply rN | apply rD)); exact HO103.out))) (Kd.R_lt (by (with_reducible repeat (first | apply rA | apply rN | apply rD)); exact HO109.out))) (Kd.R_lt (by (with_reducible repeat (first | apply rA | apply rN | apply rD)); exact HO112.out))) (below_size hB)); have n8_ := Aside0.mk (wS hB hb); clear HO103; clear HO106; clear HO109; clear HO112; clear HB; have HO103 := n0_; have HO106 := n1_; have HO109 := n2_; have HO112 := n3_; have HO115 := n4_; have HO118 := n5_; have HO121 := n6_; have HO124 := n7_; have HB := n8_; clear n0_ n1_ n2_ n3_ n4_ n5_ n6_ n7_ n8_; (try clear hb); (try clear hb2); (try clear hk); (try clear hi); (try clear ho0); (try clear ho1); (try clear ho2); (try clear ho3)) | ((with_reducible refine gate_dst (N := 1) rfl ?_); (try (refine gate_guard (by rfl) ?_; dsimp only)); refine box_event ?hg (N := 1) ?hd (cs := #[.slice none 0 0, .slice none 0 0]) (t := 25) ?hr ?_; (case hd => rfl); (case hg => rfl); (case hr => first | (go_simp; done) | (go_simp; rfl)); intro gb126 hg w26 hbox hb; have n0_ := Aside0.mk (rB (by (with_reducible repeat (first | apply rA | apply rN | apply rD)); exact HO103.out) hb); have n1_ := Aside0.mk (rB (by (with_reducible repeat (first | apply rA | apply rN | apply rD)); exact HO106.out) hb); have n2_ := Aside0.mk (rB (by (with_reducible repeat (first | apply rA | apply rN | apply rD)); exact HO109.out) hb); have n3_ := Aside0.mk (rB (by (with_reducible repeat (first | apply rA | apply rN | apply rD)); exact HO112.out) hb); have n4_ := Aside0.mk (rB (by (with_reducible repeat (first | apply rA | apply rN | apply rD)); exact HO115.out) hb); have n5_ := Aside0.mk (rB (by (with_reducible repeat (first | apply rA | apply rN | apply rD)); exact HO118.out) hb); have n6_ := Aside0.mk (rB (by (with_reducible repeat (first | apply rA | apply rN | apply rD)); exact HO121.out) hb); have n7_ := Aside0.mk (rB (by (with_reducible repeat (first | apply rA | apply rN | apply rD)); exact HO124.out) hb); have n8_ := Aside0.mk (wS hB hb); have n9_ := Aside0.mk (hbox); have n10_ := Aside0.mk ((by rw [hg]; exact (below_size hB) : w.heap.size ≤ gb126)); have n11_ := Aside0.mk ((by rw [hg]; exact (below_size hB) : w.heap.size ≤ gb126)); clear HO103; clear HO106; clear HO109; clear HO112; clear HO115; clear HO118; clear HO121; clear HO124; clear HB; have HO103 := n0_; have HO106 := n1_; have HO109 := n2_; have HO112 := n3_; have HO115 := n4_; have HO118 := n5_; have HO121 := n6_; have HO124 := n7_; have HB := n8_; have BK126 := n9_; have GW126 := n10_; have GE126 := n11_; clear n0_ n1_ n2_ n3_ n4_ n5_ n6_ n7_ n8_ n9_ n10_ n11_; clear hb hbox hg) | ((with_reducible refine gate_dst (N := 2) rfl ?_); (try (refine gate_guard (by rfl) ?_; dsimp only)); refine box_event ?hg (N := 2) ?hd (cs := #[.slice none 0 0, .slice none 0 0]) (t := 29) ?hr ?_; (case hd => rfl); (case hg => rfl); (case hr => first | (go_simp; done) | (go_simp; rfl)); intro gb127 hg w27 hbox hb; have n0_ := Aside0.mk (rB (by (with_reducible repeat (first | apply rA | apply rN | apply rD)); exact HO103.out) hb); have n1_ := Aside0.mk (rB (by (with_reducible repeat (first | apply rA | apply rN | apply rD)); exact HO106.out) hb); have n2_ := Aside0.mk (rB (by (with_reducible repeat (first | apply rA | apply rN | apply rD)); exact HO109.out) hb); have n3_ := Aside0.mk (rB (by (with_reducible repeat (first | apply rA | apply rN | apply rD)); exact HO112.out) hb); have n4_ := Aside0.mk (rB (by (with_reducible repeat (first | apply rA | apply rN | apply rD)); exact HO115.out) hb); have n5_ := Aside0.mk (rB (by (with_reducible repeat (first | apply rA | apply rN | apply rD)); exact HO118.out) hb); have n6_ := Aside0.mk (rB (by (with_reducible repeat (first | apply rA | apply rN | apply rD)); exact HO121.out) hb); have n7_ := Aside0.mk (rB (by (with_reducible repeat (first | apply rA | apply rN | apply rD)); exact HO124.out) hb); have n8_ := Aside0.mk (bB (g := gb126) (o := .cells #[.slice none 0 0, .slice none 0 0] 25 (0, 0)) (by (with_reducible repeat (first | refine bN ?_ _ | refine bD ?_ | refine bA ?_ _)); exact BK126.out) hb); have n9_ := Aside0.mk (wS (by repeat (first | (with_reducible first | exact HB.out | apply wA | apply wN | apply wD | refine below_set ?_ GE126.out) | exact HB.out)) hb); have n10_ := Aside0.mk (hbox); have n11_ := Aside0.mk ((by rw [hg]; exact (below_size (by repeat (first | (with_reducible first | exact HB.out | apply wA | apply wN | apply wD | refine below_set ?_ GE126.out) | exact HB.out))) : w.heap.size ≤ gb127)); have n12_ := Aside0.mk ((by rw [hg]; exact (below_size (by repeat (first | (with_reducible first | exact HB.out | apply wA | apply wN | apply wD | refine below_set ?_ GE126.out) | exact HB.out))) : w.heap.size ≤ gb127)); have n13_ := Aside0.mk ((by rw [hg]; exact Nat.ne_of_lt (blk_lt (g := gb126) (o := .cells #[.slice none 0 0, .slice none 0 0] 25 (0, 0)) (by (with_reducible repeat (first | refine bN ?_ _ | refine bD ?_ | refine bA ?_ _)); exact BK126.out)) : gb126 ≠ gb127)); have n14_ := Aside0.mk ((by rw [hg]; exact Nat.ne_of_gt (blk_lt (g := gb126) (o := .cells #[.slice none 0 0, .slice none 0 0] 25 (0, 0)) (by (with_reducible repeat (first | refine bN ?_ _ | refine bD ?_ | refine bA ?_ _)); exact BK126.out)) : gb127 ≠ gb126)); clear HO103; clear HO106; clear HO109; clear HO112; clear HO115; clear HO118; clear HO121; clear HO124; clear BK126; clear HB; have HO103 := n0_; have HO106 := n1_; have HO109 := n2_; have HO112 := n3_; have HO115 := n4_; have HO118 := n5_; have HO121 := n6_; have HO124 := n7_; have BK126 := n8_; have HB := n9_; have BK127 := n10_; have GW127 := n11_; have GE127 := n12_; have NB126_127 := n13_; have NB127_126 := n14_; clear n0_ n1_ n2_ n3_ n4_ n5_ n6_ n7_ n8_ n9_ n10_ n11_ n12_ n13_ n14_; clear hb hbox hg; obtain ⟨Ao28, co28, eo28⟩ := Kd.R_slice HO115.out; subst eo28; have hnb29 := NB126_127.out; have hnc29 := NB127_126.out; have hcz30_0 : w27.cell? ⟨gb126, 0, none⟩ = some (.slice none 0 0) := (blk_cell BK126.out 0).trans rfl; have hcz30_1 : w27.cell? ⟨gb126, 1, none⟩ = some (.slice none 0 0) := (blk_cell BK126.out 1).trans rfl; have hfz30_0 := blk_frozen BK126.out 0; have hfz30_1 := blk_frozen BK126.out 1; obtain ⟨Ao31, co31, eo31⟩ := Kd.R_slice HO118.out; subst eo31; obtain ⟨Ao32, co32, eo32⟩ := Kd.R_slice HO121.out; subst eo32; have hcz33_0 : w27.cell? ⟨gb127, 0, none⟩ = some (.slice none 0 0) := (blk_cell BK127.out 0).trans rfl; have hcz33_1 : w27.cell? ⟨gb127, 1, none⟩ = some (.slice none 0 0) := (blk_cell BK127.out 1).trans rfl; have hfz33_0 := blk_frozen BK127.out 0; have hfz33_1 := blk_frozen BK127.out 1; obtain ⟨Ao34, co34, eo34⟩ := Kd.R_slice HO124.out; subst eo34) | ((with_reducible refine gate_callee (f := 38) rfl ?_); refine goesL_ (some 18) rfl rfl Try.func38 (by kernel_rfl) rfl #[] rfl aM ?_; (with_reducible refine (scarfjointlaw05_example.calls  t128 t131 _ A3.out).mono ?_); rintro e w35 ⟨v129, v132, rfl, ho0, ho1, hb⟩; refine ⟨_, rfl, ?_⟩; have n0_ := Aside0.mk (Kd.R_elder' (by (with_reducible repeat (first | apply rA | apply rN | apply rD)); exact (Kd.R_mono (Kd.R_mono (Kd.R_far (p := ⟨gb127, 1, none⟩) (Kd.R_far (p := ⟨gb127, 0, none⟩) (Kd.R_far (p := ⟨gb126, 1, none⟩) (Kd.R_far (p := ⟨gb126, 0, none⟩) (Kd.R_types (Kd.R_types HO103.out BK126.out (by decide)) BK127.out (by decide)) (fun _ hk => hk.1.2) (.slice Ao28 t113.length co28)) (fun _ hk => hk.1.2) (.slice Ao31 t116.length co31)) (fun _ hk => hk.2) (.slice Ao32 t119.length co32)) (fun _ hk => hk.2) (.slice Ao34 t122.length co34)) (fun _ h_ => h_.1)) (fun _ h_ => h_.1))) (Kd.R_base ho0) hb); have n1_ := Aside0.mk (Kd.R_elder' (by (with_reducible repeat (first | apply rA | apply rN | apply rD)); exact (Kd.R_mono (Kd.R_mono (Kd.R_far (p := ⟨gb127, 1, none⟩) (Kd.R_far (p := ⟨gb127, 0, none⟩) (Kd.R_far (p := ⟨gb126, 1, none⟩) (Kd.R_far (p := ⟨gb126, 0, none⟩) (Kd.R_types (Kd.R_types HO106.out BK126.out (by decide)) BK127.out (by decide)) (fun _ hk => hk.1.2) (.slice Ao28 t113.length co28)) (fun _ hk => hk.1.2) (.slice Ao31 t116.length co31)) (fun _ hk => hk.2) (.slice Ao32 t119.length co32)) (fun _ hk => hk.2) (.slice Ao34 t122.length co34)) (fun _ h_ => h_.1)) (fun _ h_ => h_.1))) (Kd.R_base ho1) hb); have n2_ := Aside0.mk (Kd.R_elder' (by (with_reducible repeat (first | apply rA | apply rN | apply rD)); exact (Kd.R_mono (Kd.R_mono (Kd.R_far (p := ⟨gb127, 1, none⟩) (Kd.R_far (p := ⟨gb127, 0, none⟩) (Kd.R_far (p := ⟨gb126, 1, none⟩) (Kd.R_far (p := ⟨gb126, 0, none⟩) (Kd.R_types (Kd.R_types HO109.out BK126.out (by decide)) BK127.out (by decide)) (fun _ hk => hk.1.2) (.slice Ao28 t113.length co28)) (fun _ hk => hk.1.2) (.slice Ao31 t116.length co31)) (fun _ hk => hk.2) (.slice Ao32 t119.length co32)) (fun _ hk => hk.2) (.slice Ao34 t122.length co34)) (fun _ h_ => h_.1)) (fun _ h_ => h_.1))) (Kd.R_base ho0) hb); have n3_ := Aside0.mk (Kd.R_elder' (by (with_reducible repeat (first | apply rA | apply rN | apply rD)); exact (Kd.R_mono (Kd.R_mono (Kd.R_far (p := ⟨gb127, 1, none⟩) (Kd.R_far (p := ⟨gb127, 0, none⟩) (Kd.R_far (p := ⟨gb126, 1, none⟩) (Kd.R_far (p := ⟨gb126, 0, none⟩) (Kd.R_types (Kd.R_types HO112.out BK126.out (by decide)) BK127.out (by decide)) (fun _ hk => hk.1.2) (.slice Ao28 t113.length co28)) (fun _ hk => hk.1.2) (.slice Ao31 t116.length co31)) (fun _ hk => hk.2) (.slice Ao32 t119.length co32)) (fun _ hk => hk.2) (.slice Ao34 t122.length co34)) (fun _ h_ => h_.1)) (fun _ h_ => h_.1))) (Kd.R_base ho0) hb); have n4_ := Aside0.mk (Kd.R_elder' (by (with_reducible repeat (first | apply rA | apply rN | apply rD)); exact (Kd.R_mono (Kd.R_mono (Kd.R_far (p := ⟨gb127, 1, none⟩) (Kd.R_far (p := ⟨gb127, 0, none⟩) (Kd.R_far (p := ⟨gb126, 1, none⟩) (Kd.R_far (p := ⟨gb126, 0, none⟩) (Kd.R_types (Kd.R_types HO115.out BK126.out (by decide)) BK127.out (by decide)) (fun _ hk => hk.1.2) (.slice Ao28 t113.length co28)) (fun _ hk => hk.1.2) (.slice Ao31 t116.length co31)) (fun _ hk => hk.2) (.slice Ao32 t119.length co32)) (fun _ hk => hk.2) (.slice Ao34 t122.length co34)) (fun _ h_ => h_.1)) (fun _ h_ => h_.1))) (Kd.R_base ho0) hb); have n5_ := Aside0.mk (Kd.R_elder' (by (with_reducible repeat (first | apply rA | apply rN | apply rD)); exact (Kd.R_mono (Kd.R_mono (Kd.R_far (p := ⟨gb127, 1, none⟩) (Kd.R_far (p := ⟨gb127, 0, none⟩) (Kd.R_far (p := ⟨gb126, 1, none⟩) (Kd.R_far (p := ⟨gb126, 0, none⟩) (Kd.R_types (Kd.R_types HO118.out BK126.out (by decide)) BK127.out (by decide)) (fun _ hk => hk.1.2) (.slice Ao28 t113.length co28)) (fun _ hk => hk.1.2) (.slice Ao31 t116.length co31)) (fun _ hk => hk.2) (.slice Ao32 t119.length co32)) (fun _ hk => hk.2) (.slice Ao34 t122.length co34)) (fun _ h_ => h_.1)) (fun _ h_ => h_.1))) (Kd.R_base ho1) hb); have n6_ := Aside0.mk (Kd.R_elder' (by (with_reducible repeat (first | apply rA | apply rN | apply rD)); exact (Kd.R_mono (Kd.R_mono (Kd.R_far (p := ⟨gb127, 1, none⟩) (Kd.R_far (p := ⟨gb127, 0, none⟩) (Kd.R_far (p := ⟨gb126, 1, none⟩) (Kd.R_far (p := ⟨gb126, 0, none⟩) (Kd.R_types (Kd.R_types HO121.out BK126.out (by decide)) BK127.out (by decide)) (fun _ hk => hk.1.2) (.slice Ao28 t113.length co28)) (fun _ hk => hk.1.2) (.slice Ao31 t116.length co31)) (fun _ hk => hk.2) (.slice Ao32 t119.length co32)) (fun _ hk => hk.2) (.slice Ao34 t122.length co34)) (fun _ h_ => h_.1)) (fun _ h_ => h_.1))) (Kd.R_base ho0) hb); have n7_ := Aside0.mk (Kd.R_elder' (by (with_reducible repeat (first | apply rA | apply rN | apply rD)); exact (Kd.R_mono (Kd.R_mono (Kd.R_far (p := ⟨gb127, 1, none⟩) (Kd.R_far (p := ⟨gb127, 0, none⟩) (Kd.R_far (p := ⟨gb126, 1, none⟩) (Kd.R_far (p := ⟨gb126, 0, none⟩) (Kd.R_types (Kd.R_types HO124.out BK126.out (by decide)) BK127.out (by decide)) (fun _ hk => hk.1.2) (.slice Ao28 t113.length co28)) (fun _ hk => hk.1.2) (.slice Ao31 t116.length co31)) (fun _ hk => hk.2) (.slice Ao32 t119.length co32)) (fun _ hk => hk.2) (.slice Ao34 t122.length co34)) (fun _ h_ => h_.1)) (fun _ h_ => h_.1))) (Kd.R_base ho0) hb); have n8_ := Aside0.mk (Kd.R_lower (Kd.R_new' (Kd.R_new' (Kd.R_new' (Kd.R_new' (Kd.R_new' (Kd.R_new' ho0 (Kd.R_lt (by (with_reducible repeat (first | apply rA | apply rN | apply rD)); exact (Kd.R_mono (Kd.R_mono (Kd.R_far (p := ⟨gb127, 1, none⟩) (Kd.R_far (p := ⟨gb127, 0, none⟩) (Kd.R_far (p := ⟨gb126, 1, none⟩) (Kd.R_far (p := ⟨gb126, 0, none⟩) (Kd.R_types (Kd.R_types HO103.out BK126.out (by decide)) BK127.out (by decide)) (fun _ hk => hk.1.2) (.slice Ao28 t113.length co28)) (fun _ hk => hk.1.2) (.slice Ao31 t116.length co31)) (fun _ hk => hk.2) (.slice Ao32 t119.length co32)) (fun _ hk => hk.2) (.slice Ao34 t122.length co34)) (fun _ h_ => h_.1)) (fun _ h_ => h_.1))))) (Kd.R_lt (by (with_reducible repeat (first | apply rA | apply rN | apply rD)); exact (Kd.R_mono (Kd.R_mono (Kd.R_far (p := ⟨gb127, 1, none⟩) (Kd.R_far (p := ⟨gb127, 0, none⟩) (Kd.R_far (p := ⟨gb126, 1, none⟩) (Kd.R_far (p := ⟨gb126, 0, none⟩) (Kd.R_types (Kd.R_types HO109.out BK126.out (by decide)) BK127.out (by decide)) (fun _ hk => hk.1.2) (.slice Ao28 t113.length co28)) (fun _ hk => hk.1.2) (.slice Ao31 t116.length co31)) (fun _ hk => hk.2) (.slice Ao32 t119.length co32)) (fun _ hk => hk.2) (.slice Ao34 t122.length co34)) (fun _ h_ => h_.1)) (fun _ h_ => h_.1))))) (Kd.R_lt (by (with_reducible repeat (first | apply rA | apply rN | apply rD)); exact (Kd.R_mono (Kd.R_mono (Kd.R_far (p := ⟨gb127, 1, none⟩) (Kd.R_far (p := ⟨gb127, 0, none⟩) (Kd.R_far (p := ⟨gb126, 1, none⟩) (Kd.R_far (p := ⟨gb126, 0, none⟩) (Kd.R_types (Kd.R_types HO112.out BK126.out (by decide)) BK127.out (by decide)) (fun _ hk => hk.1.2) (.slice Ao28 t113.length co28)) (fun _ hk => hk.1.2) (.slice Ao31 t116.length co31)) (fun _ hk => hk.2) (.slice Ao32 t119.length co32)) (fun _ hk => hk.2) (.slice Ao34 t122.length co34)) (fun _ h_ => h_.1)) (fun _ h_ => h_.1))))) (Kd.R_lt (by (with_reducible repeat (first | apply rA | apply rN | apply rD)); exact (Kd.R_mono (Kd.R_mono (Kd.R_far (p := ⟨gb127, 1, none⟩) (Kd.R_far (p := ⟨gb127, 0, none⟩) (Kd.R_far (p := ⟨gb126, 1, none⟩) (Kd.R_far (p := ⟨gb126, 0, none⟩) (Kd.R_types (Kd.R_types HO115.out BK126.out (by decide)) BK127.out (by decide)) (fun _ hk => hk.1.2) (.slice Ao28 t113.length co28)) (fun _ hk => hk.1.2) (.slice Ao31 t116.length co31)) (fun _ hk => hk.2) (.slice Ao32 t119.length co32)) (fun _ hk => hk.2) (.slice Ao34 t122.length co34)) (fun _ h_ => h_.1)) (fun _ h_ => h_.1))))) (Kd.R_lt (by (with_reducible repeat (first | apply rA | apply rN | apply rD)); exact (Kd.R_mono (Kd.R_mono (Kd.R_far (p := ⟨gb127, 1, none⟩) (Kd.R_far (p := ⟨gb127, 0, none⟩) (Kd.R_far (p := ⟨gb126, 1, none⟩) (Kd.R_far (p := ⟨gb126, 0, none⟩) (Kd.R_types (Kd.R_types HO121.out BK126.out (by decide)) BK127.out (by decide)) (fun _ hk => hk.1.2) (.slice Ao28 t113.length co28)) (fun _ hk => hk.1.2) (.slice Ao31 t116.length co31)) (fun _ hk => hk.2) (.slice Ao32 t119.length co32)) (fun _ hk => hk.2) (.slice Ao34 t122.length co34)) (fun _ h_ => h_.1)) (fun _ h_ => h_.1))))) (Kd.R_lt (by (with_reducible repeat (first | apply rA | apply rN | apply rD)); exact (Kd.R_mono (Kd.R_mono (Kd.R_far (p := ⟨gb127, 1, none⟩) (Kd.R_far (p := ⟨gb127, 0, none⟩) (Kd.R_far (p := ⟨gb126, 1, none⟩) (Kd.R_far (p := ⟨gb126, 0, none⟩) (Kd.R_types (Kd.R_types HO124.out BK126.out (by decide)) BK127.out (by decide)) (fun _ hk => hk.1.2) (.slice Ao28 t113.length co28)) (fun _ hk => hk.1.2) (.slice Ao31 t116.length co31)) (fun _ hk => hk.2) (.slice Ao32 t119.length co32)) (fun _ hk => hk.2) (.slice Ao34 t122.length co34)) (fun _ h_ => h_.1)) (fun _ h_ => h_.1))))) (below_size (by repeat (first | (with_reducible first | exact HB.out | apply wA | apply wN | apply wD | refine below_set ?_ GE126.out | refine below_set ?_ GE127.out) | exact HB.out)))); have n9_ := Aside0.mk (Kd.R_lower (Kd.R_new' (Kd.R_new' ho1 (Kd.R_lt (by (with_reducible repeat (first | apply rA | apply rN | apply rD)); exact (Kd.R_mono (Kd.R_mono (Kd.R_far (p := ⟨gb127, 1, none⟩) (Kd.R_far (p := ⟨gb127, 0, none⟩) (Kd.R_far (p := ⟨gb126, 1, none⟩) (Kd.R_far (p := ⟨gb126, 0, none⟩) (Kd.R_types (Kd.R_types HO106.out BK126.out (by decide)) BK127.out (by decide)) (fun _ hk => hk.1.2) (.slice Ao28 t113.length co28)) (fun _ hk => hk.1.2) (.slice Ao31 t116.length co31)) (fun _ hk => hk.2) (.slice Ao32 t119.length co32)) (fun _ hk => hk.2) (.slice Ao34 t122.length co34)) (fun _ h_ => h_.1)) (fun _ h_ => h_.1))))) (Kd.R_lt (by (with_reducible repeat (first | apply rA | apply rN | apply rD)); exact (Kd.R_mono (Kd.R_mono (Kd.R_far (p := ⟨gb127, 1, none⟩) (Kd.R_far (p := ⟨gb127, 0, none⟩) (Kd.R_far (p := ⟨gb126, 1, none⟩) (Kd.R_far (p := ⟨gb126, 0, none⟩) (Kd.R_types (Kd.R_types HO118.out BK126.out (by decide)) BK127.out (by decide)) (fun _ hk => hk.1.2) (.slice Ao28 t113.length co28)) (fun _ hk => hk.1.2) (.slice Ao31 t116.length co31)) (fun _ hk => hk.2) (.slice Ao32 t119.length co32)) (fun _ hk => hk.2) (.slice Ao34 t122.length co34)) (fun _ h_ => h_.1)) (fun _ h_ => h_.1))))) (below_size (by repeat (first | (with_reducible first | exact HB.out | apply wA | apply wN | apply wD | refine below_set ?_ GE126.out | refine below_set ?_ GE127.out) | exact HB.out)))); have n10_ := Aside0.mk (bB (g := gb126) (o := .cells #[.slice Ao28 t113.length co28, .slice Ao31 t116.length co31] 25 (0, 0)) (by (with_reducible repeat (first | refine bN ?_ _ | refine bD ?_ | refine bA ?_ _)); refine blk_far ?_ NB126_127.out _; (with_reducible repeat (first | refine bN ?_ _ | refine bD ?_ | refine bA ?_ _)); refine blk_far ?_ NB126_127.out _; (with_reducible repeat (first | refine bN ?_ _ | refine bD ?_ | refine bA ?_ _)); refine blk_put (cs := #[.slice Ao28 t113.length co28, .slice none 0 0]) ?_ 1 _ rfl; (with_reducible repeat (first | refine bN ?_ _ | refine bD ?_ | refine bA ?_ _)); refine blk_put (cs := #[.slice none 0 0, .slice none 0 0]) ?_ 0 _ rfl; (with_reducible repeat (first | refine bN ?_ _ | refine bD ?_ | refine bA ?_ _)); exact BK126.out) hb); have n11_ := Aside0.mk (bB (g := gb127) (o := .cells #[.slice Ao32 t119.length co32, .slice Ao34 t122.length co34] 29 (0, 0)) (by (with_reducible repeat (first | refine bN ?_ _ | refine bD ?_ | refine bA ?_ _)); refine blk_put (cs := #[.slice Ao32 t119.length co32, .slice none 0 0]) ?_ 1 _ rfl; (with_reducible repeat (first | refine bN ?_ _ | refine bD ?_ | refine bA ?_ _)); refine blk_put (cs := #[.slice none 0 0, .slice none 0 0]) ?_ 0 _ rfl; (with_reducible repeat (first | refine bN ?_ _ | refine bD ?_ | refine bA ?_ _)); refine blk_far ?_ NB127_126.out _; (with_reducible repeat (first | refine bN ?_ _ | refine bD ?_ | refine bA ?_ _)); refine blk_far ?_ NB127_126.out _; (with_reducible repeat (first | refine bN ?_ _ | refine bD ?_ | refine bA ?_ _)); exact BK127.out) hb); have n12_ := Aside0.mk (wS (by repeat (first | (with_reducible first | exact HB.out | apply wA | apply wN | apply wD | refine below_set ?_ GE126.out | refine below_set ?_ GE127.out) | exact HB.out)) hb); clear HO103; clear HO106; clear HO109; clear HO112; clear HO115; clear HO118; clear HO121; clear HO124; clear BK126; clear BK127; clear HB; have HO103 := n0_; have HO106 := n1_; have HO109 := n2_; have HO112 := n3_; have HO115 := n4_; have HO118 := n5_; have HO121 := n6_; have HO124 := n7_; have HO130 := n8_; have HO133 := n9_; have BK126 := n10_; have BK127 := n11_; have HB := n12_; clear n0_ n1_ n2_ n3_ n4_ n5_ n6_ n7_ n8_ n9_ n10_ n11_ n12_; (try clear hb); (try clear hb2); (try clear hk); (try clear hi); (try clear ho0); (try clear ho1)) | ((with_reducible refine gate_dst (N := 19) rfl ?_); (try (refine gate_guard (by rfl) ?_; dsimp only)); refine Kd.R_lit (Kd.int .i64) _ 3 ?hg (N := 19) ?hd (xs := ([1] : List Int)) (inner := [.int .i64 1]) (ok := fun _ => True) (okp := fun _ => True) ?hr ?hp (fun _ hk => hk) trivial (Below.refl _ _) (Nat.le_refl _) (by simp) ?_; (case hd => rfl); (case hg => rfl); (case hr => first | (go_simp; done) | (go_simp; rfl)); (case hp => exact (Reps.one (show Kd.M (Kd.int .i64) _ _ _ 1 [.int .i64 1] from rfl) (Reps.none _ _))); intro v135 w36 ho37 hb hg_ hnew_; clear hg_ hnew_; (first | rw [← Ny134.out] at ho37 | (simp only [Int.reduceToNat] at ho37; rw [← Ny134.out] at ho37)); have n0_ := Aside0.mk (Kd.R_elder' (by (with_reducible repeat (first | apply rA | apply rN | apply rD)); exact HO103.out) (Kd.R_base ho37) hb); have n1_ := Aside0.mk (rB (by (with_reducible repeat (first | apply rA | apply rN | apply rD)); exact HO106.out) hb); have n2_ := Aside0.mk (Kd.R_elder' (by (with_reducible repeat (first | apply rA | apply rN | apply rD)); exact HO109.out) (Kd.R_base ho37) hb); have n3_ := Aside0.mk (Kd.R_elder' (by (with_reducible repeat (first | apply rA | apply rN | apply rD)); exact HO112.out) (Kd.R_base ho37) hb); have n4_ := Aside0.mk (Kd.R_elder' (by (with_reducible repeat (first | apply rA | apply rN | apply rD)); exact HO115.out) (Kd.R_base ho37) hb); have n5_ := Aside0.mk (rB (by (with_reducible repeat (first | apply rA | apply rN | apply rD)); exact HO118.out) hb); have n6_ := Aside0.mk (Kd.R_elder' (by (with_reducible repeat (first | apply rA | apply rN | apply rD)); exact HO121.out) (Kd.R_base ho37) hb); have n7_ := Aside0.mk (Kd.R_elder' (by (with_reducible repeat (first | apply rA | apply rN | apply rD)); exact HO124.out) (Kd.R_base ho37) hb); have n8_ := Aside0.mk (Kd.R_elder' (by (with_reducible repeat (first | apply rA | apply rN | apply rD)); exact HO130.out) (Kd.R_base ho37) hb); have n9_ := Aside0.mk (rB (by (with_reducible repeat (first | apply rA | apply rN | apply rD)); exact HO133.out) hb); have n10_ := Aside0.mk (Kd.R_lower (Kd.R_new' (Kd.R_new' (Kd.R_new' (Kd.R_new' (Kd.R_new' (Kd.R_new' (Kd.R_new' ho37 (Kd.R_lt (by (with_reducible repeat (first | apply rA | apply rN | apply rD)); exact HO103.out))) (Kd.R_lt (by (with_reducible repeat (first | apply rA | apply rN | apply rD)); exact HO109.out))) (Kd.R_lt (by (with_reducible repeat (first | apply rA | apply rN | apply rD)); exact HO112.out))) (Kd.R_lt (by (with_reducible repeat (first | apply rA | apply rN | apply rD)); exact HO115.out))) (Kd.R_lt (by (with_reducible repeat (first | apply rA | apply rN | apply rD)); exact HO121.out))) (Kd.R_lt (by (with_reducible repeat (first | apply rA | apply rN | apply rD)); exact HO124.out))) (Kd.R_lt (by (with_reducible repeat (first | apply rA | apply rN | apply rD)); exact HO130.out))) (below_size (by repeat (first | (with_reducible first | exact HB.out | apply wA | apply wN | apply wD | refine below_set ?_ GE126.out | refine below_set ?_ GE127.out) | exact HB.out)))); have n11_ := Aside0.mk (bB (g := gb126) (o := .cells #[.slice Ao28 t113.length co28, .slice Ao31 t116.length co31] 25 (0, 0)) (by (with_reducible repeat (first | refine bN ?_ _ | refine bD ?_ | refine bA ?_ _)); exact BK126.out) hb); have n12_ := Aside0.mk (bB (g := gb127) (o := .cells #[.slice Ao32 t119.length co32, .slice Ao34 t122.length co34] 29 (0, 0)) (by (with_reducible repeat (first | refine bN ?_ _ | refine bD ?_ | refine bA ?_ _)); exact BK127.out) hb); have n13_ := Aside0.mk (wS (by repeat (first | (with_reducible first | exact HB.out | apply wA | apply wN | apply wD | refine below_set ?_ GE126.out | refine below_set ?_ GE127.out) | exact HB.out)) hb); clear HO103; clear HO106; clear HO109; clear HO112; clear HO115; clear HO118; clear HO121; clear HO124; clear HO130; clear HO133; clear BK126; clear BK127; clear HB; have HO103 := n0_; have HO106 := n1_; have HO109 := n2_; have HO112 := n3_; have HO115 := n4_; have HO118 := n5_; have HO121 := n6_; have HO124 := n7_; have HO130 := n8_; have HO133 := n9_; have HO136 := n10_; have BK126 := n11_; have BK127 := n12_; have HB := n13_; clear n0_ n1_ n2_ n3_ n4_ n5_ n6_ n7_ n8_ n9_ n10_ n11_ n12_ n13_; clear hb ho37; obtain ⟨Ao38, co38, eo38⟩ := Kd.R_slice HO130.out; subst eo38; obtain ⟨Ao39, co39, eo39⟩ := Kd.R_slice HO133.out; subst eo39; obtain ⟨Ao40, co40, eo40⟩ := Kd.R_slice HO136.out; subst eo40) | ((with_reducible refine gate_callee (f := 12) rfl ?_); refine goesL_ (some 20) rfl rfl Try.func12 (by kernel_rfl) rfl #[.agg #[.slice Ao38 t128.length co38, .slice Ao39 t131.length co39], .slice Ao40 y134.length co40, .slice none 0 0] rfl aM ?_; (refine (graph_Remove.calls k _ _ t128 _ _ t131 _ _ y134 _ _ ([] : List Int) t137 t140 t143 t146 t149 _ ?side1 ?side2 ?side3 ?side4 ?side5 ?side6 ?side7 ?side8 A4.out).mono ?_); (case side1 => repeat (first | exact (Kd.R_reads' HO130.out).2.2 | (with_reducible refine cA ?_ _) | (with_reducible refine cN ?_ _) | (with_reducible refine cD ?_))); (case side2 => exact (Kd.R_reads' HO130.out).2.1); (case side3 => repeat (first | exact (Kd.R_reads' HO133.out).2.2 | (with_reducible refine cA ?_ _) | (with_reducible refine cN ?_ _) | (with_reducible refine cD ?_))); (case side4 => exact (Kd.R_reads' HO133.out).2.1); (case side5 => repeat (first | exact (Kd.R_reads' HO136.out).2.2 | (with_reducible refine cA ?_ _) | (with_reducible refine cN ?_ _) | (with_reducible refine cD ?_))); (case side6 => exact (Kd.R_reads' HO136.out).2.1); (case side7 => exact Kd.C_nil _ _); (case side8 => exact Nat.le_refl _); rintro e w41 ⟨v138, v141, v144, v147, rfl, ho0, ho1, ho2, ho3, hb⟩; refine ⟨_, rfl, ?_⟩; have n0_ := Aside0.mk (Kd.R_mono (Kd.R_told (Kd.R_told (Kd.R_told (Kd.R_old (by (with_reducible repeat (first | apply rA | apply rN | apply rD)); exact HO103.out) hb) (Kd.R_base ho0)) (Kd.R_base ho2)) (Kd.R_base ho3)) (fun _ h_ => h_.1)); have n1_ := Aside0.mk (Kd.R_elder' (by (with_reducible repeat (first | apply rA | apply rN | apply rD)); exact HO106.out) (Kd.R_base ho1) hb); have n2_ := Aside0.mk (Kd.R_mono (Kd.R_told (Kd.R_told (Kd.R_told (Kd.R_old (by (with_reducible repeat (first | apply rA | apply rN | apply rD)); exact HO109.out) hb) (Kd.R_base ho0)) (Kd.R_base ho2)) (Kd.R_base ho3)) (fun _ h_ => h_.1)); have n3_ := Aside0.mk (Kd.R_mono (Kd.R_told (Kd.R_told (Kd.R_told (Kd.R_old (by (with_reducible repeat (first | apply rA | apply rN | apply rD)); exact HO112.out) hb) (Kd.R_base ho0)) (Kd.R_base ho2)) (Kd.R_base ho3)) (fun _ h_ => h_.1)); have n4_ := Aside0.mk (Kd.R_mono (Kd.R_told (Kd.R_told (Kd.R_told (Kd.R_old (by (with_reducible repeat (first | apply rA | apply rN | apply rD)); exact HO115.out) hb) (Kd.R_base ho0)) (Kd.R_base ho2)) (Kd.R_base ho3)) (fun _ h_ => h_.1)); have n5_ := Aside0.mk (Kd.R_elder' (by (with_reducible repeat (first | apply rA | apply rN | apply rD)); exact HO118.out) (Kd.R_base ho1) hb); have n6_ := Aside0.mk (Kd.R_mono (Kd.R_told (Kd.R_told (Kd.R_told (Kd.R_old (by (with_reducible repeat (first | apply rA | apply rN | apply rD)); exact HO121.out) hb) (Kd.R_base ho0)) (Kd.R_base ho2)) (Kd.R_base ho3)) (fun _ h_ => h_.1)); have n7_ := Aside0.mk (Kd.R_mono (Kd.R_told (Kd.R_told (Kd.R_told (Kd.R_old (by (with_reducible repeat (first | apply rA | apply rN | apply rD)); exact HO124.out) hb) (Kd.R_base ho0)) (Kd.R_base ho2)) (Kd.R_base ho3)) (fun _ h_ => h_.1)); have n8_ := Aside0.mk (Kd.R_mono (Kd.R_told (Kd.R_told (Kd.R_told (Kd.R_old (by (with_reducible repeat (first | apply rA | apply rN | apply rD)); exact HO130.out) hb) (Kd.R_base ho0)) (Kd.R_base ho2)) (Kd.R_base ho3)) (fun _ h_ => h_.1)); have n9_ := Aside0.mk (Kd.R_elder' (by (with_reducible repeat (first | apply rA | apply rN | apply rD)); exact HO133.out) (Kd.R_base ho1) hb); have n10_ := Aside0.mk (Kd.R_mono (Kd.R_told (Kd.R_told (Kd.R_told (Kd.R_old (by (with_reducible repeat (first | apply rA | apply rN | apply rD)); exact HO136.out) hb) (Kd.R_base ho0)) (Kd.R_base ho2)) (Kd.R_base ho3)) (fun _ h_ => h_.1)); have n11_ := Aside0.mk (Kd.R_lower (Kd.R_new' (Kd.R_new' (Kd.R_new' (Kd.R_new' (Kd.R_new' (Kd.R_new' (Kd.R_new' (Kd.R_new' ho0 (Kd.R_lt (by (with_reducible repeat (first | apply rA | apply rN | apply rD)); exact HO103.out))) (Kd.R_lt (by (with_reducible repeat (first | apply rA | apply rN | apply rD)); exact HO109.out))) (Kd.R_lt (by (with_reducible repeat (first | apply rA | apply rN | apply rD)); exact HO112.out))) (Kd.R_lt (by (with_reducible repeat (first | apply rA | apply rN | apply rD)); exact HO115.out))) (Kd.R_lt (by (with_reducible repeat (first | apply rA | apply rN | apply rD)); exact HO121.out))) (Kd.R_lt (by (with_reducible repeat (first | apply rA | apply rN | apply rD)); exact HO124.out))) (Kd.R_lt (by (with_reducible repeat (first | apply rA | apply rN | apply rD)); exact HO130.out))) (Kd.R_lt (by (with_reducible repeat (first | apply rA | apply rN | apply rD)); exact HO136.out))) (below_size (by repeat (first | (with_reducible first | exact HB.out | apply wA | apply wN | apply wD | refine below_set ?_ GE126.out | refine below_set ?_ GE127.out) | exact HB.out)))); have n12_ := Aside0.mk (Kd.R_lower (Kd.R_new' (Kd.R_new' (Kd.R_new' ho1 (Kd.R_lt (by (with_reducible repeat (first | apply rA | apply rN | apply rD)); exact HO106.out))) (Kd.R_lt (by (with_reducible repeat (first | apply rA | apply rN | apply rD)); exact HO118.out))) (Kd.R_lt (by (with_reducible repeat (first | apply rA | apply rN | apply rD)); exact HO133.out))) (below_size (by repeat (first | (with_reducible first | exact HB.out | apply wA | apply wN | apply wD | refine below_set ?_ GE126.out | refine below_set ?_ GE127.out) | exact HB.out)))); have n13_ := Aside0.mk (Kd.R_lower (Kd.R_new' (Kd.R_new' (Kd.R_new' (Kd.R_new' (Kd.R_new' (Kd.R_new' (Kd.R_new' (Kd.R_new' ho2 (Kd.R_lt (by (with_reducible repeat (first | apply rA | apply rN | apply rD)); exact HO103.out))) (Kd.R_lt (by (with_reducible repeat (first | apply rA | apply rN | apply rD)); exact HO109.out))) (Kd.R_lt (by (with_reducible repeat (first | apply rA | apply rN | apply rD)); exact HO112.out))) (Kd.R_lt (by (with_reducible repeat (first | apply rA | apply rN | apply rD)); exact HO115.out))) (Kd.R_lt (by (with_reducible repeat (first | apply rA | apply rN | apply rD)); exact HO121.out))) (Kd.R_lt (by (with_reducible repeat (first | apply rA | apply rN | apply rD)); exact HO124.out))) (Kd.R_lt (by (with_reducible repeat (first | apply rA | apply rN | apply rD)); exact HO130.out))) (Kd.R_lt (by (with_reducible repeat (first | apply rA | apply rN | apply rD)); exact HO136.out))) (below_size (by repeat (first | (with_reducible first | exact HB.out | apply wA | apply wN | apply wD | refine below_set ?_ GE126.out | refine below_set ?_ GE127.out) | exact HB.out)))); have n14_ := Aside0.mk (Kd.R_lower (Kd.R_new' (Kd.R_new' (Kd.R_new' (Kd.R_new' (Kd.R_new' (Kd.R_new' (Kd.R_new' (Kd.R_new' ho3 (Kd.R_lt (by (with_reducible repeat (first | apply rA | apply rN | apply rD)); exact HO103.out))) (Kd.R_lt (by (with_reducible repeat (first | apply rA | apply rN | apply rD)); exact HO109.out))) (Kd.R_lt (by (with_reducible repeat (first | apply rA | apply rN | apply rD)); exact HO112.out))) (Kd.R_lt (by (with_reducible repeat (first | apply rA | apply rN | apply rD)); exact HO115.out))) (Kd.R_lt (by (with_reducible repeat (first | apply rA | apply rN | apply rD)); exact HO121.out))) (Kd.R_lt (by (with_reducible repeat (first | apply rA | apply rN | apply rD)); exact HO124.out))) (Kd.R_lt (by (with_reducible repeat (first | apply rA | apply rN | apply rD)); exact HO130.out))) (Kd.R_lt (by (with_reducible repeat (first | apply rA | apply rN | apply rD)); exact HO136.out))) (below_size (by repeat (first | (with_reducible first | exact HB.out | apply wA | apply wN | apply wD | refine below_set ?_ GE126.out | refine below_set ?_ GE127.out) | exact HB.out)))); have n15_ := Aside0.mk (bB (g := gb126) (o := .cells #[.slice Ao28 t113.length co28, .slice Ao31 t116.length co31] 25 (0, 0)) (by (with_reducible repeat (first | refine bN ?_ _ | refine bD ?_ | refine bA ?_ _)); exact BK126.out) hb); have n16_ := Aside0.mk (bB (g := gb127) (o := .cells #[.slice Ao32 t119.length co32, .slice Ao34 t122.length co34] 29 (0, 0)) (by (with_reducible repeat (first | refine bN ?_ _ | refine bD ?_ | refine bA ?_ _)); exact BK127.out) hb); have n17_ := Aside0.mk (wS (by repeat (first | (with_reducible first | exact HB.out | apply wA | apply wN | apply wD | refine below_set ?_ GE126.out | refine below_set ?_ GE127.out) | exact HB.out)) hb); clear HO103; clear HO106; clear HO109; clear HO112; clear HO115; clear HO118; clear HO121; clear HO124; clear HO130; clear HO133; clear HO136; clear BK126; clear BK127; clear HB; have HO103 := n0_; have HO106 := n1_; have HO109 := n2_; have HO112 := n3_; have HO115 := n4_; have HO118 := n5_; have HO121 := n6_; have HO124 := n7_; have HO130 := n8_; have HO133 := n9_; have HO136 := n10_; have HO139 := n11_; have HO142 := n12_; have HO145 := n13_; have HO148 := n14_; have BK126 := n15_; have BK127 := n16_; have HB := n17_; clear n0_ n1_ n2_ n3_ n4_ n5_ n6_ n7_ n8_ n9_ n10_ n11_ n12_ n13_ n14_ n15_ n16_ n17_; (try clear hb); (try clear hb2); (try clear hk); (try clear hi); (try clear ho0); (try clear ho1); (try clear ho2); (try clear ho3)) | ((with_reducible refine gate_dst (N := 4) rfl ?_); (try (refine gate_guard (by rfl) ?_; dsimp only)); refine box_event ?hg (N := 4) ?hd (cs := #[.slice none 0 0, .slice none 0 0]) (t := 25) ?hr ?_; (case hd => rfl); (case hg => rfl); (case hr => first | (go_simp; done) | (go_simp; rfl)); intro gb150 hg w42 hbox hb; have n0_ := Aside0.mk (rB (by (with_reducible repeat (first | apply rA | apply rN | apply rD)); exact HO103.out) hb); have n1_ := Aside0.mk (rB (by (with_reducible repeat (first | apply rA | apply rN | apply rD)); exact HO106.out) hb); have n2_ := Aside0.mk (rB (by (with_reducible repeat (first | apply rA | apply rN | apply rD)); exact HO109.out) hb); have n3_ := Aside0.mk (rB (by (with_reducible repeat (first | apply rA | apply rN | apply rD)); exact HO112.out) hb); have n4_ := Aside0.mk (rB (by (with_reducible repeat (first | apply rA | apply rN | apply rD)); exact HO115.out) hb); have n5_ := Aside0.mk (rB (by (with_reducible repeat (first | apply rA | apply rN | apply rD)); exact HO118.out) hb); have n6_ := Aside0.mk (rB (by (with_reducible repeat (first | apply rA | apply rN | apply rD)); exact HO121.out) hb); have n7_ := Aside0.mk (rB (by (with_reducible repeat (first | apply rA | apply rN | apply rD)); exact HO124.out) hb); have n8_ := Aside0.mk (rB (by (with_reducible repeat (first | apply rA | apply rN | apply rD)); exact HO130.out) hb); have n9_ := Aside0.mk (rB (by (with_reducible repeat (first | apply rA | apply rN | apply rD)); exact HO133.out) hb); have n10_ := Aside0.mk (rB (by (with_reducible repeat (first | apply rA | apply rN | apply rD)); exact HO136.out) hb); have n11_ := Aside0.mk (rB (by (with_reducible repeat (first | apply rA | apply rN | apply rD)); exact HO139.out) hb); have n12_ := Aside0.mk (rB (by (with_reducible repeat (first | apply rA | apply rN | apply rD)); exact HO142.out) hb); have n13_ := Aside0.mk (rB (by (with_reducible repeat (first | apply rA | apply rN | apply rD)); exact HO145.out) hb); have n14_ := Aside0.mk (rB (by (with_reducible repeat (first | apply rA | apply rN | apply rD)); exact HO148.out) hb); have n15_ := Aside0.mk (bB (g := gb126) (o := .cells #[.slice Ao28 t113.length co28, .slice Ao31 t116.length co31] 25 (0, 0)) (by (with_reducible repeat (first | refine bN ?_ _ | refine bD ?_ | refine bA ?_ _)); exact BK126.out) hb); have n16_ := Aside0.mk (bB (g := gb127) (o := .cells #[.slice Ao32 t119.length co32, .slice Ao34 t122.length co34] 29 (0, 0)) (by (with_reducible repeat (first | refine bN ?_ _ | refine bD ?_ | refine bA ?_ _)); exact BK127.out) hb); have n17_ := Aside0.mk (wS (by repeat (first | (with_reducible first | exact HB.out | apply wA | apply wN | apply wD | refine below_set ?_ GE126.out | refine below_set ?_ GE127.out) | exact HB.out)) hb); have n18_ := Aside0.mk (hbox); have n19_ := Aside0.mk ((by rw [hg]; exact (below_size (by repeat (first | (with_reducible first | exact HB.out | apply wA | apply wN | apply wD | refine below_set ?_ GE126.out | refine below_set ?_ GE127.out) | exact HB.out))) : w.heap.size ≤ gb150)); have n20_ := Aside0.mk ((by rw [hg]; exact (below_size (by repeat (first | (with_reducible first | exact HB.out | apply wA | apply wN | apply wD | refine below_set ?_ GE126.out | refine below_set ?_ GE127.out) | exact HB.out))) : w.heap.size ≤ gb150)); have n21_ := Aside0.mk ((by rw [hg]; exact Nat.ne_of_lt (blk_lt (g := gb126) (o := .cells #[.slice Ao28 t113.length co28, .slice Ao31 t116.length co31] 25 (0, 0)) (by (with_reducible repeat (first | refine bN ?_ _ | refine bD ?_ | refine bA ?_ _)); exact BK126.out)) : gb126 ≠ gb150)); have n22_ := Aside0.mk ((by rw [hg]; exact Nat.ne_of_gt (blk_lt (g := gb126) (o := .cells #[.slice Ao28 t113.length co28, .slice Ao31 t116.length co31] 25 (0, 0)) (by (with_reducible repeat (first | refine bN ?_ _ | refine bD ?_ | refine bA ?_ _)); exact BK126.out)) : gb150 ≠ gb126)); have n23_ := Aside0.mk ((by rw [hg]; exact Nat.ne_of_lt (blk_lt (g := gb127) (o := .cells #[.slice Ao32 t119.length co32, .slice Ao34 t122.length co34] 29 (0, 0)) (by (with_reducible repeat (first | refine bN ?_ _ | refine bD ?_ | refine bA ?_ _)); exact BK127.out)) : gb127 ≠ gb150)); have n24_ := Aside0.mk ((by rw [hg]; exact Nat.ne_of_gt (blk_lt (g := gb127) (o := .cells #[.slice Ao32 t119.length co32, .slice Ao34 t122.length co34] 29 (0, 0)) (by (with_reducible repeat (first | refine bN ?_ _ | refine bD ?_ | refine bA ?_ _)); exact BK127.out)) : gb150 ≠ gb127)); clear HO103; clear HO106; clear HO109; clear HO112; clear HO115; clear HO118; clear HO121; clear HO124; clear HO130; clear HO133; clear HO136; clear HO139; clear HO142; clear HO145; clear HO148; clear BK126; clear BK127; clear HB; have HO103 := n0_; have HO106 := n1_; have HO109 := n2_; have HO112 := n3_; have HO115 := n4_; have HO118 := n5_; have HO121 := n6_; have HO124 := n7_; have HO130 := n8_; have HO133 := n9_; have HO136 := n10_; have HO139 := n11_; have HO142 := n12_; have HO145 := n13_; have HO148 := n14_; have BK126 := n15_; have BK127 := n16_; have HB := n17_; have BK150 := n18_; have GW150 := n19_; have GE150 := n20_; have NB126_150 := n21_; have NB150_126 := n22_; have NB127_150 := n23_; have NB150_127 := n24_; clear n0_ n1_ n2_ n3_ n4_ n5_ n6_ n7_ n8_ n9_ n10_ n11_ n12_ n13_ n14_ n15_ n16_ n17_ n18_ n19_ n20_ n21_ n22_ n23_ n24_; clear hb hbox hg) | ((with_reducible refine gate_dst (N := 5) rfl ?_); (try (refine gate_guard (by rfl) ?_; dsimp only)); refine box_event ?hg (N := 5) ?hd (cs := #[.slice none 0 0, .slice none 0 0]) (t := 29) ?hr ?_; (case hd => rfl); (case hg => rfl); (case hr => first | (go_simp; done) | (go_simp; rfl)); intro gb151 hg w43 hbox hb; have n0_ := Aside0.mk (rB (by (with_reducible repeat (first | apply rA | apply rN | apply rD)); exact HO103.out) hb); have n1_ := Aside0.mk (rB (by (with_reducible repeat (first | apply rA | apply rN | apply rD)); exact HO106.out) hb); have n2_ := Aside0.mk (rB (by (with_reducible repeat (first | apply rA | apply rN | apply rD)); exact HO109.out) hb); have n3_ := Aside0.mk (rB (by (with_reducible repeat (first | apply rA | apply rN | apply rD)); exact HO112.out) hb); have n4_ := Aside0.mk (rB (by (with_reducible repeat (first | apply rA | apply rN | apply rD)); exact HO115.out) hb); have n5_ := Aside0.mk (rB (by (with_reducible repeat (first | apply rA | apply rN | apply rD)); exact HO118.out) hb); have n6_ := Aside0.mk (rB (by (with_reducible repeat (first | apply rA | apply rN | apply rD)); exact HO121.out) hb); have n7_ := Aside0.mk (rB (by (with_reducible repeat (first | apply rA | apply rN | apply rD)); exact HO124.out) hb); have n8_ := Aside0.mk (rB (by (with_reducible repeat (first | apply rA | apply rN | apply rD)); exact HO130.out) hb); have n9_ := Aside0.mk (rB (by (with_reducible repeat (first | apply rA | apply rN | apply rD)); exact HO133.out) hb); have n10_ := Aside0.mk (rB (by (with_reducible repeat (first | apply rA | apply rN | apply rD)); exact HO136.out) hb); have n11_ := Aside0.mk (rB (by (with_reducible repeat (first | apply rA | apply rN | apply rD)); exact HO139.out) hb); have n12_ := Aside0.mk (rB (by (with_reducible repeat (first | apply rA | apply rN | apply rD)); exact HO142.out) hb); have n13_ := Aside0.mk (rB (by (with_reducible repeat (first | apply rA | apply rN | apply rD)); exact HO145.out) hb); have n14_ := Aside0.mk (rB (by (with_reducible repeat (first | apply rA | apply rN | apply rD)); exact HO148.out) hb); have n15_ := Aside0.mk (bB (g := gb126) (o := .cells #[.slice Ao28 t113.length co28, .slice Ao31 t116.length co31] 25 (0, 0)) (by (with_reducible repeat (first | refine bN ?_ _ | refine bD ?_ | refine bA ?_ _)); exact BK126.out) hb); have n16_ := Aside0.mk (bB (g := gb127) (o := .cells #[.slice Ao32 t119.length co32, .slice Ao34 t122.length co34] 29 (0, 0)) (by (with_reducible repeat (first | refine bN ?_ _ | refine bD ?_ | refine bA ?_ _)); exact BK127.out) hb); have n17_ := Aside0.mk (bB (g := gb150) (o := .cells #[.slice none 0 0, .slice none 0 0] 25 (0, 0)) (by (with_reducible repeat (first | refine bN ?_ _ | refine bD ?_ | refine bA ?_ _)); exact BK150.out) hb); have n18_ := Aside0.mk (wS (by repeat (first | (with_reducible first | exact HB.out | apply wA | apply wN | apply wD | refine below_set ?_ GE126.out | refine below_set ?_ GE127.out | refine below_set ?_ GE150.out) | exact HB.out)) hb); have n19_ := Aside0.mk (hbox); have n20_ := Aside0.mk ((by rw [hg]; exact (below_size (by repeat (first | (with_reducible first | exact HB.out | apply wA | apply wN | apply wD | refine below_set ?_ GE126.out | refine below_set ?_ GE127.out | refine below_set ?_ GE150.out) | exact HB.out))) : w.heap.size ≤ gb151)); have n21_ := Aside0.mk ((by rw [hg]; exact (below_size (by repeat (first | (with_reducible first | exact HB.out | apply wA | apply wN | apply wD | refine below_set ?_ GE126.out | refine below_set ?_ GE127.out | refine below_set ?_ GE150.out) | exact HB.out))) : w.heap.size ≤ gb151)); have n22_ := Aside0.mk ((by rw [hg]; exact Nat.ne_of_lt (blk_lt (g := gb126) (o := .cells #[.slice Ao28 t113.length co28, .slice Ao31 t116.length co31] 25 (0, 0)) (by (with_reducible repeat (first | refine bN ?_ _ | refine bD ?_ | refine bA ?_ _)); exact BK126.out)) : gb126 ≠ gb151)); have n23_ := Aside0.mk ((by rw [hg]; exact Nat.ne_of_gt (blk_lt (g := gb126) (o := .cells #[.slice Ao28 t113.length co28, .slice Ao31 t116.length co31] 25 (0, 0)) (by (with_reducible repeat (first | refine bN ?_ _ | refine bD ?_ | refine bA ?_ _)); exact BK126.out)) : gb151 ≠ gb126)); have n24_ := Aside0.mk ((by rw [hg]; exact Nat.ne_of_lt (blk_lt (g := gb127) (o := .cells #[.slice Ao32 t119.length co32, .slice Ao34 t122.length co34] 29 (0, 0)) (by (with_reducible repeat (first | refine bN ?_ _ | refine bD ?_ | refine bA ?_ _)); exact BK127.out)) : gb127 ≠ gb151)); have n25_ := Aside0.mk ((by rw [hg]; exact Nat.ne_of_gt (blk_lt (g := gb127) (o := .cells #[.slice Ao32 t119.length co32, .slice Ao34 t122.length co34] 29 (0, 0)) (by (with_reducible repeat (first | refine bN ?_ _ | refine bD ?_ | refine bA ?_ _)); exact BK127.out)) : gb151 ≠ gb127)); have n26_ := Aside0.mk ((by rw [hg]; exact Nat.ne_of_lt (blk_lt (g := gb150) (o := .cells #[.slice none 0 0, .slice none 0 0] 25 (0, 0)) (by (with_reducible repeat (first | refine bN ?_ _ | refine bD ?_ | refine bA ?_ _)); exact BK150.out)) : gb150 ≠ gb151)); have n27_ := Aside0.mk ((by rw [hg]; exact Nat.ne_of_gt (blk_lt (g := gb150) (o := .cells #[.slice none 0 0, .slice none 0 0] 25 (0, 0)) (by (with_reducible repeat (first | refine bN ?_ _ | refine bD ?_ | refine bA ?_ _)); exact BK150.out)) : gb151 ≠ gb150)); clear HO103; clear HO106; clear HO109; clear HO112; clear HO115; clear HO118; clear HO121; clear HO124; clear HO130; clear HO133; clear HO136; clear HO139; clear HO142; clear HO145; clear HO148; clear BK126; clear BK127; clear BK150; clear HB; have HO103 := n0_; have HO106 := n1_; have HO109 := n2_; have HO112 := n3_; have HO115 := n4_; have HO118 := n5_; have HO121 := n6_; have HO124 := n7_; have HO130 := n8_; have HO133 := n9_; have HO136 := n10_; have HO139 := n11_; have HO142 := n12_; have HO145 := n13_; have HO148 := n14_; have BK126 := n15_; have BK127 := n16_; have BK150 := n17_; have HB := n18_; have BK151 := n19_; have GW151 := n20_; have GE151 := n21_; have NB126_151 := n22_; have NB151_126 := n23_; have NB127_151 := n24_; have NB151_127 := n25_; have NB150_151 := n26_; have NB151_150 := n27_; clear n0_ n1_ n2_ n3_ n4_ n5_ n6_ n7_ n8_ n9_ n10_ n11_ n12_ n13_ n14_ n15_ n16_ n17_ n18_ n19_ n20_ n21_ n22_ n23_ n24_ n25_ n26_ n27_; clear hb hbox hg; obtain ⟨Ao44, co44, eo44⟩ := Kd.R_slice HO139.out; subst eo44; have hnb45 := NB150_126.out; have hnc45 := NB126_150.out; have hnb46 := NB150_127.out; have hnc46 := NB127_150.out; have hnb47 := NB150_151.out; have hnc47 := NB151_150.out; have hcz48_0 : w43.cell? ⟨gb150, 0, none⟩ = some (.slice none 0 0) := (blk_cell BK150.out 0).trans rfl; have hcz48_1 : w43.cell? ⟨gb150, 1, none⟩ = some (.slice none 0 0) := (blk_cell BK150.out 1).trans rfl; have hfz48_0 := blk_frozen BK150.out 0; have hfz48_1 := blk_frozen BK150.out 1; obtain ⟨Ao49, co49, eo49⟩ := Kd.R_slice HO142.out; subst eo49; obtain ⟨Ao50, co50, eo50⟩ := Kd.R_slice HO145.out; subst eo50; have hnb51 := NB151_126.out; have hnc51 := NB126_151.out; have hnb52 := NB151_127.out; have hnc52 := NB127_151.out; have hcz53_0 : w43.cell? ⟨gb151, 0, none⟩ = some (.slice none 0 0) := (blk_cell BK151.out 0).trans rfl; have hcz53_1 : w43.cell? ⟨gb151, 1, none⟩ = some (.slice none 0 0) := (blk_cell BK151.out 1).trans rfl; have hfz53_0 := blk_frozen BK151.out 0; have hfz53_1 := blk_frozen BK151.out 1; obtain ⟨Ao54, co54, eo54⟩ := Kd.R_slice HO148.out; subst eo54) | ((with_reducible refine gate_callee (f := 38) rfl ?_); refine goesL_ (some 25) rfl rfl Try.func38 (by kernel_rfl) rfl #[] rfl aM ?_; (with_reducible refine (scarfjointlaw05_example.calls  t152 t155 _ A5.out).mono ?_); rintro e w55 ⟨v153, v156, rfl, ho0, ho1, hb⟩; refine ⟨_, rfl, ?_⟩; have n0_ := Aside0.mk (Kd.R_elder' (by (with_reducible repeat (first | apply rA | apply rN | apply rD)); exact (Kd.R_mono (Kd.R_mono (Kd.R_far (p := ⟨gb151, 1, none⟩) (Kd.R_far (p := ⟨gb151, 0, none⟩) (Kd.R_far (p := ⟨gb150, 1, none⟩) (Kd.R_far (p := ⟨gb150, 0, none⟩) (Kd.R_types (Kd.R_types HO103.out BK150.out (by decide)) BK151.out (by decide)) (fun _ hk => hk.1.2) (.slice Ao44 t137.length co44)) (fun _ hk => hk.1.2) (.slice Ao49 t140.length co49)) (fun _ hk => hk.2) (.slice Ao50 t143.length co50)) (fun _ hk => hk.2) (.slice Ao54 t146.length co54)) (fun _ h_ => h_.1)) (fun _ h_ => h_.1))) (Kd.R_base ho0) hb); have n1_ := Aside0.mk (Kd.R_elder' (by (with_reducible repeat (first | apply rA | apply rN | apply rD)); exact (Kd.R_mono (Kd.R_mono (Kd.R_far (p := ⟨gb151, 1, none⟩) (Kd.R_far (p := ⟨gb151, 0, none⟩) (Kd.R_far (p := ⟨gb150, 1, none⟩) (Kd.R_far (p := ⟨gb150, 0, none⟩) (Kd.R_types (Kd.R_types HO106.out BK150.out (by decide)) BK151.out (by decide)) (fun _ hk => hk.1.2) (.slice Ao44 t137.length co44)) (fun _ hk => hk.1.2) (.slice Ao49 t140.length co49)) (fun _ hk => hk.2) (.slice Ao50 t143.length co50)) (fun _ hk => hk.2) (.slice Ao54 t146.length co54)) (fun _ h_ => h_.1)) (fun _ h_ => h_.1))) (Kd.R_base ho1) hb); have n2_ := Aside0.mk (Kd.R_elder' (by (with_reducible repeat (first | apply rA | apply rN | apply rD)); exact (Kd.R_mono (Kd.R_mono (Kd.R_far (p := ⟨gb151, 1, none⟩) (Kd.R_far (p := ⟨gb151, 0, none⟩) (Kd.R_far (p := ⟨gb150, 1, none⟩) (Kd.R_far (p := ⟨gb150, 0, none⟩) (Kd.R_types (Kd.R_types HO109.out BK150.out (by decide)) BK151.out (by decide)) (fun _ hk => hk.1.2) (.slice Ao44 t137.length co44)) (fun _ hk => hk.1.2) (.slice Ao49 t140.length co49)) (fun _ hk => hk.2) (.slice Ao50 t143.length co50)) (fun _ hk => hk.2) (.slice Ao54 t146.length co54)) (fun _ h_ => h_.1)) (fun _ h_ => h_.1))) (Kd.R_base ho0) hb); have n3_ := Aside0.mk (Kd.R_elder' (by (with_reducible repeat (first | apply rA | apply rN | apply rD)); exact (Kd.R_mono (Kd.R_mono (Kd.R_far (p := ⟨gb151, 1, none⟩) (Kd.R_far (p := ⟨gb151, 0, none⟩) (Kd.R_far (p := ⟨gb150, 1, none⟩) (Kd.R_far (p := ⟨gb150, 0, none⟩) (Kd.R_types (Kd.R_types HO112.out BK150.out (by decide)) BK151.out (by decide)) (fun _ hk => hk.1.2) (.slice Ao44 t137.length co44)) (fun _ hk => hk.1.2) (.slice Ao49 t140.length co49)) (fun _ hk => hk.2) (.slice Ao50 t143.length co50)) (fun _ hk => hk.2) (.slice Ao54 t146.length co54)) (fun _ h_ => h_.1)) (fun _ h_ => h_.1))) (Kd.R_base ho0) hb); have n4_ := Aside0.mk (Kd.R_elder' (by (with_reducible repeat (first | apply rA | apply rN | apply rD)); exact (Kd.R_mono (Kd.R_mono (Kd.R_far (p := ⟨gb151, 1, none⟩) (Kd.R_far (p := ⟨gb151, 0, none⟩) (Kd.R_far (p := ⟨gb150, 1, none⟩) (Kd.R_far (p := ⟨gb150, 0, none⟩) (Kd.R_types (Kd.R_types HO115.out BK150.out (by decide)) BK151.out (by decide)) (fun _ hk => hk.1.2) (.slice Ao44 t137.length co44)) (fun _ hk => hk.1.2) (.slice Ao49 t140.length co49)) (fun _ hk => hk.2) (.slice Ao50 t143.length co50)) (fun _ hk => hk.2) (.slice Ao54 t146.length co54)) (fun _ h_ => h_.1)) (fun _ h_ => h_.1))) (Kd.R_base ho0) hb); have n5_ := Aside0.mk (Kd.R_elder' (by (with_reducible repeat (first | apply rA | apply rN | apply rD)); exact (Kd.R_mono (Kd.R_mono (Kd.R_far (p := ⟨gb151, 1, none⟩) (Kd.R_far (p := ⟨gb151, 0, none⟩) (Kd.R_far (p := ⟨gb150, 1, none⟩) (Kd.R_far (p := ⟨gb150, 0, none⟩) (Kd.R_types (Kd.R_types HO118.out BK150.out (by decide)) BK151.out (by decide)) (fun _ hk => hk.1.2) (.slice Ao44 t137.length co44)) (fun _ hk => hk.1.2) (.slice Ao49 t140.length co49)) (fun _ hk => hk.2) (.slice Ao50 t143.length co50)) (fun _ hk => hk.2) (.slice Ao54 t146.length co54)) (fun _ h_ => h_.1)) (fun _ h_ => h_.1))) (Kd.R_base ho1) hb); have n6_ := Aside0.mk (Kd.R_elder' (by (with_reducible repeat (first | apply rA | apply rN | apply rD)); exact (Kd.R_mono (Kd.R_mono (Kd.R_far (p := ⟨gb151, 1, none⟩) (Kd.R_far (p := ⟨gb151, 0, none⟩) (Kd.R_far (p := ⟨gb150, 1, none⟩) (Kd.R_far (p := ⟨gb150, 0, none⟩) (Kd.R_types (Kd.R_types HO121.out BK150.out (by decide)) BK151.out (by decide)) (fun _ hk => hk.1.2) (.slice Ao44 t137.length co44)) (fun _ hk => hk.1.2) (.slice Ao49 t140.length co49)) (fun _ hk => hk.2) (.slice Ao50 t143.length co50)) (fun _ hk => hk.2) (.slice Ao54 t146.length co54)) (fun _ h_ => h_.1)) (fun _ h_ => h_.1))) (Kd.R_base ho0) hb); have n7_ := Aside0.mk (Kd.R_elder' (by (with_reducible repeat (first | apply rA | apply rN | apply rD)); exact (Kd.R_mono (Kd.R_mono (Kd.R_far (p := ⟨gb151, 1, none⟩) (Kd.R_far (p := ⟨gb151, 0, none⟩) (Kd.R_far (p := ⟨gb150, 1, none⟩) (Kd.R_far (p := ⟨gb150, 0, none⟩) (Kd.R_types (Kd.R_types HO124.out BK150.out (by decide)) BK151.out (by decide)) (fun _ hk => hk.1.2) (.slice Ao44 t137.length co44)) (fun _ hk => hk.1.2) (.slice Ao49 t140.length co49)) (fun _ hk => hk.2) (.slice Ao50 t143.length co50)) (fun _ hk => hk.2) (.slice Ao54 t146.length co54)) (fun _ h_ => h_.1)) (fun _ h_ => h_.1))) (Kd.R_base ho0) hb); have n8_ := Aside0.mk (Kd.R_elder' (by (with_reducible repeat (first | apply rA | apply rN | apply rD)); exact (Kd.R_mono (Kd.R_mono (Kd.R_far (p := ⟨gb151, 1, none⟩) (Kd.R_far (p := ⟨gb151, 0, none⟩) (Kd.R_far (p := ⟨gb150, 1, none⟩) (Kd.R_far (p := ⟨gb150, 0, none⟩) (Kd.R_types (Kd.R_types HO130.out BK150.out (by decide)) BK151.out (by decide)) (fun _ hk => hk.1.2) (.slice Ao44 t137.length co44)) (fun _ hk => hk.1.2) (.slice Ao49 t140.length co49)) (fun _ hk => hk.2) (.slice Ao50 t143.length co50)) (fun _ hk => hk.2) (.slice Ao54 t146.length co54)) (fun _ h_ => h_.1)) (fun _ h_ => h_.1))) (Kd.R_base ho0) hb); have n9_ := Aside0.mk (Kd.R_elder' (by (with_reducible repeat (first | apply rA | apply rN | apply rD)); exact (Kd.R_mono (Kd.R_mono (Kd.R_far (p := ⟨gb151, 1, none⟩) (Kd.R_far (p := ⟨gb151, 0, none⟩) (Kd.R_far (p := ⟨gb150, 1, none⟩) (Kd.R_far (p := ⟨gb150, 0, none⟩) (Kd.R_types (Kd.R_types HO133.out BK150.out (by decide)) BK151.out (by decide)) (fun _ hk => hk.1.2) (.slice Ao44 t137.length co44)) (fun _ hk => hk.1.2) (.slice Ao49 t140.length co49)) (fun _ hk => hk.2) (.slice Ao50 t143.length co50)) (fun _ hk => hk.2) (.slice Ao54 t146.length co54)) (fun _ h_ => h_.1)) (fun _ h_ => h_.1))) (Kd.R_base ho1) hb); have n10_ := Aside0.mk (Kd.R_elder' (by (with_reducible repeat (first | apply rA | apply rN | apply rD)); exact (Kd.R_mono (Kd.R_mono (Kd.R_far (p := ⟨gb151, 1, none⟩) (Kd.R_far (p := ⟨gb151, 0, none⟩) (Kd.R_far (p := ⟨gb150, 1, none⟩) (Kd.R_far (p := ⟨gb150, 0, none⟩) (Kd.R_types (Kd.R_types HO136.out BK150.out (by decide)) BK151.out (by decide)) (fun _ hk => hk.1.2) (.slice Ao44 t137.length co44)) (fun _ hk => hk.1.2) (.slice Ao49 t140.length co49)) (fun _ hk => hk.2) (.slice Ao50 t143.length co50)) (fun _ hk => hk.2) (.slice Ao54 t146.length co54)) (fun _ h_ => h_.1)) (fun _ h_ => h_.1))) (Kd.R_base ho0) hb); have n11_ := Aside0.mk (Kd.R_elder' (by (with_reducible repeat (first | apply rA | apply rN | apply rD)); exact (Kd.R_mono (Kd.R_mono (Kd.R_far (p := ⟨gb151, 1, none⟩) (Kd.R_far (p := ⟨gb151, 0, none⟩) (Kd.R_far (p := ⟨gb150, 1, none⟩) (Kd.R_far (p := ⟨gb150, 0, none⟩) (Kd.R_types (Kd.R_types HO139.out BK150.out (by decide)) BK151.out (by decide)) (fun _ hk => hk.1.2) (.slice Ao44 t137.length co44)) (fun _ hk => hk.1.2) (.slice Ao49 t140.length co49)) (fun _ hk => hk.2) (.slice Ao50 t143.length co50)) (fun _ hk => hk.2) (.slice Ao54 t146.length co54)) (fun _ h_ => h_.1)) (fun _ h_ => h_.1))) (Kd.R_base ho0) hb); have n12_ := Aside0.mk (Kd.R_elder' (by (with_reducible repeat (first | apply rA | apply rN | apply rD)); exact (Kd.R_mono (Kd.R_mono (Kd.R_far (p := ⟨gb151, 1, none⟩) (Kd.R_far (p := ⟨gb151, 0, none⟩) (Kd.R_far (p := ⟨gb150, 1, none⟩) (Kd.R_far (p := ⟨gb150, 0, none⟩) (Kd.R_types (Kd.R_types HO142.out BK150.out (by decide)) BK151.out (by decide)) (fun _ hk => hk.1.2) (.slice Ao44 t137.length co44)) (fun _ hk => hk.1.2) (.slice Ao49 t140.length co49)) (fun _ hk => hk.2) (.slice Ao50 t143.length co50)) (fun _ hk => hk.2) (.slice Ao54 t146.length co54)) (fun _ h_ => h_.1)) (fun _ h_ => h_.1))) (Kd.R_base ho1) hb); have n13_ := Aside0.mk (Kd.R_elder' (by (with_reducible repeat (first | apply rA | apply rN | apply rD)); exact (Kd.R_mono (Kd.R_mono (Kd.R_far (p := ⟨gb151, 1, none⟩) (Kd.R_far (p := ⟨gb151, 0, none⟩) (Kd.R_far (p := ⟨gb150, 1, none⟩) (Kd.R_far (p := ⟨gb150, 0, none⟩) (Kd.R_types (Kd.R_types HO145.out BK150.out (by decide)) BK151.out (by decide)) (fun _ hk => hk.1.2) (.slice Ao44 t137.length co44)) (fun _ hk => hk.1.2) (.slice Ao49 t140.length co49)) (fun _ hk => hk.2) (.slice Ao50 t143.length co50)) (fun _ hk => hk.2) (.slice Ao54 t146.length co54)) (fun _ h_ => h_.1)) (fun _ h_ => h_.1))) (Kd.R_base ho0) hb); have n14_ := Aside0.mk (Kd.R_elder' (by (with_reducible repeat (first | apply rA | apply rN | apply rD)); exact (Kd.R_mono (Kd.R_mono (Kd.R_far (p := ⟨gb151, 1, none⟩) (Kd.R_far (p := ⟨gb151, 0, none⟩) (Kd.R_far (p := ⟨gb150, 1, none⟩) (Kd.R_far (p := ⟨gb150, 0, none⟩) (Kd.R_types (Kd.R_types HO148.out BK150.out (by decide)) BK151.out (by decide)) (fun _ hk => hk.1.2) (.slice Ao44 t137.length co44)) (fun _ hk => hk.1.2) (.slice Ao49 t140.length co49)) (fun _ hk => hk.2) (.slice Ao50 t143.length co50)) (fun _ hk => hk.2) (.slice Ao54 t146.length co54)) (fun _ h_ => h_.1)) (fun _ h_ => h_.1))) (Kd.R_base ho0) hb); have n15_ := Aside0.mk (Kd.R_lower (Kd.R_new' (Kd.R_new' (Kd.R_new' (Kd.R_new' (Kd.R_new' (Kd.R_new' (Kd.R_new' (Kd.R_new' (Kd.R_new' (Kd.R_new' (Kd.R_new' ho0 (Kd.R_lt (by (with_reducible repeat (first | apply rA | apply rN | apply rD)); exact (Kd.R_mono (Kd.R_mono (Kd.R_far (p := ⟨gb151, 1, none⟩) (Kd.R_far (p := ⟨gb151, 0, none⟩) (Kd.R_far (p := ⟨gb150, 1, none⟩) (Kd.R_far (p := ⟨gb150, 0, none⟩) (Kd.R_types (Kd.R_types HO103.out BK150.out (by decide)) BK151.out (by decide)) (fun _ hk => hk.1.2) (.slice Ao44 t137.length co44)) (fun _ hk => hk.1.2) (.slice Ao49 t140.length co49)) (fun _ hk => hk.2) (.slice Ao50 t143.length co50)) (fun _ hk => hk.2) (.slice Ao54 t146.length co54)) (fun _ h_ => h_.1)) (fun _ h_ => h_.1))))) (Kd.R_lt (by (with_reducible repeat (first | apply rA | apply rN | apply rD)); exact (Kd.R_mono (Kd.R_mono (Kd.R_far (p := ⟨gb151, 1, none⟩) (Kd.R_far (p := ⟨gb151, 0, none⟩) (Kd.R_far (p := ⟨gb150, 1, none⟩) (Kd.R_far (p := ⟨gb150, 0, none⟩) (Kd.R_types (Kd.R_types HO109.out BK150.out (by decide)) BK151.out (by decide)) (fun _ hk => hk.1.2) (.slice Ao44 t137.length co44)) (fun _ hk => hk.1.2) (.slice Ao49 t140.length co49)) (fun _ hk => hk.2) (.slice Ao50 t143.length co50)) (fun _ hk => hk.2) (.slice Ao54 t146.length co54)) (fun _ h_ => h_.1)) (fun _ h_ => h_.1))))) (Kd.R_lt (by (with_reducible repeat (first | apply rA | apply rN | apply rD)); exact (Kd.R_mono (Kd.R_mono (Kd.R_far (p := ⟨gb151, 1, none⟩) (Kd.R_far (p := ⟨gb151, 0, none⟩) (Kd.R_far (p := ⟨gb150, 1, none⟩) (Kd.R_far (p := ⟨gb150, 0, none⟩) (Kd.R_types (Kd.R_types HO112.out BK150.out (by decide)) BK151.out (by decide)) (fun _ hk => hk.1.2) (.slice Ao44 t137.length co44)) (fun _ hk => hk.1.2) (.slice Ao49 t140.length co49)) (fun _ hk => hk.2) (.slice Ao50 t143.length co50)) (fun _ hk => hk.2) (.slice Ao54 t146.length co54)) (fun _ h_ => h_.1)) (fun _ h_ => h_.1))))) (Kd.R_lt (by (with_reducible repeat (first | apply rA | apply rN | apply rD)); exact (Kd.R_mono (Kd.R_mono (Kd.R_far (p := ⟨gb151, 1, none⟩) (Kd.R_far (p := ⟨gb151, 0, none⟩) (Kd.R_far (p := ⟨gb150, 1, none⟩) (Kd.R_far (p := ⟨gb150, 0, none⟩) (Kd.R_types (Kd.R_types HO115.out BK150.out (by decide)) BK151.out (by decide)) (fun _ hk => hk.1.2) (.slice Ao44 t137.length co44)) (fun _ hk => hk.1.2) (.slice Ao49 t140.length co49)) (fun _ hk => hk.2) (.slice Ao50 t143.length co50)) (fun _ hk => hk.2) (.slice Ao54 t146.length co54)) (fun _ h_ => h_.1)) (fun _ h_ => h_.1))))) (Kd.R_lt (by (with_reducible repeat (first | apply rA | apply rN | apply rD)); exact (Kd.R_mono (Kd.R_mono (Kd.R_far (p := ⟨gb151, 1, none⟩) (Kd.R_far (p := ⟨gb151, 0, none⟩) (Kd.R_far (p := ⟨gb150, 1, none⟩) (Kd.R_far (p := ⟨gb150, 0, none⟩) (Kd.R_types (Kd.R_types HO121.out BK150.out (by decide)) BK151.out (by decide)) (fun _ hk => hk.1.2) (.slice Ao44 t137.length co44)) (fun _ hk => hk.1.2) (.slice Ao49 t140.length co49)) (fun _ hk => hk.2) (.slice Ao50 t143.length co50)) (fun _ hk => hk.2) (.slice Ao54 t146.length co54)) (fun _ h_ => h_.1)) (fun _ h_ => h_.1))))) (Kd.R_lt (by (with_reducible repeat (first | apply rA | apply rN | apply rD)); exact (Kd.R_mono (Kd.R_mono (Kd.R_far (p := ⟨gb151, 1, none⟩) (Kd.R_far (p := ⟨gb151, 0, none⟩) (Kd.R_far (p := ⟨gb150, 1, none⟩) (Kd.R_far (p := ⟨gb150, 0, none⟩) (Kd.R_types (Kd.R_types HO124.out BK150.out (by decide)) BK151.out (by decide)) (fun _ hk => hk.1.2) (.slice Ao44 t137.length co44)) (fun _ hk => hk.1.2) (.slice Ao49 t140.length co49)) (fun _ hk => hk.2) (.slice Ao50 t143.length co50)) (fun _ hk => hk.2) (.slice Ao54 t146.length co54)) (fun _ h_ => h_.1)) (fun _ h_ => h_.1))))) (Kd.R_lt (by (with_reducible repeat (first | apply rA | apply rN | apply rD)); exact (Kd.R_mono (Kd.R_mono (Kd.R_far (p := ⟨gb151, 1, none⟩) (Kd.R_far (p := ⟨gb151, 0, none⟩) (Kd.R_far (p := ⟨gb150, 1, none⟩) (Kd.R_far (p := ⟨gb150, 0, none⟩) (Kd.R_types (Kd.R_types HO130.out BK150.out (by decide)) BK151.out (by decide)) (fun _ hk => hk.1.2) (.slice Ao44 t137.length co44)) (fun _ hk => hk.1.2) (.slice Ao49 t140.length co49)) (fun _ hk => hk.2) (.slice Ao50 t143.length co50)) (fun _ hk => hk.2) (.slice Ao54 t146.length co54)) (fun _ h_ => h_.1)) (fun _ h_ => h_.1))))) (Kd.R_lt (by (with_reducible repeat (first | apply rA | apply rN | apply rD)); exact (Kd.R_mono (Kd.R_mono (Kd.R_far (p := ⟨gb151, 1, none⟩) (Kd.R_far (p := ⟨gb151, 0, none⟩) (Kd.R_far (p := ⟨gb150, 1, none⟩) (Kd.R_far (p := ⟨gb150, 0, none⟩) (Kd.R_types (Kd.R_types HO136.out BK150.out (by decide)) BK151.out (by decide)) (fun _ hk => hk.1.2) (.slice Ao44 t137.length co44)) (fun _ hk => hk.1.2) (.slice Ao49 t140.length co49)) (fun _ hk => hk.2) (.slice Ao50 t143.length co50)) (fun _ hk => hk.2) (.slice Ao54 t146.length co54)) (fun _ h_ => h_.1)) (fun _ h_ => h_.1))))) (Kd.R_lt (by (with_reducible repeat (first | apply rA | apply rN | apply rD)); exact (Kd.R_mono (Kd.R_mono (Kd.R_far (p := ⟨gb151, 1, none⟩) (Kd.R_far (p := ⟨gb151, 0, none⟩) (Kd.R_far (p := ⟨gb150, 1, none⟩) (Kd.R_far (p := ⟨gb150, 0, none⟩) (Kd.R_types (Kd.R_types HO139.out BK150.out (by decide)) BK151.out (by decide)) (fun _ hk => hk.1.2) (.slice Ao44 t137.length co44)) (fun _ hk => hk.1.2) (.slice Ao49 t140.length co49)) (fun _ hk => hk.2) (.slice Ao50 t143.length co50)) (fun _ hk => hk.2) (.slice Ao54 t146.length co54)) (fun _ h_ => h_.1)) (fun _ h_ => h_.1))))) (Kd.R_lt (by (with_reducible repeat (first | apply rA | apply rN | apply rD)); exact (Kd.R_mono (Kd.R_mono (Kd.R_far (p := ⟨gb151, 1, none⟩) (Kd.R_far (p := ⟨gb151, 0, none⟩) (Kd.R_far (p := ⟨gb150, 1, none⟩) (Kd.R_far (p := ⟨gb150, 0, none⟩) (Kd.R_types (Kd.R_types HO145.out BK150.out (by decide)) BK151.out (by decide)) (fun _ hk => hk.1.2) (.slice Ao44 t137.length co44)) (fun _ hk => hk.1.2) (.slice Ao49 t140.length co49)) (fun _ hk => hk.2) (.slice Ao50 t143.length co50)) (fun _ hk => hk.2) (.slice Ao54 t146.length co54)) (fun _ h_ => h_.1)) (fun _ h_ => h_.1))))) (Kd.R_lt (by (with_reducible repeat (first | apply rA | apply rN | apply rD)); exact (Kd.R_mono (Kd.R_mono (Kd.R_far (p := ⟨gb151, 1, none⟩) (Kd.R_far (p := ⟨gb151, 0, none⟩) (Kd.R_far (p := ⟨gb150, 1, none⟩) (Kd.R_far (p := ⟨gb150, 0, none⟩) (Kd.R_types (Kd.R_types HO148.out BK150.out (by decide)) BK151.out (by decide)) (fun _ hk => hk.1.2) (.slice Ao44 t137.length co44)) (fun _ hk => hk.1.2) (.slice Ao49 t140.length co49)) (fun _ hk => hk.2) (.slice Ao50 t143.length co50)) (fun _ hk => hk.2) (.slice Ao54 t146.length co54)) (fun _ h_ => h_.1)) (fun _ h_ => h_.1))))) (below_size (by repeat (first | (with_reducible first | exact HB.out | apply wA | apply wN | apply wD | refine below_set ?_ GE126.out | refine below_set ?_ GE127.out | refine below_set ?_ GE150.out | refine below_set ?_ GE151.out) | exact HB.out)))); have n16_ := Aside0.mk (Kd.R_lower (Kd.R_new' (Kd.R_new' (Kd.R_new' (Kd.R_new' ho1 (Kd.R_lt (by (with_reducible repeat (first | apply rA | apply rN | apply rD)); exact (Kd.R_mono (Kd.R_mono (Kd.R_far (p := ⟨gb151, 1, none⟩) (Kd.R_far (p := ⟨gb151, 0, none⟩) (Kd.R_far (p := ⟨gb150, 1, none⟩) (Kd.R_far (p := ⟨gb150, 0, none⟩) (Kd.R_types (Kd.R_types HO106.out BK150.out (by decide)) BK151.out (by decide)) (fun _ hk => hk.1.2) (.slice Ao44 t137.length co44)) (fun _ hk => hk.1.2) (.slice Ao49 t140.length co49)) (fun _ hk => hk.2) (.slice Ao50 t143.length co50)) (fun _ hk => hk.2) (.slice Ao54 t146.length co54)) (fun _ h_ => h_.1)) (fun _ h_ => h_.1))))) (Kd.R_lt (by (with_reducible repeat (first | apply rA | apply rN | apply rD)); exact (Kd.R_mono (Kd.R_mono (Kd.R_far (p := ⟨gb151, 1, none⟩) (Kd.R_far (p := ⟨gb151, 0, none⟩) (Kd.R_far (p := ⟨gb150, 1, none⟩) (Kd.R_far (p := ⟨gb150, 0, none⟩) (Kd.R_types (Kd.R_types HO118.out BK150.out (by decide)) BK151.out (by decide)) (fun _ hk => hk.1.2) (.slice Ao44 t137.length co44)) (fun _ hk => hk.1.2) (.slice Ao49 t140.length co49)) (fun _ hk => hk.2) (.slice Ao50 t143.length co50)) (fun _ hk => hk.2) (.slice Ao54 t146.length co54)) (fun _ h_ => h_.1)) (fun _ h_ => h_.1))))) (Kd.R_lt (by (with_reducible repeat (first | apply rA | apply rN | apply rD)); exact (Kd.R_mono (Kd.R_mono (Kd.R_far (p := ⟨gb151, 1, none⟩) (Kd.R_far (p := ⟨gb151, 0, none⟩) (Kd.R_far (p := ⟨gb150, 1, none⟩) (Kd.R_far (p := ⟨gb150, 0, none⟩) (Kd.R_types (Kd.R_types HO133.out BK150.out (by decide)) BK151.out (by decide)) (fun _ hk => hk.1.2) (.slice Ao44 t137.length co44)) (fun _ hk => hk.1.2) (.slice Ao49 t140.length co49)) (fun _ hk => hk.2) (.slice Ao50 t143.length co50)) (fun _ hk => hk.2) (.slice Ao54 t146.length co54)) (fun _ h_ => h_.1)) (fun _ h_ => h_.1))))) (Kd.R_lt (by (with_reducible repeat (first | apply rA | apply rN | apply rD)); exact (Kd.R_mono (Kd.R_mono (Kd.R_far (p := ⟨gb151, 1, none⟩) (Kd.R_far (p := ⟨gb151, 0, none⟩) (Kd.R_far (p := ⟨gb150, 1, none⟩) (Kd.R_far (p := ⟨gb150, 0, none⟩) (Kd.R_types (Kd.R_types HO142.out BK150.out (by decide)) BK151.out (by decide)) (fun _ hk => hk.1.2) (.slice Ao44 t137.length co44)) (fun _ hk => hk.1.2) (.slice Ao49 t140.length co49)) (fun _ hk => hk.2) (.slice Ao50 t143.length co50)) (fun _ hk => hk.2) (.slice Ao54 t146.length co54)) (fun _ h_ => h_.1)) (fun _ h_ => h_.1))))) (below_size (by repeat (first | (with_reducible first | exact HB.out | apply wA | apply wN | apply wD | refine below_set ?_ GE126.out | refine below_set ?_ GE127.out | refine below_set ?_ GE150.out | refine below_set ?_ GE151.out) | exact HB.out)))); have n17_ := Aside0.mk (bB (g := gb126) (o := .cells #[.slice Ao28 t113.length co28, .slice Ao31 t116.length co31] 25 (0, 0)) (by (with_reducible repeat (first | refine bN ?_ _ | refine bD ?_ | refine bA ?_ _)); refine blk_far ?_ NB126_151.out _; (with_reducible repeat (first | refine bN ?_ _ | refine bD ?_ | refine bA ?_ _)); refine blk_far ?_ NB126_151.out _; (with_reducible repeat (first | refine bN ?_ _ | refine bD ?_ | refine bA ?_ _)); refine blk_far ?_ NB126_150.out _; (with_reducible repeat (first | refine bN ?_ _ | refine bD ?_ | refine bA ?_ _)); refine blk_far ?_ NB126_150.out _; (with_reducible repeat (first | refine bN ?_ _ | refine bD ?_ | refine bA ?_ _)); exact BK126.out) hb); have n18_ := Aside0.mk (bB (g := gb127) (o := .cells #[.slice Ao32 t119.length co32, .slice Ao34 t122.length co34] 29 (0, 0)) (by (with_reducible repeat (first | refine bN ?_ _ | refine bD ?_ | refine bA ?_ _)); refine blk_far ?_ NB127_151.out _; (with_reducible repeat (first | refine bN ?_ _ | refine bD ?_ | refine bA ?_ _)); refine blk_far ?_ NB127_151.out _; (with_reducible repeat (first | refine bN ?_ _ | refine bD ?_ | refine bA ?_ _)); refine blk_far ?_ NB127_150.out _; (with_reducible repeat (first | refine bN ?_ _ | refine bD ?_ | refine bA ?_ _)); refine blk_far ?_ NB127_150.out _; (with_reducible repeat (first | refine bN ?_ _ | refine bD ?_ | refine bA ?_ _)); exact BK127.out) hb); have n19_ := Aside0.mk (bB (g := gb150) (o := .cells #[.slice Ao44 t137.length co44, .slice Ao49 t140.length co49] 25 (0, 0)) (by (with_reducible repeat (first | refine bN ?_ _ | refine bD ?_ | refine bA ?_ _)); refine blk_far ?_ NB150_151.out _; (with_reducible repeat (first | refine bN ?_ _ | refine bD ?_ | refine bA ?_ _)); refine blk_far ?_ NB150_151.out _; (with_reducible repeat (first | refine bN ?_ _ | refine bD ?_ | refine bA ?_ _)); refine blk_put (cs := #[.slice Ao44 t137.length co44, .slice none 0 0]) ?_ 1 _ rfl; (with_reducible repeat (first | refine bN ?_ _ | refine bD ?_ | refine bA ?_ _)); refine blk_put (cs := #[.slice none 0 0, .slice none 0 0]) ?_ 0 _ rfl; (with_reducible repeat (first | refine bN ?_ _ | refine bD ?_ | refine bA ?_ _)); exact BK150.out) hb); have n20_ := Aside0.mk (bB (g := gb151) (o := .cells #[.slice Ao50 t143.length co50, .slice Ao54 t146.length co54] 29 (0, 0)) (by (with_reducible repeat (first | refine bN ?_ _ | refine bD ?_ | refine bA ?_ _)); refine blk_put (cs := #[.slice Ao50 t143.length co50, .slice none 0 0]) ?_ 1 _ rfl; (with_reducible repeat (first | refine bN ?_ _ | refine bD ?_ | refine bA ?_ _)); refine blk_put (cs := #[.slice none 0 0, .slice none 0 0]) ?_ 0 _ rfl; (with_reducible repeat (first | refine bN ?_ _ | refine bD ?_ | refine bA ?_ _)); refine blk_far ?_ NB151_150.out _; (with_reducible repeat (first | refine bN ?_ _ | refine bD ?_ | refine bA ?_ _)); refine blk_far ?_ NB151_150.out _; (with_reducible repeat (first | refine bN ?_ _ | refine bD ?_ | refine bA ?_ _)); exact BK151.out) hb); have n21_ := Aside0.mk (wS (by repeat (first | (with_reducible first | exact HB.out | apply wA | apply wN | apply wD | refine below_set ?_ GE126.out | refine below_set ?_ GE127.out | refine below_set ?_ GE150.out | refine below_set ?_ GE151.out) | exact HB.out)) hb); clear HO103; clear HO106; clear HO109; clear HO112; clear HO115; clear HO118; clear HO121; clear HO124; clear HO130; clear HO133; clear HO136; clear HO139; clear HO142; clear HO145; clear HO148; clear BK126; clear BK127; clear BK150; clear BK151; clear HB; have HO103 := n0_; have HO106 := n1_; have HO109 := n2_; have HO112 := n3_; have HO115 := n4_; have HO118 := n5_; have HO121 := n6_; have HO124 := n7_; have HO130 := n8_; have HO133 := n9_; have HO136 := n10_; have HO139 := n11_; have HO142 := n12_; have HO145 := n13_; have HO148 := n14_; have HO154 := n15_; have HO157 := n16_; have BK126 := n17_; have BK127 := n18_; have BK150 := n19_; have BK151 := n20_; have HB := n21_; clear n0_ n1_ n2_ n3_ n4_ n5_ n6_ n7_ n8_ n9_ n10_ n11_ n12_ n13_ n14_ n15_ n16_ n17_ n18_ n19_ n20_ n21_; (try clear hb); (try clear hb2); (try clear hk); (try clear hi); (try clear ho0); (try clear ho1); obtain ⟨Ao56, co56, eo56⟩ := Kd.R_slice HO154.out; subst eo56; obtain ⟨Ao57, co57, eo57⟩ := Kd.R_slice HO157.out; subst eo57) | ((with_reducible refine gate_callee (f := 20) rfl ?_); refine goesL_ (some 26) rfl rfl Try.func20 (by kernel_rfl) rfl #[.agg #[.slice Ao56 t152.length co56, .slice Ao57 t155.length co57]] rfl aM ?_; (with_reducible refine (graph_Components.calls k _ _ t152 _ _ t155 t158 t161 _ ?side1 ?side2 ?side3 ?side4 A6.out).mono ?_); (case side1 => repeat (first | exact (Kd.R_reads' HO154.out).2.2 | (with_reducible refine cA ?_ _) | (with_reducible refine cN ?_ _) | (with_reducible refine cD ?_))); (case side2 => exact (Kd.R_reads' HO154.out).2.1); (case side3 => repeat (first | exact (Kd.R_reads' HO157.out).2.2 | (with_reducible refine cA ?_ _) | (with_reducible refine cN ?_ _) | (with_reducible refine cD ?_))); (case side4 => exact (Kd.R_reads' HO157.out).2.1); rintro e w58 ⟨v159, rfl, ho0, hb⟩; refine ⟨_, rfl, ?_⟩; have n0_ := Aside0.mk (rB (by (with_reducible repeat (first | apply rA | apply rN | apply rD)); exact HO103.out) hb); have n1_ := Aside0.mk (rB (by (with_reducible repeat (first | apply rA | apply rN | apply rD)); exact HO106.out) hb); have n2_ := Aside0.mk (rB (by (with_reducible repeat (first | apply rA | apply rN | apply rD)); exact HO109.out) hb); have n3_ := Aside0.mk (rB (by (with_reducible repeat (first | apply rA | apply rN | apply rD)); exact HO112.out) hb); have n4_ := Aside0.mk (rB (by (with_reducible repeat (first | apply rA | apply rN | apply rD)); exact HO115.out) hb); have n5_ := Aside0.mk (rB (by (with_reducible repeat (first | apply rA | apply rN | apply rD)); exact HO118.out) hb); have n6_ := Aside0.mk (rB (by (with_reducible repeat (first | apply rA | apply rN | apply rD)); exact HO121.out) hb); have n7_ := Aside0.mk (rB (by (with_reducible repeat (first | apply rA | apply rN | apply rD)); exact HO124.out) hb); have n8_ := Aside0.mk (rB (by (with_reducible repeat (first | apply rA | apply rN | apply rD)); exact HO130.out) hb); have n9_ := Aside0.mk (rB (by (with_reducible repeat (first | apply rA | apply rN | apply rD)); exact HO133.out) hb); have n10_ := Aside0.mk (rB (by (with_reducible repeat (first | apply rA | apply rN | apply rD)); exact HO136.out) hb); have n11_ := Aside0.mk (rB (by (with_reducible repeat (first | apply rA | apply rN | apply rD)); exact HO139.out) hb); have n12_ := Aside0.mk (rB (by (with_reducible repeat (first | apply rA | apply rN | apply rD)); exact HO142.out) hb); have n13_ := Aside0.mk (rB (by (with_reducible repeat (first | apply rA | apply rN | apply rD)); exact HO145.out) hb); have n14_ := Aside0.mk (rB (by (with_reducible repeat (first | apply rA | apply rN | apply rD)); exact HO148.out) hb); have n15_ := Aside0.mk (rB (by (with_reducible repeat (first | apply rA | apply rN | apply rD)); exact HO154.out) hb); have n16_ := Aside0.mk (rB (by (with_reducible repeat (first | apply rA | apply rN | apply rD)); exact HO157.out) hb); have n17_ := Aside0.mk (Kd.S_lower (Kd.S_new' (Kd.S_new' (Kd.S_new' (Kd.S_new' (Kd.S_new' (Kd.S_new' (Kd.S_new' (Kd.S_new' (Kd.S_new' (Kd.S_new' (Kd.S_new' (Kd.S_new' ho0 (Kd.R_lt (by (with_reducible repeat (first | apply rA | apply rN | apply rD)); exact HO103.out))) (Kd.R_lt (by (with_reducible repeat (first | apply rA | apply rN | apply rD)); exact HO109.out))) (Kd.R_lt (by (with_reducible repeat (first | apply rA | apply rN | apply rD)); exact HO112.out))) (Kd.R_lt (by (with_reducible repeat (first | apply rA | apply rN | apply rD)); exact HO115.out))) (Kd.R_lt (by (with_reducible repeat (first | apply rA | apply rN | apply rD)); exact HO121.out))) (Kd.R_lt (by (with_reducible repeat (first | apply rA | apply rN | apply rD)); exact HO124.out))) (Kd.R_lt (by (with_reducible repeat (first | apply rA | apply rN | apply rD)); exact HO130.out))) (Kd.R_lt (by (with_reducible repeat (first | apply rA | apply rN | apply rD)); exact HO136.out))) (Kd.R_lt (by (with_reducible repeat (first | apply rA | apply rN | apply rD)); exact HO139.out))) (Kd.R_lt (by (with_reducible repeat (first | apply rA | apply rN | apply rD)); exact HO145.out))) (Kd.R_lt (by (with_reducible repeat (first | apply rA | apply rN | apply rD)); exact HO148.out))) (Kd.R_lt (by (with_reducible repeat (first | apply rA | apply rN | apply rD)); exact HO154.out))) (below_size (by repeat (first | (with_reducible first | exact HB.out | apply wA | apply wN | apply wD | refine below_set ?_ GE126.out | refine below_set ?_ GE127.out | refine below_set ?_ GE150.out | refine below_set ?_ GE151.out) | exact HB.out)))); have n18_ := Aside0.mk (bB (g := gb126) (o := .cells #[.slice Ao28 t113.length co28, .slice Ao31 t116.length co31] 25 (0, 0)) (by (with_reducible repeat (first | refine bN ?_ _ | refine bD ?_ | refine bA ?_ _)); exact BK126.out) hb); have n19_ := Aside0.mk (bB (g := gb127) (o := .cells #[.slice Ao32 t119.length co32, .slice Ao34 t122.length co34] 29 (0, 0)) (by (with_reducible repeat (first | refine bN ?_ _ | refine bD ?_ | refine bA ?_ _)); exact BK127.out) hb); have n20_ := Aside0.mk (bB (g := gb150) (o := .cells #[.slice Ao44 t137.length co44, .slice Ao49 t140.length co49] 25 (0, 0)) (by (with_reducible repeat (first | refine bN ?_ _ | refine bD ?_ | refine bA ?_ _)); exact BK150.out) hb); have n21_ := Aside0.mk (bB (g := gb151) (o := .cells #[.slice Ao50 t143.length co50, .slice Ao54 t146.length co54] 29 (0, 0)) (by (with_reducible repeat (first | refine bN ?_ _ | refine bD ?_ | refine bA ?_ _)); exact BK151.out) hb); have n22_ := Aside0.mk (wS (by repeat (first | (with_reducible first | exact HB.out | apply wA | apply wN | apply wD | refine below_set ?_ GE126.out | refine below_set ?_ GE127.out | refine below_set ?_ GE150.out | refine below_set ?_ GE151.out) | exact HB.out)) hb); clear HO103; clear HO106; clear HO109; clear HO112; clear HO115; clear HO118; clear HO121; clear HO124; clear HO130; clear HO133; clear HO136; clear HO139; clear HO142; clear HO145; clear HO148; clear HO154; clear HO157; clear BK126; clear BK127; clear BK150; clear BK151; clear HB; have HO103 := n0_; have HO106 := n1_; have HO109 := n2_; have HO112 := n3_; have HO115 := n4_; have HO118 := n5_; have HO121 := n6_; have HO124 := n7_; have HO130 := n8_; have HO133 := n9_; have HO136 := n10_; have HO139 := n11_; have HO142 := n12_; have HO145 := n13_; have HO148 := n14_; have HO154 := n15_; have HO157 := n16_; have HO160 := n17_; have BK126 := n18_; have BK127 := n19_; have BK150 := n20_; have BK151 := n21_; have HB := n22_; clear n0_ n1_ n2_ n3_ n4_ n5_ n6_ n7_ n8_ n9_ n10_ n11_ n12_ n13_ n14_ n15_ n16_ n17_ n18_ n19_ n20_ n21_ n22_; (try clear hb); (try clear hb2); (try clear hk); (try clear hi); (try clear ho0); have hcz59_0 : w58.cell? ⟨gb126, 0, none⟩ = some (.slice Ao28 t113.length co28) := (blk_cell BK126.out 0).trans rfl; have hcz59_1 : w58.cell? ⟨gb126, 1, none⟩ = some (.slice Ao31 t116.length co31) := (blk_cell BK126.out 1).trans rfl; have hfz59_0 := blk_frozen BK126.out 0; have hfz59_1 := blk_frozen BK126.out 1) | ((with_reducible refine gate_dst (N := 33) rfl ?_); (try (refine gate_guard (by rfl) ?_; dsimp only)); refine Kd.R_lit (Kd.int .i64) _ 3 ?hg (N := 33) ?hd (xs := ([3, 1] : List Int)) (inner := [.int .i64 3, .int .i64 1]) (ok := fun _ => True) (okp := fun _ => True) ?hr ?hp (fun _ hk => hk) trivial (Below.refl _ _) (Nat.le_refl _) (by simp) ?_; (case hd => rfl); (case hg => rfl); (case hr => first | (go_simp; done) | (go_simp; rfl)); (case hp => exact (Reps.one (show Kd.M (Kd.int .i64) _ _ _ 3 [.int .i64 3] from rfl) (Reps.one (show Kd.M (Kd.int .i64) _ _ _ 1 [.int .i64 1] from rfl) (Reps.none _ _)))); intro v163 w60 ho61 hb hg_ hnew_; clear hg_ hnew_; (first | rw [← Ny162.out] at ho61 | (simp only [Int.reduceToNat] at ho61; rw [← Ny162.out] at ho61)); have n0_ := Aside0.mk (Kd.R_elder' (by (with_reducible repeat (first | apply rA | apply rN | apply rD)); exact HO103.out) (Kd.R_base ho61) hb); have n1_ := Aside0.mk (rB (by (with_reducible repeat (first | apply rA | apply rN | apply rD)); exact HO106.out) hb); have n2_ := Aside0.mk (Kd.R_elder' (by (with_reducible repeat (first | apply rA | apply rN | apply rD)); exact HO109.out) (Kd.R_base ho61) hb); have n3_ := Aside0.mk (Kd.R_elder' (by (with_reducible repeat (first | apply rA | apply rN | apply rD)); exact HO112.out) (Kd.R_base ho61) hb); have n4_ := Aside0.mk (Kd.R_elder' (by (with_reducible repeat (first | apply rA | apply rN | apply rD)); exact HO115.out) (Kd.R_base ho61) hb); have n5_ := Aside0.mk (rB (by (with_reducible repeat (first | apply rA | apply rN | apply rD)); exact HO118.out) hb); have n6_ := Aside0.mk (Kd.R_elder' (by (with_reducible repeat (first | apply rA | apply rN | apply rD)); exact HO121.out) (Kd.R_base ho61) hb); have n7_ := Aside0.mk (Kd.R_elder' (by (with_reducible repeat (first | apply rA | apply rN | apply rD)); exact HO124.out) (Kd.R_base ho61) hb); have n8_ := Aside0.mk (Kd.R_elder' (by (with_reducible repeat (first | apply rA | apply rN | apply rD)); exact HO130.out) (Kd.R_base ho61) hb); have n9_ := Aside0.mk (rB (by (with_reducible repeat (first | apply rA | apply rN | apply rD)); exact HO133.out) hb); have n10_ := Aside0.mk (Kd.R_elder' (by (with_reducible repeat (first | apply rA | apply rN | apply rD)); exact HO136.out) (Kd.R_base ho61) hb); have n11_ := Aside0.mk (Kd.R_elder' (by (with_reducible repeat (first | apply rA | apply rN | apply rD)); exact HO139.out) (Kd.R_base ho61) hb); have n12_ := Aside0.mk (rB (by (with_reducible repeat (first | apply rA | apply rN | apply rD)); exact HO142.out) hb); have n13_ := Aside0.mk (Kd.R_elder' (by (with_reducible repeat (first | apply rA | apply rN | apply rD)); exact HO145.out) (Kd.R_base ho61) hb); have n14_ := Aside0.mk (Kd.R_elder' (by (with_reducible repeat (first | apply rA | apply rN | apply rD)); exact HO148.out) (Kd.R_base ho61) hb); have n15_ := Aside0.mk (Kd.R_elder' (by (with_reducible repeat (first | apply rA | apply rN | apply rD)); exact HO154.out) (Kd.R_base ho61) hb); have n16_ := Aside0.mk (rB (by (with_reducible repeat (first | apply rA | apply rN | apply rD)); exact HO157.out) hb); have n17_ := Aside0.mk (Kd.S_elder' (by (with_reducible repeat (first | apply Kd.S_alloc | apply Kd.S_drewN | apply Kd.S_drew)); exact HO160.out) (Kd.R_base ho61) hb); have n18_ := Aside0.mk (Kd.R_lower (Kd.R_new' (Kd.R_new' (Kd.R_new' (Kd.R_new' (Kd.R_new' (Kd.R_new' (Kd.R_new' (Kd.R_new' (Kd.R_new' (Kd.R_new' (Kd.R_new' (Kd.R_new' ho61 (Kd.R_lt (by (with_reducible repeat (first | apply rA | apply rN | apply rD)); exact HO103.out))) (Kd.R_lt (by (with_reducible repeat (first | apply rA | apply rN | apply rD)); exact HO109.out))) (Kd.R_lt (by (with_reducible repeat (first | apply rA | apply rN | apply rD)); exact HO112.out))) (Kd.R_lt (by (with_reducible repeat (first | apply rA | apply rN | apply rD)); exact HO115.out))) (Kd.R_lt (by (with_reducible repeat (first | apply rA | apply rN | apply rD)); exact HO121.out))) (Kd.R_lt (by (with_reducible repeat (first | apply rA | apply rN | apply rD)); exact HO124.out))) (Kd.R_lt (by (with_reducible repeat (first | apply rA | apply rN | apply rD)); exact HO130.out))) (Kd.R_lt (by (with_reducible repeat (first | apply rA | apply rN | apply rD)); exact HO136.out))) (Kd.R_lt (by (with_reducible repeat (first | apply rA | apply rN | apply rD)); exact HO139.out))) (Kd.R_lt (by (with_reducible repeat (first | apply rA | apply rN | apply rD)); exact HO145.out))) (Kd.R_lt (by (with_reducible repeat (first | apply rA | apply rN | apply rD)); exact HO148.out))) (Kd.R_lt (by (with_reducible repeat (first | apply rA | apply rN | apply rD)); exact HO154.out))) (below_size (by repeat (first | (with_reducible first | exact HB.out | apply wA | apply wN | apply wD | refine below_set ?_ GE126.out | refine below_set ?_ GE127.out | refine below_set ?_ GE150.out | refine below_set ?_ GE151.out) | exact HB.out)))); have n19_ := Aside0.mk (bB (g := gb126) (o := .cells #[.slice Ao28 t113.length co28, .slice Ao31 t116.length co31] 25 (0, 0)) (by (with_reducible repeat (first | refine bN ?_ _ | refine bD ?_ | refine bA ?_ _)); exact BK126.out) hb); have n20_ := Aside0.mk (bB (g := gb127) (o := .cells #[.slice Ao32 t119.length co32, .slice Ao34 t122.length co34] 29 (0, 0)) (by (with_reducible repeat (first | refine bN ?_ _ | refine bD ?_ | refine bA ?_ _)); exact BK127.out) hb); have n21_ := Aside0.mk (bB (g := gb150) (o := .cells #[.slice Ao44 t137.length co44, .slice Ao49 t140.length co49] 25 (0, 0)) (by (with_reducible repeat (first | refine bN ?_ _ | refine bD ?_ | refine bA ?_ _)); exact BK150.out) hb); have n22_ := Aside0.mk (bB (g := gb151) (o := .cells #[.slice Ao50 t143.length co50, .slice Ao54 t146.length co54] 29 (0, 0)) (by (with_reducible repeat (first | refine bN ?_ _ | refine bD ?_ | refine bA ?_ _)); exact BK151.out) hb); have n23_ := Aside0.mk (wS (by repeat (first | (with_reducible first | exact HB.out | apply wA | apply wN | apply wD | refine below_set ?_ GE126.out | refine below_set ?_ GE127.out | refine below_set ?_ GE150.out | refine below_set ?_ GE151.out) | exact HB.out)) hb); clear HO103; clear HO106; clear HO109; clear HO112; clear HO115; clear HO118; clear HO121; clear HO124; clear HO130; clear HO133; clear HO136; clear HO139; clear HO142; clear HO145; clear HO148; clear HO154; clear HO157; clear HO160; clear BK126; clear BK127; clear BK150; clear BK151; clear HB; have HO103 := n0_; have HO106 := n1_; have HO109 := n2_; have HO112 := n3_; have HO115 := n4_; have HO118 := n5_; have HO121 := n6_; have HO124 := n7_; have HO130 := n8_; have HO133 := n9_; have HO136 := n10_; have HO139 := n11_; have HO142 := n12_; have HO145 := n13_; have HO148 := n14_; have HO154 := n15_; have HO157 := n16_; have HO160 := n17_; have HO164 := n18_; have BK126 := n19_; have BK127 := n20_; have BK150 := n21_; have BK151 := n22_; have HB := n23_; clear n0_ n1_ n2_ n3_ n4_ n5_ n6_ n7_ n8_ n9_ n10_ n11_ n12_ n13_ n14_ n15_ n16_ n17_ n18_ n19_ n20_ n21_ n22_ n23_; clear hb ho61) | ((with_reducible refine gate_dst (N := 35) rfl ?_); (try (refine gate_guard (by rfl) ?_; dsimp only)); refine Kd.R_lit k38 _ 38 ?hg (N := 35) ?hd (xs := ([(⟨0, 0, 1⟩ : S38)] : List (S38))) (inner := [.int .i64 0, .int .i64 0, .int .i64 1]) (ok := fun _ => True) (okp := fun _ => True) ?hr ?hp (fun _ hk => hk) trivial (Below.refl _ _) (Nat.le_refl _) (by simp) ?_; (case hd => rfl); (case hg => rfl); (case hr => first | (go_simp; done) | (go_simp; rfl)); (case hp => exact (Reps.c3 (show Kd.M k38 _ _ _ (⟨0, 0, 1⟩ : S38) [.int .i64 0, .int .i64 0, .int .i64 1] from (k38_mkM _ _ _ (⟨0, 0, 1⟩ : S38) )) (Reps.none _ _))); intro v166 w62 ho63 hb hg_ hnew_; clear hg_ hnew_; (first | rw [← Ny165.out] at ho63 | (simp only [Int.reduceToNat] at ho63; rw [← Ny165.out] at ho63)); have n0_ := Aside0.mk (rB (by (with_reducible repeat (first | apply rA | apply rN | apply rD)); exact HO103.out) hb); have n1_ := Aside0.mk (Kd.R_elder' (by (with_reducible repeat (first | apply rA | apply rN | apply rD)); exact HO106.out) (Kd.R_base ho63) hb); have n2_ := Aside0.mk (rB (by (with_reducible repeat (first | apply rA | apply rN | apply rD)); exact HO109.out) hb); have n3_ := Aside0.mk (rB (by (with_reducible repeat (first | apply rA | apply rN | apply rD)); exact HO112.out) hb); have n4_ := Aside0.mk (rB (by (with_reducible repeat (first | apply rA | apply rN | apply rD)); exact HO115.out) hb); have n5_ := Aside0.mk (Kd.R_elder' (by (with_reducible repeat (first | apply rA | apply rN | apply rD)); exact HO118.out) (Kd.R_base ho63) hb); have n6_ := Aside0.mk (rB (by (with_reducible repeat (first | apply rA | apply rN | apply rD)); exact HO121.out) hb); have n7_ := Aside0.mk (rB (by (with_reducible repeat (first | apply rA | apply rN | apply rD)); exact HO124.out) hb); have n8_ := Aside0.mk (rB (by (with_reducible repeat (first | apply rA | apply rN | apply rD)); exact HO130.out) hb); have n9_ := Aside0.mk (Kd.R_elder' (by (with_reducible repeat (first | apply rA | apply rN | apply rD)); exact HO133.out) (Kd.R_base ho63) hb); have n10_ := Aside0.mk (rB (by (with_reducible repeat (first | apply rA | apply rN | apply rD)); exact HO136.out) hb); have n11_ := Aside0.mk (rB (by (with_reducible repeat (first | apply rA | apply rN | apply rD)); exact HO139.out) hb); have n12_ := Aside0.mk (Kd.R_elder' (by (with_reducible repeat (first | apply rA | apply rN | apply rD)); exact HO142.out) (Kd.R_base ho63) hb); have n13_ := Aside0.mk (rB (by (with_reducible repeat (first | apply rA | apply rN | apply rD)); exact HO145.out) hb); have n14_ := Aside0.mk (rB (by (with_reducible repeat (first | apply rA | apply rN | apply rD)); exact HO148.out) hb); have n15_ := Aside0.mk (rB (by (with_reducible repeat (first | apply rA | apply rN | apply rD)); exact HO154.out) hb); have n16_ := Aside0.mk (Kd.R_elder' (by (with_reducible repeat (first | apply rA | apply rN | apply rD)); exact HO157.out) (Kd.R_base ho63) hb); have n17_ := Aside0.mk (Kd.S_below (by (with_reducible repeat (first | apply Kd.S_alloc | apply Kd.S_drewN | apply Kd.S_drew)); exact HO160.out) hb); have n18_ := Aside0.mk (rB (by (with_reducible repeat (first | apply rA | apply rN | apply rD)); exact HO164.out) hb); have n19_ := Aside0.mk (Kd.R_lower (Kd.R_new' (Kd.R_new' (Kd.R_new' (Kd.R_new' (Kd.R_new' ho63 (Kd.R_lt (by (with_reducible repeat (first | apply rA | apply rN | apply rD)); exact HO106.out))) (Kd.R_lt (by (with_reducible repeat (first | apply rA | apply rN | apply rD)); exact HO118.out))) (Kd.R_lt (by (with_reducible repeat (first | apply rA | apply rN | apply rD)); exact HO133.out))) (Kd.R_lt (by (with_reducible repeat (first | apply rA | apply rN | apply rD)); exact HO142.out))) (Kd.R_lt (by (with_reducible repeat (first | apply rA | apply rN | apply rD)); exact HO157.out))) (below_size (by repeat (first | (with_reducible first | exact HB.out | apply wA | apply wN | apply wD | refine below_set ?_ GE126.out | refine below_set ?_ GE127.out | refine below_set ?_ GE150.out | refine below_set ?_ GE151.out) | exact HB.out)))); have n20_ := Aside0.mk (bB (g := gb126) (o := .cells #[.slice Ao28 t113.length co28, .slice Ao31 t116.length co31] 25 (0, 0)) (by (with_reducible repeat (first | refine bN ?_ _ | refine bD ?_ | refine bA ?_ _)); exact BK126.out) hb); have n21_ := Aside0.mk (bB (g := gb127) (o := .cells #[.slice Ao32 t119.length co32, .slice Ao34 t122.length co34] 29 (0, 0)) (by (with_reducible repeat (first | refine bN ?_ _ | refine bD ?_ | refine bA ?_ _)); exact BK127.out) hb); have n22_ := Aside0.mk (bB (g := gb150) (o := .cells #[.slice Ao44 t137.length co44, .slice Ao49 t140.length co49] 25 (0, 0)) (by (with_reducible repeat (first | refine bN ?_ _ | refine bD ?_ | refine bA ?_ _)); exact BK150.out) hb); have n23_ := Aside0.mk (bB (g := gb151) (o := .cells #[.slice Ao50 t143.length co50, .slice Ao54 t146.length co54] 29 (0, 0)) (by (with_reducible repeat (first | refine bN ?_ _ | refine bD ?_ | refine bA ?_ _)); exact BK151.out) hb); have n24_ := Aside0.mk (wS (by repeat (first | (with_reducible first | exact HB.out | apply wA | apply wN | apply wD | refine below_set ?_ GE126.out | refine below_set ?_ GE127.out | refine below_set ?_ GE150.out | refine below_set ?_ GE151.out) | exact HB.out)) hb); clear HO103; clear HO106; clear HO109; clear HO112; clear HO115; clear HO118; clear HO121; clear HO124; clear HO130; clear HO133; clear HO136; clear HO139; clear HO142; clear HO145; clear HO148; clear HO154; clear HO157; clear HO160; clear HO164; clear BK126; clear BK127; clear BK150; clear BK151; clear HB; have HO103 := n0_; have HO106 := n1_; have HO109 := n2_; have HO112 := n3_; have HO115 := n4_; have HO118 := n5_; have HO121 := n6_; have HO124 := n7_; have HO130 := n8_; have HO133 := n9_; have HO136 := n10_; have HO139 := n11_; have HO142 := n12_; have HO145 := n13_; have HO148 := n14_; have HO154 := n15_; have HO157 := n16_; have HO160 := n17_; have HO164 := n18_; have HO167 := n19_; have BK126 := n20_; have BK127 := n21_; have BK150 := n22_; have BK151 := n23_; have HB := n24_; clear n0_ n1_ n2_ n3_ n4_ n5_ n6_ n7_ n8_ n9_ n10_ n11_ n12_ n13_ n14_ n15_ n16_ n17_ n18_ n19_ n20_ n21_ n22_ n23_ n24_; clear hb ho63; obtain ⟨Ao64, co64, eo64⟩ := Kd.R_slice HO167.out; subst eo64; obtain ⟨Ao65, co65, eo65⟩ := Kd.R_slice HO164.out; subst eo65) | (go_at_call 16; (with_reducible refine (scarfjointref05_Same.calls k _ _ t113 _ _ t116 _ _ y162 _ _ y165 true _ ?side1 ?side2 ?side3 ?side4 ?side5 ?side6 ?side7 ?side8 A8.out).mono ?_); (case side1 => repeat (first | exact (Kd.R_reads' HO115.out).2.2 | (with_reducible refine cA ?_ _) | (with_reducible refine cN ?_ _) | (with_reducible refine cD ?_))); (case side2 => exact (Kd.R_reads' HO115.out).2.1); (case side3 => repeat (first | exact (Kd.R_reads' HO118.out).2.2 | (with_reducible refine cA ?_ _) | (with_reducible refine cN ?_ _) | (with_reducible refine cD ?_))); (case side4 => exact (Kd.R_reads' HO118.out).2.1); (case side5 => repeat (first | exact (Kd.R_reads' HO164.out).2.2 | (with_reducible refine cA ?_ _) | (with_reducible refine cN ?_ _) | (with_reducible refine cD ?_))); (case side6 => exact (Kd.R_reads' HO164.out).2.1); (case side7 => repeat (first | exact (Kd.R_reads' HO167.out).2.2 | (with_reducible refine cA ?_ _) | (with_reducible refine cN ?_ _) | (with_reducible refine cD ?_))); (case side8 => exact (Kd.R_reads' HO167.out).2.1); rintro e w66 ⟨rfl, hb⟩; have n0_ := Aside0.mk (rB (by (with_reducible repeat (first | apply rA | apply rN | apply rD)); exact HO103.out) hb); have n1_ := Aside0.mk (rB (by (with_reducible repeat (first | apply rA | apply rN | apply rD)); exact HO106.out) hb); have n2_ := Aside0.mk (rB (by (with_reducible repeat (first | apply rA | apply rN | apply rD)); exact HO109.out) hb); have n3_ := Aside0.mk (rB (by (with_reducible repeat (first | apply rA | apply rN | apply rD)); exact HO112.out) hb); have n4_ := Aside0.mk (rB (by (with_reducible repeat (first | apply rA | apply rN | apply rD)); exact HO115.out) hb); have n5_ := Aside0.mk (rB (by (with_reducible repeat (first | apply rA | apply rN | apply rD)); exact HO118.out) hb); have n6_ := Aside0.mk (rB (by (with_reducible repeat (first | apply rA | apply rN | apply rD)); exact HO121.out) hb); have n7_ := Aside0.mk (rB (by (with_reducible repeat (first | apply rA | apply rN | apply rD)); exact HO124.out) hb); have n8_ := Aside0.mk (rB (by (with_reducible repeat (first | apply rA | apply rN | apply rD)); exact HO130.out) hb); have n9_ := Aside0.mk (rB (by (with_reducible repeat (first | apply rA | apply rN | apply rD)); exact HO133.out) hb); have n10_ := Aside0.mk (rB (by (with_reducible repeat (first | apply rA | apply rN | apply rD)); exact HO136.out) hb); have n11_ := Aside0.mk (rB (by (with_reducible repeat (first | apply rA | apply rN | apply rD)); exact HO139.out) hb); have n12_ := Aside0.mk (rB (by (with_reducible repeat (first | apply rA | apply rN | apply rD)); exact HO142.out) hb); have n13_ := Aside0.mk (rB (by (with_reducible repeat (first | apply rA | apply rN | apply rD)); exact HO145.out) hb); have n14_ := Aside0.mk (rB (by (with_reducible repeat (first | apply rA | apply rN | apply rD)); exact HO148.out) hb); have n15_ := Aside0.mk (rB (by (with_reducible repeat (first | apply rA | apply rN | apply rD)); exact HO154.out) hb); have n16_ := Aside0.mk (rB (by (with_reducible repeat (first | apply rA | apply rN | apply rD)); exact HO157.out) hb); have n17_ := Aside0.mk (Kd.S_below (by (with_reducible repeat (first | apply Kd.S_alloc | apply Kd.S_drewN | apply Kd.S_drew)); exact HO160.out) hb); have n18_ := Aside0.mk (rB (by (with_reducible repeat (first | apply rA | apply rN | apply rD)); exact HO164.out) hb); have n19_ := Aside0.mk (rB (by (with_reducible repeat (first | apply rA | apply rN | apply rD)); exact HO167.out) hb); have n20_ := Aside0.mk (bB (g := gb126) (o := .cells #[.slice Ao28 t113.length co28, .slice Ao31 t116.length co31] 25 (0, 0)) (by (with_reducible repeat (first | refine bN ?_ _ | refine bD ?_ | refine bA ?_ _)); exact BK126.out) hb); have n21_ := Aside0.mk (bB (g := gb127) (o := .cells #[.slice Ao32 t119.length co32, .slice Ao34 t122.length co34] 29 (0, 0)) (by (with_reducible repeat (first | refine bN ?_ _ | refine bD ?_ | refine bA ?_ _)); exact BK127.out) hb); have n22_ := Aside0.mk (bB (g := gb150) (o := .cells #[.slice Ao44 t137.length co44, .slice Ao49 t140.length co49] 25 (0, 0)) (by (with_reducible repeat (first | refine bN ?_ _ | refine bD ?_ | refine bA ?_ _)); exact BK150.out) hb); have n23_ := Aside0.mk (bB (g := gb151) (o := .cells #[.slice Ao50 t143.length co50, .slice Ao54 t146.length co54] 29 (0, 0)) (by (with_reducible repeat (first | refine bN ?_ _ | refine bD ?_ | refine bA ?_ _)); exact BK151.out) hb); have n24_ := Aside0.mk (wS (by repeat (first | (with_reducible first | exact HB.out | apply wA | apply wN | apply wD | refine below_set ?_ GE126.out | refine below_set ?_ GE127.out | refine below_set ?_ GE150.out | refine below_set ?_ GE151.out) | exact HB.out)) hb); clear HO103; clear HO106; clear HO109; clear HO112; clear HO115; clear HO118; clear HO121; clear HO124; clear HO130; clear HO133; clear HO136; clear HO139; clear HO142; clear HO145; clear HO148; clear HO154; clear HO157; clear HO160; clear HO164; clear HO167; clear BK126; clear BK127; clear BK150; clear BK151; clear HB; have HO103 := n0_; have HO106 := n1_; have HO109 := n2_; have HO112 := n3_; have HO115 := n4_; have HO118 := n5_; have HO121 := n6_; have HO124 := n7_; have HO130 := n8_; have HO133 := n9_; have HO136 := n10_; have HO139 := n11_; have HO142 := n12_; have HO145 := n13_; have HO148 := n14_; have HO154 := n15_; have HO157 := n16_; have HO160 := n17_; have HO164 := n18_; have HO167 := n19_; have BK126 := n20_; have BK127 := n21_; have BK150 := n22_; have BK151 := n23_; have HB := n24_; clear n0_ n1_ n2_ n3_ n4_ n5_ n6_ n7_ n8_ n9_ n10_ n11_ n12_ n13_ n14_ n15_ n16_ n17_ n18_ n19_ n20_ n21_ n22_ n23_ n24_; (try clear hb); (try clear hb2); (try clear hk); (try clear hi); have hcz67_0 : w66.cell? ⟨gb127, 0, none⟩ = some (.slice Ao32 t119.length co32) := (blk_cell BK127.out 0).trans rfl; have hcz67_1 : w66.cell? ⟨gb127, 1, none⟩ = some (.slice Ao34 t122.length co34) := (blk_cell BK127.out 1).trans rfl; have hfz67_0 := blk_frozen BK127.out 0; have hfz67_1 := blk_frozen BK127.out 1) | ((with_reducible refine gate_dst (N := 42) rfl ?_); (try (refine gate_guard (by rfl) ?_; dsimp only)); refine Kd.R_lit (Kd.int .i64) _ 3 ?hg (N := 42) ?hd (xs := ([0, (-1), 1] : List Int)) (inner := [.int .i64 0, .int .i64 (-1), .int .i64 1]) (ok := fun _ => True) (okp := fun _ => True) ?hr ?hp (fun _ hk => hk) trivial (Below.refl _ _) (Nat.le_refl _) (by simp) ?_; (case hd => rfl); (case hg => rfl); (case hr => first | (go_simp; done) | (go_simp; rfl)); (case hp => exact (Reps.one (show Kd.M (Kd.int .i64) _ _ _ 0 [.int .i64 0] from rfl) (Reps.one (show Kd.M (Kd.int .i64) _ _ _ (-1) [.int .i64 (-1)] from rfl) (Reps.one (show Kd.M (Kd.int .i64) _ _ _ 1 [.int .i64 1] from rfl) (Reps.none _ _))))); intro v170 w68 ho69 hb hg_ hnew_; clear hg_ hnew_; (first | rw [← Ny169.out] at ho69 | (simp only [Int.reduceToNat] at ho69; rw [← Ny169.out] at ho69)); have n0_ := Aside0.mk (Kd.R_elder' (by (with_reducible repeat (first | apply rA | apply rN | apply rD)); exact HO103.out) (Kd.R_base ho69) hb); have n1_ := Aside0.mk (rB (by (with_reducible repeat (first | apply rA | apply rN | apply rD)); exact HO106.out) hb); have n2_ := Aside0.mk (Kd.R_elder' (by (with_reducible repeat (first | apply rA | apply rN | apply rD)); exact HO109.out) (Kd.R_base ho69) hb); have n3_ := Aside0.mk (Kd.R_elder' (by (with_reducible repeat (first | apply rA | apply rN | apply rD)); exact HO112.out) (Kd.R_base ho69) hb); have n4_ := Aside0.mk (Kd.R_elder' (by (with_reducible repeat (first | apply rA | apply rN | apply rD)); exact HO115.out) (Kd.R_base ho69) hb); have n5_ := Aside0.mk (rB (by (with_reducible repeat (first | apply rA | apply rN | apply rD)); exact HO118.out) hb); have n6_ := Aside0.mk (Kd.R_elder' (by (with_reducible repeat (first | apply rA | apply rN | apply rD)); exact HO121.out) (Kd.R_base ho69) hb); have n7_ := Aside0.mk (Kd.R_elder' (by (with_reducible repeat (first | apply rA | apply rN | apply rD)); exact HO124.out) (Kd.R_base ho69) hb); have n8_ := Aside0.mk (Kd.R_elder' (by (with_reducible repeat (first | apply rA | apply rN | apply rD)); exact HO130.out) (Kd.R_base ho69) hb); have n9_ := Aside0.mk (rB (by (with_reducible repeat (first | apply rA | apply rN | apply rD)); exact HO133.out) hb); have n10_ := Aside0.mk (Kd.R_elder' (by (with_reducible repeat (first | apply rA | apply rN | apply rD)); exact HO136.out) (Kd.R_base ho69) hb); have n11_ := Aside0.mk (Kd.R_elder' (by (with_reducible repeat (first | apply rA | apply rN | apply rD)); exact HO139.out) (Kd.R_base ho69) hb); have n12_ := Aside0.mk (rB (by (with_reducible repeat (first | apply rA | apply rN | apply rD)); exact HO142.out) hb); have n13_ := Aside0.mk (Kd.R_elder' (by (with_reducible repeat (first | apply rA | apply rN | apply rD)); exact HO145.out) (Kd.R_base ho69) hb); have n14_ := Aside0.mk (Kd.R_elder' (by (with_reducible repeat (first | apply rA | apply rN | apply rD)); exact HO148.out) (Kd.R_base ho69) hb); have n15_ := Aside0.mk (Kd.R_elder' (by (with_reducible repeat (first | apply rA | apply rN | apply rD)); exact HO154.out) (Kd.R_base ho69) hb); have n16_ := Aside0.mk (rB (by (with_reducible repeat (first | apply rA | apply rN | apply rD)); exact HO157.out) hb); have n17_ := Aside0.mk (Kd.S_elder' (by (with_reducible repeat (first | apply Kd.S_alloc | apply Kd.S_drewN | apply Kd.S_drew)); exact HO160.out) (Kd.R_base ho69) hb); have n18_ := Aside0.mk (Kd.R_elder' (by (with_reducible repeat (first | apply rA | apply rN | apply rD)); exact HO164.out) (Kd.R_base ho69) hb); have n19_ := Aside0.mk (rB (by (with_reducible repeat (first | apply rA | apply rN | apply rD)); exact HO167.out) hb); have n20_ := Aside0.mk (Kd.R_lower (Kd.R_new' (Kd.R_new' (Kd.R_new' (Kd.R_new' (Kd.R_new' (Kd.R_new' (Kd.R_new' (Kd.R_new' (Kd.R_new' (Kd.R_new' (Kd.R_new' (Kd.R_new' (Kd.R_new' ho69 (Kd.R_lt (by (with_reducible repeat (first | apply rA | apply rN | apply rD)); exact HO103.out))) (Kd.R_lt (by (with_reducible repeat (first | apply rA | apply rN | apply rD)); exact HO109.out))) (Kd.R_lt (by (with_reducible repeat (first | apply rA | apply rN | apply rD)); exact HO112.out))) (Kd.R_lt (by (with_reducible repeat (first | apply rA | apply rN | apply rD)); exact HO115.out))) (Kd.R_lt (by (with_reducible repeat (first | apply rA | apply rN | apply rD)); exact HO121.out))) (Kd.R_lt (by (with_reducible repeat (first | apply rA | apply rN | apply rD)); exact HO124.out))) (Kd.R_lt (by (with_reducible repeat (first | apply rA | apply rN | apply rD)); exact HO130.out))) (Kd.R_lt (by (with_reducible repeat (first | apply rA | apply rN | apply rD)); exact HO136.out))) (Kd.R_lt (by (with_reducible repeat (first | apply rA | apply rN | apply rD)); exact HO139.out))) (Kd.R_lt (by (with_reducible repeat (first | apply rA | apply rN | apply rD)); exact HO145.out))) (Kd.R_lt (by (with_reducible repeat (first | apply rA | apply rN | apply rD)); exact HO148.out))) (Kd.R_lt (by (with_reducible repeat (first | apply rA | apply rN | apply rD)); exact HO154.out))) (Kd.R_lt (by (with_reducible repeat (first | apply rA | apply rN | apply rD)); exact HO164.out))) (below_size (by repeat (first | (with_reducible first | exact HB.out | apply wA | apply wN | apply wD | refine below_set ?_ GE126.out | refine below_set ?_ GE127.out | refine below_set ?_ GE150.out | refine below_set ?_ GE151.out) | exact HB.out)))); have n21_ := Aside0.mk (bB (g := gb126) (o := .cells #[.slice Ao28 t113.length co28, .slice Ao31 t116.length co31] 25 (0, 0)) (by (with_reducible repeat (first | refine bN ?_ _ | refine bD ?_ | refine bA ?_ _)); exact BK126.out) hb); have n22_ := Aside0.mk (bB (g := gb127) (o := .cells #[.slice Ao32 t119.length co32, .slice Ao34 t122.length co34] 29 (0, 0)) (by (with_reducible repeat (first | refine bN ?_ _ | refine bD ?_ | refine bA ?_ _)); exact BK127.out) hb); have n23_ := Aside0.mk (bB (g := gb150) (o := .cells #[.slice Ao44 t137.length co44, .slice Ao49 t140.length co49] 25 (0, 0)) (by (with_reducible repeat (first | refine bN ?_ _ | refine bD ?_ | refine bA ?_ _)); exact BK150.out) hb); have n24_ := Aside0.mk (bB (g := gb151) (o := .cells #[.slice Ao50 t143.length co50, .slice Ao54 t146.length co54] 29 (0, 0)) (by (with_reducible repeat (first | refine bN ?_ _ | refine bD ?_ | refine bA ?_ _)); exact BK151.out) hb); have n25_ := Aside0.mk (wS (by repeat (first | (with_reducible first | exact HB.out | apply wA | apply wN | apply wD | refine below_set ?_ GE126.out | refine below_set ?_ GE127.out | refine below_set ?_ GE150.out | refine below_set ?_ GE151.out) | exact HB.out)) hb); clear HO103; clear HO106; clear HO109; clear HO112; clear HO115; clear HO118; clear HO121; clear HO124; clear HO130; clear HO133; clear HO136; clear HO139; clear HO142; clear HO145; clear HO148; clear HO154; clear HO157; clear HO160; clear HO164; clear HO167; clear BK126; clear BK127; clear BK150; clear BK151; clear HB; have HO103 := n0_; have HO106 := n1_; have HO109 := n2_; have HO112 := n3_; have HO115 := n4_; have HO118 := n5_; have HO121 := n6_; have HO124 := n7_; have HO130 := n8_; have HO133 := n9_; have HO136 := n10_; have HO139 := n11_; have HO142 := n12_; have HO145 := n13_; have HO148 := n14_; have HO154 := n15_; have HO157 := n16_; have HO160 := n17_; have HO164 := n18_; have HO167 := n19_; have HO171 := n20_; have BK126 := n21_; have BK127 := n22_; have BK150 := n23_; have BK151 := n24_; have HB := n25_; clear n0_ n1_ n2_ n3_ n4_ n5_ n6_ n7_ n8_ n9_ n10_ n11_ n12_ n13_ n14_ n15_ n16_ n17_ n18_ n19_ n20_ n21_ n22_ n23_ n24_ n25_; clear hb ho69; obtain ⟨Ao70, co70, eo70⟩ := Kd.R_slice HO171.out; subst eo70) | (go_at_call 22; (with_reducible refine (slices_Equal_int_int.calls k _ _ t119 _ _ y169 true _ ?side1 ?side2 ?side3 ?side4 A10.out).mono ?_); (case side1 => repeat (first | exact (Kd.R_reads' HO121.out).2.2 | (with_reducible refine cA ?_ _) | (with_reducible refine cN ?_ _) | (with_reducible refine cD ?_))); (case side2 => exact (Kd.R_reads' HO121.out).2.1); (case side3 => repeat (first | exact (Kd.R_reads' HO171.out).2.2 | (with_reducible refine cA ?_ _) | (with_reducible refine cN ?_ _) | (with_reducible refine cD ?_))); (case side4 => exact (Kd.R_reads' HO171.out).2.1); rintro e w' ⟨rfl, ⟨nd, rfl⟩⟩; have hcz71_0 : w68.cell? ⟨gb127, 0, none⟩ = some (.slice Ao32 t119.length co32) := (blk_cell BK127.out 0).trans rfl; have hcz71_1 : w68.cell? ⟨gb127, 1, none⟩ = some (.slice Ao34 t122.length co34) := (blk_cell BK127.out 1).trans rfl; have hfz71_0 := blk_frozen BK127.out 0; have hfz71_1 := blk_frozen BK127.out 1) | ((with_reducible refine gate_dst (N := 48) rfl ?_); (try (refine gate_guard (by rfl) ?_; dsimp only)); refine Kd.R_lit (Kd.int .i64) _ 3 ?hg (N := 48) ?hd (xs := ([(-1), 0] : List Int)) (inner := [.int .i64 (-1), .int .i64 0]) (ok := fun _ => True) (okp := fun _ => True) ?hr ?hp (fun _ hk => hk) trivial (Below.refl _ _) (Nat.le_refl _) (by simp) ?_; (case hd => rfl); (case hg => rfl); (case hr => first | (go_simp; done) | (go_simp; rfl)); (case hp => exact (Reps.one (show Kd.M (Kd.int .i64) _ _ _ (-1) [.int .i64 (-1)] from rfl) (Reps.one (show Kd.M (Kd.int .i64) _ _ _ 0 [.int .i64 0] from rfl) (Reps.none _ _)))); intro v174 w72 ho73 hb hg_ hnew_; clear hg_ hnew_; (first | rw [← Ny173.out] at ho73 | (simp only [Int.reduceToNat] at ho73; rw [← Ny173.out] at ho73)); have n0_ := Aside0.mk (Kd.R_elder' (by (with_reducible repeat (first | apply rA | apply rN | apply rD)); exact HO103.out) (Kd.R_base ho73) hb); have n1_ := Aside0.mk (rB (by (with_reducible repeat (first | apply rA | apply rN | apply rD)); exact HO106.out) hb); have n2_ := Aside0.mk (Kd.R_elder' (by (with_reducible repeat (first | apply rA | apply rN | apply rD)); exact HO109.out) (Kd.R_base ho73) hb); have n3_ := Aside0.mk (Kd.R_elder' (by (with_reducible repeat (first | apply rA | apply rN | apply rD)); exact HO112.out) (Kd.R_base ho73) hb); have n4_ := Aside0.mk (Kd.R_elder' (by (with_reducible repeat (first | apply rA | apply rN | apply rD)); exact HO115.out) (Kd.R_base ho73) hb); have n5_ := Aside0.mk (rB (by (with_reducible repeat (first | apply rA | apply rN | apply rD)); exact HO118.out) hb); have n6_ := Aside0.mk (Kd.R_elder' (by (with_reducible repeat (first | apply rA | apply rN | apply rD)); exact HO121.out) (Kd.R_base ho73) hb); have n7_ := Aside0.mk (Kd.R_elder' (by (with_reducible repeat (first | apply rA | apply rN | apply rD)); exact HO124.out) (Kd.R_base ho73) hb); have n8_ := Aside0.mk (Kd.R_elder' (by (with_reducible repeat (first | apply rA | apply rN | apply rD)); exact HO130.out) (Kd.R_base ho73) hb); have n9_ := Aside0.mk (rB (by (with_reducible repeat (first | apply rA | apply rN | apply rD)); exact HO133.out) hb); have n10_ := Aside0.mk (Kd.R_elder' (by (with_reducible repeat (first | apply rA | apply rN | apply rD)); exact HO136.out) (Kd.R_base ho73) hb); have n11_ := Aside0.mk (Kd.R_elder' (by (with_reducible repeat (first | apply rA | apply rN | apply rD)); exact HO139.out) (Kd.R_base ho73) hb); have n12_ := Aside0.mk (rB (by (with_reducible repeat (first | apply rA | apply rN | apply rD)); exact HO142.out) hb); have n13_ := Aside0.mk (Kd.R_elder' (by (with_reducible repeat (first | apply rA | apply rN | apply rD)); exact HO145.out) (Kd.R_base ho73) hb); have n14_ := Aside0.mk (Kd.R_elder' (by (with_reducible repeat (first | apply rA | apply rN | apply rD)); exact HO148.out) (Kd.R_base ho73) hb); have n15_ := Aside0.mk (Kd.R_elder' (by (with_reducible repeat (first | apply rA | apply rN | apply rD)); exact HO154.out) (Kd.R_base ho73) hb); have n16_ := Aside0.mk (rB (by (with_reducible repeat (first | apply rA | apply rN | apply rD)); exact HO157.out) hb); have n17_ := Aside0.mk (Kd.S_elder' (by (with_reducible repeat (first | apply Kd.S_alloc | apply Kd.S_drewN | apply Kd.S_drew)); exact HO160.out) (Kd.R_base ho73) hb); have n18_ := Aside0.mk (Kd.R_elder' (by (with_reducible repeat (first | apply rA | apply rN | apply rD)); exact HO164.out) (Kd.R_base ho73) hb); have n19_ := Aside0.mk (rB (by (with_reducible repeat (first | apply rA | apply rN | apply rD)); exact HO167.out) hb); have n20_ := Aside0.mk (Kd.R_elder' (by (with_reducible repeat (first | apply rA | apply rN | apply rD)); exact HO171.out) (Kd.R_base ho73) hb); have n21_ := Aside0.mk (Kd.R_lower (Kd.R_new' (Kd.R_new' (Kd.R_new' (Kd.R_new' (Kd.R_new' (Kd.R_new' (Kd.R_new' (Kd.R_new' (Kd.R_new' (Kd.R_new' (Kd.R_new' (Kd.R_new' (Kd.R_new' (Kd.R_new' ho73 (Kd.R_lt (by (with_reducible repeat (first | apply rA | apply rN | apply rD)); exact HO103.out))) (Kd.R_lt (by (with_reducible repeat (first | apply rA | apply rN | apply rD)); exact HO109.out))) (Kd.R_lt (by (with_reducible repeat (first | apply rA | apply rN | apply rD)); exact HO112.out))) (Kd.R_lt (by (with_reducible repeat (first | apply rA | apply rN | apply rD)); exact HO115.out))) (Kd.R_lt (by (with_reducible repeat (first | apply rA | apply rN | apply rD)); exact HO121.out))) (Kd.R_lt (by (with_reducible repeat (first | apply rA | apply rN | apply rD)); exact HO124.out))) (Kd.R_lt (by (with_reducible repeat (first | apply rA | apply rN | apply rD)); exact HO130.out))) (Kd.R_lt (by (with_reducible repeat (first | apply rA | apply rN | apply rD)); exact HO136.out))) (Kd.R_lt (by (with_reducible repeat (first | apply rA | apply rN | apply rD)); exact HO139.out))) (Kd.R_lt (by (with_reducible repeat (first | apply rA | apply rN | apply rD)); exact HO145.out))) (Kd.R_lt (by (with_reducible repeat (first | apply rA | apply rN | apply rD)); exact HO148.out))) (Kd.R_lt (by (with_reducible repeat (first | apply rA | apply rN | apply rD)); exact HO154.out))) (Kd.R_lt (by (with_reducible repeat (first | apply rA | apply rN | apply rD)); exact HO164.out))) (Kd.R_lt (by (with_reducible repeat (first | apply rA | apply rN | apply rD)); exact HO171.out))) (below_size (by repeat (first | (with_reducible first | exact HB.out | apply wA | apply wN | apply wD | refine below_set ?_ GE126.out | refine below_set ?_ GE127.out | refine below_set ?_ GE150.out | refine below_set ?_ GE151.out) | exact HB.out)))); have n22_ := Aside0.mk (bB (g := gb126) (o := .cells #[.slice Ao28 t113.length co28, .slice Ao31 t116.length co31] 25 (0, 0)) (by (with_reducible repeat (first | refine bN ?_ _ | refine bD ?_ | refine bA ?_ _)); exact BK126.out) hb); have n23_ := Aside0.mk (bB (g := gb127) (o := .cells #[.slice Ao32 t119.length co32, .slice Ao34 t122.length co34] 29 (0, 0)) (by (with_reducible repeat (first | refine bN ?_ _ | refine bD ?_ | refine bA ?_ _)); exact BK127.out) hb); have n24_ := Aside0.mk (bB (g := gb150) (o := .cells #[.slice Ao44 t137.length co44, .slice Ao49 t140.length co49] 25 (0, 0)) (by (with_reducible repeat (first | refine bN ?_ _ | refine bD ?_ | refine bA ?_ _)); exact BK150.out) hb); have n25_ := Aside0.mk (bB (g := gb151) (o := .cells #[.slice Ao50 t143.length co50, .slice Ao54 t146.length co54] 29 (0, 0)) (by (with_reducible repeat (first | refine bN ?_ _ | refine bD ?_ | refine bA ?_ _)); exact BK151.out) hb); have n26_ := Aside0.mk (wS (by repeat (first | (with_reducible first | exact HB.out | apply wA | apply wN | apply wD | refine below_set ?_ GE126.out | refine below_set ?_ GE127.out | refine below_set ?_ GE150.out | refine below_set ?_ GE151.out) | exact HB.out)) hb); clear HO103; clear HO106; clear HO109; clear HO112; clear HO115; clear HO118; clear HO121; clear HO124; clear HO130; clear HO133; clear HO136; clear HO139; clear HO142; clear HO145; clear HO148; clear HO154; clear HO157; clear HO160; clear HO164; clear HO167; clear HO171; clear BK126; clear BK127; clear BK150; clear BK151; clear HB; have HO103 := n0_; have HO106 := n1_; have HO109 := n2_; have HO112 := n3_; have HO115 := n4_; have HO118 := n5_; have HO121 := n6_; have HO124 := n7_; have HO130 := n8_; have HO133 := n9_; have HO136 := n10_; have HO139 := n11_; have HO142 := n12_; have HO145 := n13_; have HO148 := n14_; have HO154 := n15_; have HO157 := n16_; have HO160 := n17_; have HO164 := n18_; have HO167 := n19_; have HO171 := n20_; have HO175 := n21_; have BK126 := n22_; have BK127 := n23_; have BK150 := n24_; have BK151 := n25_; have HB := n26_; clear n0_ n1_ n2_ n3_ n4_ n5_ n6_ n7_ n8_ n9_ n10_ n11_ n12_ n13_ n14_ n15_ n16_ n17_ n18_ n19_ n20_ n21_ n22_ n23_ n24_ n25_ n26_; clear hb ho73; obtain ⟨Ao74, co74, eo74⟩ := Kd.R_slice HO175.out; subst eo74) | (go_at_call 22; (with_reducible refine (slices_Equal_int_int.calls k _ _ t122 _ _ y173 true _ ?side1 ?side2 ?side3 ?side4 A12.out).mono ?_); (case side1 => repeat (first | exact (Kd.R_reads' HO124.out).2.2 | (with_reducible refine cA ?_ _) | (with_reducible refine cN ?_ _) | (with_reducible refine cD ?_))); (case side2 => exact (Kd.R_reads' HO124.out).2.1); (case side3 => repeat (first | exact (Kd.R_reads' HO175.out).2.2 | (with_reducible refine cA ?_ _) | (with_reducible refine cN ?_ _) | (with_reducible refine cD ?_))); (case side4 => exact (Kd.R_reads' HO175.out).2.1); rintro e w' ⟨rfl, ⟨nd, rfl⟩⟩; obtain ⟨Ao75, co75, eo75⟩ := Kd.S_slice HO160.out; subst eo75))
       go_ret
       exact ⟨by first | rfl | (simp [errW_none, errW_some] <;> rfl) | (simp [*, errW_none, errW_some] <;> rfl), by repeat (first | (with_reducible first | exact HB.out | apply wA | apply wN | apply wD | refine below_set ?_ GE126.out | refine below_set ?_ GE127.out | refine below_set ?_ GE150.out | refine below_set ?_ GE151.out) | exact HB.out)⟩
      ·rw [if_neg c15] at H
       exact absurd H (by simp)
     ·rw [if_neg c14] at H
      exact absurd H (by simp)
    ·replace c13 := Bool.eq_false_iff.mpr c13
     subst c13
     have H1 : (none) = some r := by rw [if_neg (show ¬ (false = true) by decide)] at H; exact H
     clear H
     have H := H1
     clear H1
     exact absurd H (by simp)
   ·replace c11 := Bool.eq_false_iff.mpr c11
    subst c11
    have H1 : (none) = some r := by rw [if_neg (show ¬ (false = true) by decide)] at H; exact H
    clear H
    have H := H1
    clear H1
    exact absurd H (by simp)
  ·replace c9 := Bool.eq_false_iff.mpr c9
   subst c9
   have H1 : (none) = some r := by rw [if_neg (show ¬ (false = true) by decide)] at H; exact H
   clear H
   have H := H1
   clear H1
   exact absurd H (by simp)
 ·rw [if_neg c7] at H
  exact absurd H (by simp)
end Go.Proofs.Ytmbnibonggbjgaa.X

namespace Go.Proofs.Ytmbnibonggbjgaa.X
open Go.RowKit Go.Proofs.YtmbnibonggbjgaaW.PrintWords Go.Proofs.YtmbnibonggbjgaaW.PrintLast Go.Proofs.YtmbnibonggbjgaaW.PrintMore
open Go.Proofs.YtmbnibonggbjgaaW.PrintWords renaming blk_drewN → bN, blk_drew → bD, blk_alloc → bA, below_alloc → wA, pw_below_drewN → wN, below_drew1 → wD, blk_below → bB, below_step → wS, blk_at → bT, blk_grown → bG
open Go.Proofs.YtmbnibonggbjgaaW.PrintWords.Kd renaming R_alloc → rA, R_drewN → rN, R_drew → rD, R_below → rB, R_grown → rG, C_below → cB, C_alloc → cA, C_drewN → cN, C_drew → cD
attribute [local go_sem] max2_int min2_int max_two min_two max_three min_three max_four min_four
set_option linter.unusedVariables false
set_option linter.unusedSimpArgs false
/-! ### scarfjointref05_Few: function 11 -/
def scarfjointref05_Few.f (l0_0 : List Int) (l0_1 : List (S38)) : Option (Bool) := if (l0_0.length : Int) ≤ 45 then (some (decide ((l0_1.length : Int) ≤ 90))) else (some false)
set_option maxHeartbeats 8000000 in
set_option maxRecDepth 100000 in
theorem scarfjointref05_Few.calls (A0_0 : Option Addr) (c0_0 : Nat) (l0_0 : List Int) (A0_1 : Option Addr) (c0_1 : Nat) (l0_1 : List (S38)) (r : Bool) (w : World) (hr0_0 : Kd.C (Kd.int .i64) w A0_0 l0_0.length l0_0) (hc0_0 : l0_0.length ≤ c0_0) (hr0_1 : Kd.C k38 w A0_1 l0_1.length l0_1) (hc0_1 : l0_1.length ≤ c0_1) (h : scarfjointref05_Few.f l0_0 l0_1 = some r) :
  Calls Try.prog 11 #[.agg #[.slice A0_0 l0_0.length c0_0, .slice A0_1 l0_1.length c0_1]] w fun e w' => e = .returned (.bool r) ∧ Below w.heap.size w w' := by
 have hu25 := Try.underlying25
 have HR0_0 := Aside0.mk hr0_0
 have HC0_0 := Aside0.mk hc0_0
 clear hr0_0 hc0_0
 have HR0_1 := Aside0.mk hr0_1
 have HC0_1 := Aside0.mk hc0_1
 clear hr0_1 hc0_1
 have HB := Aside0.mk (Below.refl w.heap.size w)
 have H : (if (l0_0.length : Int) ≤ 45 then (some (decide ((l0_1.length : Int) ≤ 90))) else (some false)) = some r := h
 clear h
 by_cases c2 : (l0_0.length : Int) ≤ 45
 ·rw [if_pos c2] at H
  have c2b0 : decide ((l0_0.length : Int) ≤ 45) = true := decide_eq_true c2
  have c2b1 : decide (l0_0.length ≤ 45) = true := decide_eq_true (by omega)
  clear c2
  obtain rfl := Option.some.inj H
  go_enter Try.func11, Try.ntmps11
  go_wp2_with (first | ((with_reducible refine gate_dst (N := 1) rfl ?_); (try (refine gate_guard (by rfl) ?_; dsimp only)); refine box_event ?hg (N := 1) ?hd (cs := #[.slice A0_0 l0_0.length c0_0, .slice A0_1 l0_1.length c0_1]) (t := 25) ?hr ?_; (case hd => rfl); (case hg => rfl); (case hr => first | (go_simp; done) | (go_simp; rfl)); intro gb101 hg w3 hbox hb; have n0_ := Aside0.mk (wS hB hb); have n1_ := Aside0.mk (hbox); have n2_ := Aside0.mk ((by rw [hg]; exact (below_size hB) : w.heap.size ≤ gb101)); have n3_ := Aside0.mk ((by rw [hg]; exact (below_size hB) : w.heap.size ≤ gb101)); clear HB; have HB := n0_; have BK101 := n1_; have GW101 := n2_; have GE101 := n3_; clear n0_ n1_ n2_ n3_; clear hb hbox hg; have hcz4_0 : w3.cell? ⟨gb101, 0, none⟩ = some (.slice A0_0 l0_0.length c0_0) := (blk_cell BK101.out 0).trans rfl; have hcz4_1 : w3.cell? ⟨gb101, 1, none⟩ = some (.slice A0_1 l0_1.length c0_1) := (blk_cell BK101.out 1).trans rfl; have hfz4_0 := blk_frozen BK101.out 0; have hfz4_1 := blk_frozen BK101.out 1))
  go_ret
  exact ⟨by first | rfl | (simp [errW_none, errW_some] <;> rfl) | (simp [*, errW_none, errW_some] <;> rfl), by repeat (first | (with_reducible first | exact HB.out | apply wA | apply wN | apply wD | refine below_set ?_ GE101.out) | exact HB.out)⟩
 ·rw [if_neg c2] at H
  have c2b0 : decide ((l0_0.length : Int) ≤ 45) = false := decide_eq_false c2
  have c2b1 : decide (l0_0.length ≤ 45) = false := decide_eq_false (by omega)
  clear c2
  obtain rfl := Option.some.inj H
  go_enter Try.func11, Try.ntmps11
  go_wp2_with (first | ((with_reducible refine gate_dst (N := 1) rfl ?_); (try (refine gate_guard (by rfl) ?_; dsimp only)); refine box_event ?hg (N := 1) ?hd (cs := #[.slice A0_0 l0_0.length c0_0, .slice A0_1 l0_1.length c0_1]) (t := 25) ?hr ?_; (case hd => rfl); (case hg => rfl); (case hr => first | (go_simp; done) | (go_simp; rfl)); intro gb101 hg w5 hbox hb; have n0_ := Aside0.mk (wS hB hb); have n1_ := Aside0.mk (hbox); have n2_ := Aside0.mk ((by rw [hg]; exact (below_size hB) : w.heap.size ≤ gb101)); have n3_ := Aside0.mk ((by rw [hg]; exact (below_size hB) : w.heap.size ≤ gb101)); clear HB; have HB := n0_; have BK101 := n1_; have GW101 := n2_; have GE101 := n3_; clear n0_ n1_ n2_ n3_; clear hb hbox hg; have hcz6_0 : w5.cell? ⟨gb101, 0, none⟩ = some (.slice A0_0 l0_0.length c0_0) := (blk_cell BK101.out 0).trans rfl; have hcz6_1 : w5.cell? ⟨gb101, 1, none⟩ = some (.slice A0_1 l0_1.length c0_1) := (blk_cell BK101.out 1).trans rfl; have hfz6_0 := blk_frozen BK101.out 0; have hfz6_1 := blk_frozen BK101.out 1))
  go_ret
  exact ⟨by first | rfl | (simp [errW_none, errW_some] <;> rfl) | (simp [*, errW_none, errW_some] <;> rfl), by repeat (first | (with_reducible first | exact HB.out | apply wA | apply wN | apply wD | refine below_set ?_ GE101.out) | exact HB.out)⟩
end Go.Proofs.Ytmbnibonggbjgaa.X

namespace Go.Proofs.Ytmbnibonggbjgaa.X
open Go.RowKit Go.Proofs.YtmbnibonggbjgaaW.PrintWords Go.Proofs.YtmbnibonggbjgaaW.PrintLast Go.Proofs.YtmbnibonggbjgaaW.PrintMore
open Go.Proofs.YtmbnibonggbjgaaW.PrintWords renaming blk_drewN → bN, blk_drew → bD, blk_alloc → bA, below_alloc → wA, pw_below_drewN → wN, below_drew1 → wD, blk_below → bB, below_step → wS, blk_at → bT, blk_grown → bG
open Go.Proofs.YtmbnibonggbjgaaW.PrintWords.Kd renaming R_alloc → rA, R_drewN → rN, R_drew → rD, R_below → rB, R_grown → rG, C_below → cB, C_alloc → cA, C_drewN → cN, C_drew → cD
attribute [local go_sem] max2_int min2_int max_two min_two max_three min_three max_four min_four
set_option linter.unusedVariables false
set_option linter.unusedSimpArgs false
/-! ### scarfjointref05_Copied: function 13 -/
def scarfjointref05_Copied.f (l0_0 : List Int) (l0_1 : List (S38)) : Option (List Int × (List (S38))) := (some (([] : List Int) : List Int)).bind fun y103 => (if y103.length + l0_0.length < 17592186044416 then ((some (([] : List (S38)) : List (S38))).bind fun y109 => (if y109.length + l0_1.length < 5864062014805 then (some ((y103 ++ l0_0), (y109 ++ l0_1))) else (none))) else (none))
def scarfjointref05_Copied.T1 : Bool × List (List Nat × List Nat) := (true, [([], []), ([], []), ([1], [1]), ([0, 2], [0, 2]), ([], []), ([], []), ([5], [5]), ([4, 6, 3], [4, 6]), ([3, 7], [3, 7]), ([8, 7, 0, 1, 2, 3, 4, 5, 6, 7, 8], [8])])
def scarfjointref05_Copied.B1 : List Nat := [0, 0, 2, 7, 0, 0, 32, 127, 255, 511]
theorem scarfjointref05_Copied.tab1 : rtab .any (opsOf Try.f13 1) = scarfjointref05_Copied.T1 := by kernel_rfl
theorem scarfjointref05_Copied.bits1 : waitsOk scarfjointref05_Copied.T1.2 scarfjointref05_Copied.B1 = true := by kernel_rfl
set_option maxHeartbeats 8000000 in
set_option maxRecDepth 100000 in
theorem scarfjointref05_Copied.calls (A0_0 : Option Addr) (c0_0 : Nat) (l0_0 : List Int) (A0_1 : Option Addr) (c0_1 : Nat) (l0_1 : List (S38)) (r1 : List Int) (r2 : List (S38)) (w : World) (hr0_0 : Kd.C (Kd.int .i64) w A0_0 l0_0.length l0_0) (hc0_0 : l0_0.length ≤ c0_0) (hr0_1 : Kd.C k38 w A0_1 l0_1.length l0_1) (hc0_1 : l0_1.length ≤ c0_1) (h : scarfjointref05_Copied.f l0_0 l0_1 = some (r1, r2)) :
  Calls Try.prog 13 #[.agg #[.slice A0_0 l0_0.length c0_0, .slice A0_1 l0_1.length c0_1]] w fun e w' => ∃ v0_ v1_ : Value, e = .returned (.agg #[v0_, v1_]) ∧ Kd.R (Kd.int .i64) 3 w' w.heap.size (fun _ => True) v0_ r1 ∧ Kd.R k38 38 w' w.heap.size (fun _ => True) v1_ r2 ∧ Below w.heap.size w w' := by
 have hu25 := Try.underlying25
 have HR0_0 := Aside0.mk hr0_0
 have HC0_0 := Aside0.mk hc0_0
 clear hr0_0 hc0_0
 have HR0_1 := Aside0.mk hr0_1
 have HC0_1 := Aside0.mk hc0_1
 clear hr0_1 hc0_1
 have HB := Aside0.mk (Below.refl w.heap.size w)
 have H : ((some (([] : List Int) : List Int)).bind fun y103 => (if y103.length + l0_0.length < 17592186044416 then ((some (([] : List (S38)) : List (S38))).bind fun y109 => (if y109.length + l0_1.length < 5864062014805 then (some ((y103 ++ l0_0), (y109 ++ l0_1))) else (none))) else (none))) = some (r1, r2) := h
 clear h
 obtain ⟨y103, hy103⟩ : ∃ y_ : List Int, y_ = (([] : List Int)) := ⟨_, rfl⟩
 replace H : (if y103.length + l0_0.length < 17592186044416 then ((some (([] : List (S38)) : List (S38))).bind fun y109 => (if y109.length + l0_1.length < 5864062014805 then (some ((y103 ++ l0_0), (y109 ++ l0_1))) else (none))) else (none)) = some (r1, r2) := by first | (rw [hy103]; with_reducible exact H) | (have H2_ := (Option.bind_some _ _).symm.trans H; rw [hy103]; with_reducible exact H2_) | (have H2_ := (Option.bind_some _ _).symm.trans H; with_reducible exact H2_) | with_reducible exact H | (rw [hy103]; exact H) | exact H
 have Ny103 := Aside0.mk hy103
 clear hy103
 by_cases c2 : y103.length + l0_0.length < 17592186044416
 ·rw [if_pos c2] at H
  have LMc2 := Aside0.mk c2
  clear c2
  obtain ⟨y106, hy106⟩ : ∃ y_ : List Int, y_ = (y103 ++ l0_0) := ⟨_, rfl⟩
  replace H : ((some (([] : List (S38)) : List (S38))).bind fun y109 => (if y109.length + l0_1.length < 5864062014805 then (some (y106, (y109 ++ l0_1))) else (none))) = some (r1, r2) := by first | (rw [hy106]; with_reducible exact H) | (have H2_ := (Option.bind_some _ _).symm.trans H; rw [hy106]; with_reducible exact H2_) | (have H2_ := (Option.bind_some _ _).symm.trans H; with_reducible exact H2_) | with_reducible exact H | (rw [hy106]; exact H) | exact H
  have Ny106 := Aside0.mk hy106
  clear hy106
  obtain ⟨y109, hy109⟩ : ∃ y_ : List (S38), y_ = (([] : List (S38))) := ⟨_, rfl⟩
  replace H : (if y109.length + l0_1.length < 5864062014805 then (some (y106, (y109 ++ l0_1))) else (none)) = some (r1, r2) := by first | (rw [hy109]; with_reducible exact H) | (have H2_ := (Option.bind_some _ _).symm.trans H; rw [hy109]; with_reducible exact H2_) | (have H2_ := (Option.bind_some _ _).symm.trans H; with_reducible exact H2_) | with_reducible exact H | (rw [hy109]; exact H) | exact H
  have Ny109 := Aside0.mk hy109
  clear hy109
  by_cases c3 : y109.length + l0_1.length < 5864062014805
  ·rw [if_pos c3] at H
   have LMc3 := Aside0.mk c3
   clear c3
   obtain ⟨y112, hy112⟩ : ∃ y_ : List (S38), y_ = (y109 ++ l0_1) := ⟨_, rfl⟩
   replace H : (some (y106, y112)) = some (r1, r2) := by first | (rw [hy112]; with_reducible exact H) | (have H2_ := (Option.bind_some _ _).symm.trans H; rw [hy112]; with_reducible exact H2_) | (have H2_ := (Option.bind_some _ _).symm.trans H; with_reducible exact H2_) | with_reducible exact H | (rw [hy112]; exact H) | exact H
   have Ny112 := Aside0.mk hy112
   clear hy112
   simp only [Option.some.injEq, Prod.mk.injEq] at H
   obtain ⟨rfl, rfl⟩ := H
   go_enter Try.func13, Try.ntmps13
   try go_wp2_with (first | ((with_reducible refine gate_dst (N := 1) rfl ?_); refine box_event ?hg (N := 1) ?hd (cs := #[.slice A0_0 l0_0.length c0_0, .slice A0_1 l0_1.length c0_1]) (t := 25) ?hr ?_; (case hd => rfl); (case hg => rfl); (case hr => first | (go_simp; done) | (go_simp; rfl)); intro gb101 hg w4 hbox hb; have n0_ := Aside0.mk (wS hB hb); have n1_ := Aside0.mk (hbox); have n2_ := Aside0.mk ((by rw [hg]; exact (below_size hB) : w.heap.size ≤ gb101)); have n3_ := Aside0.mk ((by rw [hg]; exact (below_size hB) : w.heap.size ≤ gb101)); clear HB; have HB := n0_; have BK101 := n1_; have GW101 := n2_; have GE101 := n3_; clear n0_ n1_ n2_ n3_; clear hb hbox hg) | ((with_reducible refine gate_dst (N := 2) rfl ?_); refine box_event ?hg (N := 2) ?hd (cs := #[.slice none 0 0, .slice none 0 0]) (t := 25) ?hr ?_; (case hd => rfl); (case hg => rfl); (case hr => first | (go_simp; done) | (go_simp; rfl)); intro gb102 hg w5 hbox hb; have n0_ := Aside0.mk (bB (g := gb101) (o := .cells #[.slice A0_0 l0_0.length c0_0, .slice A0_1 l0_1.length c0_1] 25 (0, 0)) (by (with_reducible repeat (first | refine bN ?_ _ | refine bD ?_ | refine bA ?_ _)); exact BK101.out) hb); have n1_ := Aside0.mk (wS (by repeat (first | (with_reducible first | exact HB.out | apply wA | apply wN | apply wD | refine below_set ?_ GE101.out) | exact HB.out)) hb); have n2_ := Aside0.mk (hbox); have n3_ := Aside0.mk ((by rw [hg]; exact (below_size (by repeat (first | (with_reducible first | exact HB.out | apply wA | apply wN | apply wD | refine below_set ?_ GE101.out) | exact HB.out))) : w.heap.size ≤ gb102)); have n4_ := Aside0.mk ((by rw [hg]; exact (below_size (by repeat (first | (with_reducible first | exact HB.out | apply wA | apply wN | apply wD | refine below_set ?_ GE101.out) | exact HB.out))) : w.heap.size ≤ gb102)); have n5_ := Aside0.mk ((by rw [hg]; exact Nat.ne_of_lt (blk_lt (g := gb101) (o := .cells #[.slice A0_0 l0_0.length c0_0, .slice A0_1 l0_1.length c0_1] 25 (0, 0)) (by (with_reducible repeat (first | refine bN ?_ _ | refine bD ?_ | refine bA ?_ _)); exact BK101.out)) : gb101 ≠ gb102)); have n6_ := Aside0.mk ((by rw [hg]; exact Nat.ne_of_gt (blk_lt (g := gb101) (o := .cells #[.slice A0_0 l0_0.length c0_0, .slice A0_1 l0_1.length c0_1] 25 (0, 0)) (by (with_reducible repeat (first | refine bN ?_ _ | refine bD ?_ | refine bA ?_ _)); exact BK101.out)) : gb102 ≠ gb101)); clear BK101; clear HB; have BK101 := n0_; have HB := n1_; have BK102 := n2_; have GW102 := n3_; have GE102 := n4_; have NB101_102 := n5_; have NB102_101 := n6_; clear n0_ n1_ n2_ n3_ n4_ n5_ n6_; clear hb hbox hg))
   have n0_ := Aside0.mk (bD BK101.out)
   have n1_ := Aside0.mk (bD BK102.out)
   have n2_ := Aside0.mk (wD HB.out)
   clear BK101
   clear BK102
   clear HB
   have BK101 := n0_
   have BK102 := n1_
   have HB := n2_
   clear n0_ n1_ n2_
   refine start_ (n := 10) (S := fun w' => w'.cell? ⟨gb101, 0, none⟩ = some (.slice A0_0 l0_0.length c0_0) ∧ w'.cell? ⟨gb101, 1, none⟩ = some (.slice A0_1 l0_1.length c0_1)) (ds := []) #[false, false, false, false, false, false, false, false, false, false] (by kernel_rfl) rfl rfl ⟨(blk_cell BK101.out 0).trans rfl, (blk_cell BK101.out 1).trans rfl⟩ (fun hHeld => ?_); refine with_tabW scarfjointref05_Copied.tab1 scarfjointref05_Copied.bits1 (fun HT_ HW_ => ?_)
   generalize w5.drew = w6 at BK101 BK102 HB hHeld ⊢
   refine pure_ (i := 1) (N := some 4) (v := ?_) (a' := ?_) #[false, true, false, false, false, false, false, false, false, false] rfl rfl (any_of HT_.out (by kernel_rfl)) (fun _ _ _ h => h) (Or.inl ⟨by rfl, ?_⟩) ?_ ?_
   rotate_left
   ·intro w'
    go_simp
    with_reducible rfl
   rotate_left
   ·simp only [Act.put, List.setIfInBounds_toArray, List.set_cons_zero, List.set_cons_succ, i64_w, i32_w]
    rfl
   refine pure_ (i := 5) (N := some 8) (v := ?_) (a' := ?_) #[false, true, false, false, false, true, false, false, false, false] rfl rfl (any_of HT_.out (by kernel_rfl)) (fun _ _ _ h => h) (Or.inl ⟨by rfl, ?_⟩) ?_ ?_
   rotate_left
   ·intro w'
    go_simp
    with_reducible rfl
   rotate_left
   ·simp only [Act.put, List.setIfInBounds_toArray, List.set_cons_zero, List.set_cons_succ, i64_w, i32_w]
    rfl
   refine take_ (i := 2) (N := some 5) (v := ?_) (a' := ?_) #[false, true, true, false, false, true, false, false, false, false] rfl rfl (take_ofW HT_.out HW_.out (by kernel_rfl)) (fun _ _ _ h => h) (Or.inl ⟨by rfl, ?_⟩) hHeld ?_ ?_
   rotate_left
   ·rintro w' ⟨s0, s1⟩
    go_simp
    with_reducible rfl
   rotate_left
   ·simp only [Act.put, List.setIfInBounds_toArray, List.set_cons_zero, List.set_cons_succ, i64_w, i32_w]
    rfl
   refine take_ (i := 6) (N := some 9) (v := ?_) (a' := ?_) #[false, true, true, false, false, true, true, false, false, false] rfl rfl (take_ofW HT_.out HW_.out (by kernel_rfl)) (fun _ _ _ h => h) (Or.inl ⟨by rfl, ?_⟩) hHeld ?_ ?_
   rotate_left
   ·rintro w' ⟨s0, s1⟩
    go_simp
    with_reducible rfl
   rotate_left
   ·simp only [Act.put, List.setIfInBounds_toArray, List.set_cons_zero, List.set_cons_succ, i64_w, i32_w]
    rfl
   refine join_ (σ := Value × Value × Value) 3 #[true, true, true, true, true, true, true, false, false, false] (fun s_ => [(3, s_.1), (6, s_.2.1), (7, s_.2.2)]) (fun s_ w' => (w'.cell? ⟨gb101, 0, none⟩ = some (.slice A0_0 l0_0.length c0_0) ∧ w'.cell? ⟨gb101, 1, none⟩ = some (.slice A0_1 l0_1.length c0_1)) ∧ (Kd.R (Kd.int .i64) 3 w' w.heap.size (fun _ => True) s_.2.1 y106) ∧ (Kd.R k38 38 w' w.heap.size (fun _ => True) s_.2.2 y109) ∧ (w'.heap[gb101]? = some (.cells #[.slice A0_0 l0_0.length c0_0, .slice A0_1 l0_1.length c0_1] 25 (0, 0))) ∧ (w'.heap[gb102]? = some (.cells #[.slice none 0 0, .slice none 0 0] 25 (0, 0))) ∧ (Below w.heap.size w w')) ?_ ?_
   rotate_left
   ·intro hCont
    refine two_ (i := 0) (j := 4) (Ni := some 3) (Nj := some 7) #[true, true, true, false, false, true, true, false, false, false] #[false, true, true, false, true, true, true, false, false, false] rfl rfl rfl rfl (two_of HT_.out (by kernel_rfl)) (by decide) (by decide) (fun K hK => ?_) (fun K hK => ?_)
    ·skip
     refine Kd.R_lit_step (Kd.int .i64) _ 3 ?hg (N := 3) ?hd (xs := ([] : List Int)) (inner := []) (ok := fun _ => True) (okp := fun _ => True) ?hr ?hp (fun _ hk => hk) trivial (Below.refl _ _) (Nat.le_refl _) (by simp) ?_; (case hd => rfl); (case hg => rfl); (case hr => first | (go_simp; done) | (go_simp; rfl)); (case hp => exact (Reps.none _ _))
     intro v104 w7 ho8 hb hg_ hnew_
     clear hg_ hnew_
     (first | rw [← Ny103.out] at ho8 | (simp only [Int.reduceToNat] at ho8; rw [← Ny103.out] at ho8))
     have n0_ := Aside0.mk (Kd.R_lower ho8 (below_size (by repeat (first | (with_reducible first | exact HB.out | apply wA | apply wN | apply wD | refine below_set ?_ GE101.out | refine below_set ?_ GE102.out) | exact HB.out))))
     have n1_ := Aside0.mk (bB (g := gb101) (o := .cells #[.slice A0_0 l0_0.length c0_0, .slice A0_1 l0_1.length c0_1] 25 (0, 0)) (by (with_reducible repeat (first | refine bN ?_ _ | refine bD ?_ | refine bA ?_ _)); exact BK101.out) hb)
     have n2_ := Aside0.mk (bB (g := gb102) (o := .cells #[.slice none 0 0, .slice none 0 0] 25 (0, 0)) (by (with_reducible repeat (first | refine bN ?_ _ | refine bD ?_ | refine bA ?_ _)); exact BK102.out) hb)
     have n3_ := Aside0.mk (wS (by repeat (first | (with_reducible first | exact HB.out | apply wA | apply wN | apply wD | refine below_set ?_ GE101.out | refine below_set ?_ GE102.out) | exact HB.out)) hb)
     clear BK101
     clear BK102
     clear HB
     have HO105 := n0_
     have BK101 := n1_
     have BK102 := n2_
     have HB := n3_
     clear n0_ n1_ n2_ n3_
     clear hb ho8
     refine hK.out _ _ ⟨(blk_cell BK101.out 0).trans rfl, (blk_cell BK101.out 1).trans rfl⟩ (fun hHeld => ?_)
     clear hK K
     refine norm_ (a' := ?_) ?_ ?_
     rotate_left
     ·show Act.put _ (some 3) _ = _
      simp only [Act.put, List.setIfInBounds_toArray, List.set_cons_zero, List.set_cons_succ, i64_w, i32_w]
      rfl
     refine two_ (i := 3) (j := 4) (Ni := some 6) (Nj := some 7) #[true, true, true, true, false, true, true, false, false, false] #[true, true, true, false, true, true, true, false, false, false] rfl rfl rfl rfl (two_of HT_.out (by kernel_rfl)) (by decide) (by decide) (fun K hK => ?_) (fun K hK => ?_)
     ·skip
      refine Kd.R_append_rows_step (Kd.int .i64) (w0 := w) w.heap.size (by rfl) (.tmp 3) (.tmp 5) 22 3 (.int .i64 0) 8 rfl Try.underlying22 info3 rfl (by decide) (by omega) v104 y103 l0_0 _ _ _ (fun _ => True) (fun _ => False) rfl rfl ?aO ?aR (fun _ _ h => h) (fun _ h => h.elim) ?aF ?aB ?aS ?aL ?_
      (case aR => repeat (first | exact (cB HR0_0.out HB.out) | (with_reducible refine cA ?_ _) | (with_reducible refine cN ?_ _) | (with_reducible refine cD ?_)))
      (case aB => exact (by repeat (first | (with_reducible first | exact HB.out | apply wA | apply wN | apply wD | refine below_set ?_ GE101.out | refine below_set ?_ GE102.out) | exact HB.out)))
      (case aF => exact (fun _ _ => trivial))
      (case aO => exact (by (with_reducible repeat (first | apply rA | apply rN | apply rD)); exact HO105.out))
      (case aS => exact (below_size (by repeat (first | (with_reducible first | exact HB.out | apply wA | apply wN | apply wD | refine below_set ?_ GE101.out | refine below_set ?_ GE102.out) | exact HB.out))))
      (case aL => have := LMc2.out; omega)
      intro v107 w9 ho hb hg hat
      rw [← Ny106.out] at ho
      have n0_ := Aside0.mk (bG (g := gb101) (o := .cells #[.slice A0_0 l0_0.length c0_0, .slice A0_1 l0_1.length c0_1] 25 (0, 0)) (by (with_reducible repeat (first | refine bN ?_ _ | refine bD ?_ | refine bA ?_ _)); exact BK101.out) hg (Kd.R_ne HO105.out BK101.out (by decide)))
      have n1_ := Aside0.mk (bG (g := gb102) (o := .cells #[.slice none 0 0, .slice none 0 0] 25 (0, 0)) (by (with_reducible repeat (first | refine bN ?_ _ | refine bD ?_ | refine bA ?_ _)); exact BK102.out) hg (Kd.R_ne HO105.out BK102.out (by decide)))
      have n2_ := Aside0.mk (hb)
      have n3_ := Aside0.mk (ho)
      clear BK101
      clear BK102
      clear HB
      clear HO105
      have BK101 := n0_
      have BK102 := n1_
      have HB := n2_
      have HO108 := n3_
      clear n0_ n1_ n2_ n3_
      clear ho hb hg hat
      refine hK.out _ _ ⟨(blk_cell BK101.out 0).trans rfl, (blk_cell BK101.out 1).trans rfl⟩ (fun hHeld => ?_)
      clear hK K
      refine norm_ (a' := ?_) ?_ ?_
      rotate_left
      ·show Act.put _ (some 6) _ = _
       simp only [Act.put, List.setIfInBounds_toArray, List.set_cons_zero, List.set_cons_succ, i64_w, i32_w]
       rfl
      refine one_ (i := 4) (N := some 7) #[true, true, true, true, true, true, true, false, false, false] rfl rfl (one_of HT_.out (by kernel_rfl)) (by decide) (fun K hK => ?_)
      refine Kd.R_lit_step k38 _ 38 ?hg (N := 7) ?hd (xs := ([] : List (S38))) (inner := []) (ok := fun _ => True) (okp := fun _ => True) ?hr ?hp (fun _ hk => hk) trivial (Below.refl _ _) (Nat.le_refl _) (by simp) ?_; (case hd => rfl); (case hg => rfl); (case hr => first | (go_simp; done) | (go_simp; rfl)); (case hp => exact (Reps.none _ _))
      intro v110 w10 ho11 hb hg_ hnew_
      clear hg_ hnew_
      (first | rw [← Ny109.out] at ho11 | (simp only [Int.reduceToNat] at ho11; rw [← Ny109.out] at ho11))
      have n0_ := Aside0.mk (rB (by (with_reducible repeat (first | apply rA | apply rN | apply rD)); exact HO108.out) hb)
      have n1_ := Aside0.mk (Kd.R_lower ho11 (below_size (by repeat (first | (with_reducible first | exact HB.out | apply wA | apply wN | apply wD | refine below_set ?_ GE101.out | refine below_set ?_ GE102.out) | exact HB.out))))
      have n2_ := Aside0.mk (bB (g := gb101) (o := .cells #[.slice A0_0 l0_0.length c0_0, .slice A0_1 l0_1.length c0_1] 25 (0, 0)) (by (with_reducible repeat (first | refine bN ?_ _ | refine bD ?_ | refine bA ?_ _)); exact BK101.out) hb)
      have n3_ := Aside0.mk (bB (g := gb102) (o := .cells #[.slice none 0 0, .slice none 0 0] 25 (0, 0)) (by (with_reducible repeat (first | refine bN ?_ _ | refine bD ?_ | refine bA ?_ _)); exact BK102.out) hb)
      have n4_ := Aside0.mk (wS (by repeat (first | (with_reducible first | exact HB.out | apply wA | apply wN | apply wD | refine below_set ?_ GE101.out | refine below_set ?_ GE102.out) | exact HB.out)) hb)
      clear HO108
      clear BK101
      clear BK102
      clear HB
      have HO108 := n0_
      have HO111 := n1_
      have BK101 := n2_
      have BK102 := n3_
      have HB := n4_
      clear n0_ n1_ n2_ n3_ n4_
      clear hb ho11
      refine hK.out _ _ ⟨(blk_cell BK101.out 0).trans rfl, (blk_cell BK101.out 1).trans rfl⟩ (fun hHeld => ?_)
      clear hK K
      refine norm_ (a' := ?_) ?_ ?_
      rotate_left
      ·show Act.put _ (some 7) _ = _
       simp only [Act.put, List.setIfInBounds_toArray, List.set_cons_zero, List.set_cons_succ, i64_w, i32_w]
       rfl
      exact norm_ (by simp only [putAll, Act.put, List.setIfInBounds_toArray, List.set_cons_zero, List.set_cons_succ]) (hCont (v104, v107, v110) _ ⟨hHeld, (by (with_reducible repeat (first | apply rA | apply rN | apply rD)); exact HO108.out), (by (with_reducible repeat (first | apply rA | apply rN | apply rD)); exact HO111.out), (by (with_reducible repeat (first | refine bN ?_ _ | refine bD ?_ | refine bA ?_ _)); exact BK101.out), (by (with_reducible repeat (first | refine bN ?_ _ | refine bD ?_ | refine bA ?_ _)); exact BK102.out), (by repeat (first | (with_reducible first | exact HB.out | apply wA | apply wN | apply wD | refine below_set ?_ GE101.out | refine below_set ?_ GE102.out) | exact HB.out))⟩)
     ·skip
      refine Kd.R_lit_step k38 _ 38 ?hg (N := 7) ?hd (xs := ([] : List (S38))) (inner := []) (ok := fun _ => True) (okp := fun _ => True) ?hr ?hp (fun _ hk => hk) trivial (Below.refl _ _) (Nat.le_refl _) (by simp) ?_; (case hd => rfl); (case hg => rfl); (case hr => first | (go_simp; done) | (go_simp; rfl)); (case hp => exact (Reps.none _ _))
      intro v110 w9 ho10 hb hg_ hnew_
      clear hg_ hnew_
      (first | rw [← Ny109.out] at ho10 | (simp only [Int.reduceToNat] at ho10; rw [← Ny109.out] at ho10))
      have n0_ := Aside0.mk (rB (by (with_reducible repeat (first | apply rA | apply rN | apply rD)); exact HO105.out) hb)
      have n1_ := Aside0.mk (Kd.R_lower ho10 (below_size (by repeat (first | (with_reducible first | exact HB.out | apply wA | apply wN | apply wD | refine below_set ?_ GE101.out | refine below_set ?_ GE102.out) | exact HB.out))))
      have n2_ := Aside0.mk (bB (g := gb101) (o := .cells #[.slice A0_0 l0_0.length c0_0, .slice A0_1 l0_1.length c0_1] 25 (0, 0)) (by (with_reducible repeat (first | refine bN ?_ _ | refine bD ?_ | refine bA ?_ _)); exact BK101.out) hb)
      have n3_ := Aside0.mk (bB (g := gb102) (o := .cells #[.slice none 0 0, .slice none 0 0] 25 (0, 0)) (by (with_reducible repeat (first | refine bN ?_ _ | refine bD ?_ | refine bA ?_ _)); exact BK102.out) hb)
      have n4_ := Aside0.mk (wS (by repeat (first | (with_reducible first | exact HB.out | apply wA | apply wN | apply wD | refine below_set ?_ GE101.out | refine below_set ?_ GE102.out) | exact HB.out)) hb)
      clear HO105
      clear BK101
      clear BK102
      clear HB
      have HO105 := n0_
      have HO111 := n1_
      have BK101 := n2_
      have BK102 := n3_
      have HB := n4_
      clear n0_ n1_ n2_ n3_ n4_
      clear hb ho10
      refine hK.out _ _ ⟨(blk_cell BK101.out 0).trans rfl, (blk_cell BK101.out 1).trans rfl⟩ (fun hHeld => ?_)
      clear hK K
      refine norm_ (a' := ?_) ?_ ?_
      rotate_left
      ·show Act.put _ (some 7) _ = _
       simp only [Act.put, List.setIfInBounds_toArray, List.set_cons_zero, List.set_cons_succ, i64_w, i32_w]
       rfl
      refine one_ (i := 3) (N := some 6) #[true, true, true, true, true, true, true, false, false, false] rfl rfl (one_of HT_.out (by kernel_rfl)) (by decide) (fun K hK => ?_)
      refine Kd.R_append_rows_step (Kd.int .i64) (w0 := w) w.heap.size (by rfl) (.tmp 3) (.tmp 5) 22 3 (.int .i64 0) 8 rfl Try.underlying22 info3 rfl (by decide) (by omega) v104 y103 l0_0 _ _ _ (fun _ => True) (fun _ => False) rfl rfl ?aO ?aR (fun _ _ h => h) (fun _ h => h.elim) ?aF ?aB ?aS ?aL ?_
      (case aR => repeat (first | exact (cB HR0_0.out HB.out) | (with_reducible refine cA ?_ _) | (with_reducible refine cN ?_ _) | (with_reducible refine cD ?_)))
      (case aB => exact (by repeat (first | (with_reducible first | exact HB.out | apply wA | apply wN | apply wD | refine below_set ?_ GE101.out | refine below_set ?_ GE102.out) | exact HB.out)))
      (case aF => exact (fun _ _ => trivial))
      (case aO => exact (by (with_reducible repeat (first | apply rA | apply rN | apply rD)); exact HO105.out))
      (case aS => exact (below_size (by repeat (first | (with_reducible first | exact HB.out | apply wA | apply wN | apply wD | refine below_set ?_ GE101.out | refine below_set ?_ GE102.out) | exact HB.out))))
      (case aL => have := LMc2.out; omega)
      intro v107 w11 ho hb hg hat
      rw [← Ny106.out] at ho
      have n0_ := Aside0.mk (bG (g := gb101) (o := .cells #[.slice A0_0 l0_0.length c0_0, .slice A0_1 l0_1.length c0_1] 25 (0, 0)) (by (with_reducible repeat (first | refine bN ?_ _ | refine bD ?_ | refine bA ?_ _)); exact BK101.out) hg (Kd.R_ne HO105.out BK101.out (by decide)))
      have n1_ := Aside0.mk (bG (g := gb102) (o := .cells #[.slice none 0 0, .slice none 0 0] 25 (0, 0)) (by (with_reducible repeat (first | refine bN ?_ _ | refine bD ?_ | refine bA ?_ _)); exact BK102.out) hg (Kd.R_ne HO105.out BK102.out (by decide)))
      have n2_ := Aside0.mk (Kd.R_over' (by (with_reducible repeat (first | apply rA | apply rN | apply rD)); exact HO111.out) (Kd.R_typed (by (with_reducible repeat (first | apply rA | apply rN | apply rD)); exact HO105.out)) (by decide) hg)
      have n3_ := Aside0.mk (hb)
      have n4_ := Aside0.mk (ho)
      clear BK101
      clear BK102
      clear HO111
      clear HB
      clear HO105
      have BK101 := n0_
      have BK102 := n1_
      have HO111 := n2_
      have HB := n3_
      have HO108 := n4_
      clear n0_ n1_ n2_ n3_ n4_
      clear ho hb hg hat
      refine hK.out _ _ ⟨(blk_cell BK101.out 0).trans rfl, (blk_cell BK101.out 1).trans rfl⟩ (fun hHeld => ?_)
      clear hK K
      refine norm_ (a' := ?_) ?_ ?_
      rotate_left
      ·show Act.put _ (some 6) _ = _
       simp only [Act.put, List.setIfInBounds_toArray, List.set_cons_zero, List.set_cons_succ, i64_w, i32_w]
       rfl
      exact norm_ (by simp only [putAll, Act.put, List.setIfInBounds_toArray, List.set_cons_zero, List.set_cons_succ]) (hCont (v104, v107, v110) _ ⟨hHeld, (by (with_reducible repeat (first | apply rA | apply rN | apply rD)); exact HO108.out), (by (with_reducible repeat (first | apply rA | apply rN | apply rD)); exact HO111.out), (by (with_reducible repeat (first | refine bN ?_ _ | refine bD ?_ | refine bA ?_ _)); exact BK101.out), (by (with_reducible repeat (first | refine bN ?_ _ | refine bD ?_ | refine bA ?_ _)); exact BK102.out), (by repeat (first | (with_reducible first | exact HB.out | apply wA | apply wN | apply wD | refine below_set ?_ GE101.out | refine below_set ?_ GE102.out) | exact HB.out))⟩)
    ·skip
     refine Kd.R_lit_step k38 _ 38 ?hg (N := 7) ?hd (xs := ([] : List (S38))) (inner := []) (ok := fun _ => True) (okp := fun _ => True) ?hr ?hp (fun _ hk => hk) trivial (Below.refl _ _) (Nat.le_refl _) (by simp) ?_; (case hd => rfl); (case hg => rfl); (case hr => first | (go_simp; done) | (go_simp; rfl)); (case hp => exact (Reps.none _ _))
     intro v110 w7 ho8 hb hg_ hnew_
     clear hg_ hnew_
     (first | rw [← Ny109.out] at ho8 | (simp only [Int.reduceToNat] at ho8; rw [← Ny109.out] at ho8))
     have n0_ := Aside0.mk (Kd.R_lower ho8 (below_size (by repeat (first | (with_reducible first | exact HB.out | apply wA | apply wN | apply wD | refine below_set ?_ GE101.out | refine below_set ?_ GE102.out) | exact HB.out))))
     have n1_ := Aside0.mk (bB (g := gb101) (o := .cells #[.slice A0_0 l0_0.length c0_0, .slice A0_1 l0_1.length c0_1] 25 (0, 0)) (by (with_reducible repeat (first | refine bN ?_ _ | refine bD ?_ | refine bA ?_ _)); exact BK101.out) hb)
     have n2_ := Aside0.mk (bB (g := gb102) (o := .cells #[.slice none 0 0, .slice none 0 0] 25 (0, 0)) (by (with_reducible repeat (first | refine bN ?_ _ | refine bD ?_ | refine bA ?_ _)); exact BK102.out) hb)
     have n3_ := Aside0.mk (wS (by repeat (first | (with_reducible first | exact HB.out | apply wA | apply wN | apply wD | refine below_set ?_ GE101.out | refine below_set ?_ GE102.out) | exact HB.out)) hb)
     clear BK101
     clear BK102
     clear HB
     have HO111 := n0_
     have BK101 := n1_
     have BK102 := n2_
     have HB := n3_
     clear n0_ n1_ n2_ n3_
     clear hb ho8
     refine hK.out _ _ ⟨(blk_cell BK101.out 0).trans rfl, (blk_cell BK101.out 1).trans rfl⟩ (fun hHeld => ?_)
     clear hK K
     refine norm_ (a' := ?_) ?_ ?_
     rotate_left
     ·show Act.put _ (some 7) _ = _
      simp only [Act.put, List.setIfInBounds_toArray, List.set_cons_zero, List.set_cons_succ, i64_w, i32_w]
      rfl
     refine one_ (i := 0) (N := some 3) #[true, true, true, false, true, true, true, false, false, false] rfl rfl (one_of HT_.out (by kernel_rfl)) (by decide) (fun K hK => ?_)
     refine Kd.R_lit_step (Kd.int .i64) _ 3 ?hg (N := 3) ?hd (xs := ([] : List Int)) (inner := []) (ok := fun _ => True) (okp := fun _ => True) ?hr ?hp (fun _ hk => hk) trivial (Below.refl _ _) (Nat.le_refl _) (by simp) ?_; (case hd => rfl); (case hg => rfl); (case hr => first | (go_simp; done) | (go_simp; rfl)); (case hp => exact (Reps.none _ _))
     intro v104 w9 ho10 hb hg_ hnew_
     clear hg_ hnew_
     (first | rw [← Ny103.out] at ho10 | (simp only [Int.reduceToNat] at ho10; rw [← Ny103.out] at ho10))
     have n0_ := Aside0.mk (rB (by (with_reducible repeat (first | apply rA | apply rN | apply rD)); exact HO111.out) hb)
     have n1_ := Aside0.mk (Kd.R_lower ho10 (below_size (by repeat (first | (with_reducible first | exact HB.out | apply wA | apply wN | apply wD | refine below_set ?_ GE101.out | refine below_set ?_ GE102.out) | exact HB.out))))
     have n2_ := Aside0.mk (bB (g := gb101) (o := .cells #[.slice A0_0 l0_0.length c0_0, .slice A0_1 l0_1.length c0_1] 25 (0, 0)) (by (with_reducible repeat (first | refine bN ?_ _ | refine bD ?_ | refine bA ?_ _)); exact BK101.out) hb)
     have n3_ := Aside0.mk (bB (g := gb102) (o := .cells #[.slice none 0 0, .slice none 0 0] 25 (0, 0)) (by (with_reducible repeat (first | refine bN ?_ _ | refine bD ?_ | refine bA ?_ _)); exact BK102.out) hb)
     have n4_ := Aside0.mk (wS (by repeat (first | (with_reducible first | exact HB.out | apply wA | apply wN | apply wD | refine below_set ?_ GE101.out | refine below_set ?_ GE102.out) | exact HB.out)) hb)
     clear HO111
     clear BK101
     clear BK102
     clear HB
     have HO111 := n0_
     have HO105 := n1_
     have BK101 := n2_
     have BK102 := n3_
     have HB := n4_
     clear n0_ n1_ n2_ n3_ n4_
     clear hb ho10
     refine hK.out _ _ ⟨(blk_cell BK101.out 0).trans rfl, (blk_cell BK101.out 1).trans rfl⟩ (fun hHeld => ?_)
     clear hK K
     refine norm_ (a' := ?_) ?_ ?_
     rotate_left
     ·show Act.put _ (some 3) _ = _
      simp only [Act.put, List.setIfInBounds_toArray, List.set_cons_zero, List.set_cons_succ, i64_w, i32_w]
      rfl
     refine one_ (i := 3) (N := some 6) #[true, true, true, true, true, true, true, false, false, false] rfl rfl (one_of HT_.out (by kernel_rfl)) (by decide) (fun K hK => ?_)
     refine Kd.R_append_rows_step (Kd.int .i64) (w0 := w) w.heap.size (by rfl) (.tmp 3) (.tmp 5) 22 3 (.int .i64 0) 8 rfl Try.underlying22 info3 rfl (by decide) (by omega) v104 y103 l0_0 _ _ _ (fun _ => True) (fun _ => False) rfl rfl ?aO ?aR (fun _ _ h => h) (fun _ h => h.elim) ?aF ?aB ?aS ?aL ?_
     (case aR => repeat (first | exact (cB HR0_0.out HB.out) | (with_reducible refine cA ?_ _) | (with_reducible refine cN ?_ _) | (with_reducible refine cD ?_)))
     (case aB => exact (by repeat (first | (with_reducible first | exact HB.out | apply wA | apply wN | apply wD | refine below_set ?_ GE101.out | refine below_set ?_ GE102.out) | exact HB.out)))
     (case aF => exact (fun _ _ => trivial))
     (case aO => exact (by (with_reducible repeat (first | apply rA | apply rN | apply rD)); exact HO105.out))
     (case aS => exact (below_size (by repeat (first | (with_reducible first | exact HB.out | apply wA | apply wN | apply wD | refine below_set ?_ GE101.out | refine below_set ?_ GE102.out) | exact HB.out))))
     (case aL => have := LMc2.out; omega)
     intro v107 w11 ho hb hg hat
     rw [← Ny106.out] at ho
     have n0_ := Aside0.mk (bG (g := gb101) (o := .cells #[.slice A0_0 l0_0.length c0_0, .slice A0_1 l0_1.length c0_1] 25 (0, 0)) (by (with_reducible repeat (first | refine bN ?_ _ | refine bD ?_ | refine bA ?_ _)); exact BK101.out) hg (Kd.R_ne HO105.out BK101.out (by decide)))
     have n1_ := Aside0.mk (bG (g := gb102) (o := .cells #[.slice none 0 0, .slice none 0 0] 25 (0, 0)) (by (with_reducible repeat (first | refine bN ?_ _ | refine bD ?_ | refine bA ?_ _)); exact BK102.out) hg (Kd.R_ne HO105.out BK102.out (by decide)))
     have n2_ := Aside0.mk (Kd.R_over' (by (with_reducible repeat (first | apply rA | apply rN | apply rD)); exact HO111.out) (Kd.R_typed (by (with_reducible repeat (first | apply rA | apply rN | apply rD)); exact HO105.out)) (by decide) hg)
     have n3_ := Aside0.mk (hb)
     have n4_ := Aside0.mk (ho)
     clear BK101
     clear BK102
     clear HO111
     clear HB
     clear HO105
     have BK101 := n0_
     have BK102 := n1_
     have HO111 := n2_
     have HB := n3_
     have HO108 := n4_
     clear n0_ n1_ n2_ n3_ n4_
     clear ho hb hg hat
     refine hK.out _ _ ⟨(blk_cell BK101.out 0).trans rfl, (blk_cell BK101.out 1).trans rfl⟩ (fun hHeld => ?_)
     clear hK K
     refine norm_ (a' := ?_) ?_ ?_
     rotate_left
     ·show Act.put _ (some 6) _ = _
      simp only [Act.put, List.setIfInBounds_toArray, List.set_cons_zero, List.set_cons_succ, i64_w, i32_w]
      rfl
     exact norm_ (by simp only [putAll, Act.put, List.setIfInBounds_toArray, List.set_cons_zero, List.set_cons_succ]) (hCont (v104, v107, v110) _ ⟨hHeld, (by (with_reducible repeat (first | apply rA | apply rN | apply rD)); exact HO108.out), (by (with_reducible repeat (first | apply rA | apply rN | apply rD)); exact HO111.out), (by (with_reducible repeat (first | refine bN ?_ _ | refine bD ?_ | refine bA ?_ _)); exact BK101.out), (by (with_reducible repeat (first | refine bN ?_ _ | refine bD ?_ | refine bA ?_ _)); exact BK102.out), (by repeat (first | (with_reducible first | exact HB.out | apply wA | apply wN | apply wD | refine below_set ?_ GE101.out | refine below_set ?_ GE102.out) | exact HB.out))⟩)
   rintro ⟨v104, v107, v110⟩ w12 ⟨hS_, h0_, h1_, h2_, h3_, h4_⟩
   have n0_ : Aside0 (Kd.R (Kd.int .i64) 3 w12 w.heap.size (fun _ => True) v107 y106) := ⟨h0_⟩
   have n1_ : Aside0 (Kd.R k38 38 w12 w.heap.size (fun _ => True) v110 y109) := ⟨h1_⟩
   have n2_ : Aside0 (w12.heap[gb101]? = some (.cells #[.slice A0_0 l0_0.length c0_0, .slice A0_1 l0_1.length c0_1] 25 (0, 0))) := ⟨h2_⟩
   have n3_ : Aside0 (w12.heap[gb102]? = some (.cells #[.slice none 0 0, .slice none 0 0] 25 (0, 0))) := ⟨h3_⟩
   have n4_ : Aside0 (Below w.heap.size w w12) := ⟨h4_⟩
   clear BK101
   clear BK102
   clear HB
   clear h0_ h1_ h2_ h3_ h4_
   have HO108 := n0_
   have HO111 := n1_
   have BK101 := n2_
   have BK102 := n3_
   have HB := n4_
   clear n0_ n1_ n2_ n3_ n4_
   have hHeld : w12.cell? ⟨gb101, 0, none⟩ = some (.slice A0_0 l0_0.length c0_0) ∧ w12.cell? ⟨gb101, 1, none⟩ = some (.slice A0_1 l0_1.length c0_1) := hS_
   refine norm_ (a' := ?_) ?_ ?_
   rotate_left
   ·simp only [putAll, Act.put, List.setIfInBounds_toArray, List.set_cons_zero, List.set_cons_succ]
    rfl
   refine one_ (i := 7) (N := some 10) #[true, true, true, true, true, true, true, true, false, false] rfl rfl (one_of HT_.out (by kernel_rfl)) (by decide) (fun K hK => ?_)
   refine Kd.R_append_rows_step k38 (w0 := w) w.heap.size (by rfl) (.tmp 7) (.tmp 9) 23 38 (.agg #[(.int .i64 0), (.int .i64 0), (.int .i64 0)]) 24 rfl Try.underlying23 info38 rfl (by decide) (by omega) v110 y109 l0_1 _ _ _ (fun _ => True) (fun _ => False) rfl rfl ?aO ?aR (fun _ _ h => h) (fun _ h => h.elim) ?aF ?aB ?aS ?aL ?_
   (case aR => repeat (first | exact (cB HR0_1.out HB.out) | (with_reducible refine cA ?_ _) | (with_reducible refine cN ?_ _) | (with_reducible refine cD ?_)))
   (case aB => exact (by repeat (first | (with_reducible first | exact HB.out | apply wA | apply wN | apply wD | refine below_set ?_ GE101.out | refine below_set ?_ GE102.out) | exact HB.out)))
   (case aF => exact (fun _ _ => trivial))
   (case aO => exact (by (with_reducible repeat (first | apply rA | apply rN | apply rD)); exact HO111.out))
   (case aS => exact (below_size (by repeat (first | (with_reducible first | exact HB.out | apply wA | apply wN | apply wD | refine below_set ?_ GE101.out | refine below_set ?_ GE102.out) | exact HB.out))))
   (case aL => have := LMc3.out; omega)
   intro v113 w13 ho hb hg hat
   rw [← Ny112.out] at ho
   have n0_ := Aside0.mk (bG (g := gb101) (o := .cells #[.slice A0_0 l0_0.length c0_0, .slice A0_1 l0_1.length c0_1] 25 (0, 0)) (by (with_reducible repeat (first | refine bN ?_ _ | refine bD ?_ | refine bA ?_ _)); exact BK101.out) hg (Kd.R_ne HO111.out BK101.out (by decide)))
   have n1_ := Aside0.mk (bG (g := gb102) (o := .cells #[.slice none 0 0, .slice none 0 0] 25 (0, 0)) (by (with_reducible repeat (first | refine bN ?_ _ | refine bD ?_ | refine bA ?_ _)); exact BK102.out) hg (Kd.R_ne HO111.out BK102.out (by decide)))
   have n2_ := Aside0.mk (Kd.R_over' (by (with_reducible repeat (first | apply rA | apply rN | apply rD)); exact HO108.out) (Kd.R_typed (by (with_reducible repeat (first | apply rA | apply rN | apply rD)); exact HO111.out)) (by decide) hg)
   have n3_ := Aside0.mk (hb)
   have n4_ := Aside0.mk (ho)
   clear BK101
   clear BK102
   clear HO108
   clear HB
   clear HO111
   have BK101 := n0_
   have BK102 := n1_
   have HO108 := n2_
   have HB := n3_
   have HO114 := n4_
   clear n0_ n1_ n2_ n3_ n4_
   clear ho hb hg hat
   obtain ⟨Ao14, co14, eo14⟩ := Kd.R_slice HO114.out
   (first | subst eo14 | (injection eo14 with f1_ f2_ f3_; have f4_ := f1_.symm; have f5_ := f3_.symm; clear f1_ f2_ f3_; subst f4_; subst f5_))
   obtain ⟨Ao15, co15, eo15⟩ := Kd.R_slice HO108.out
   (first | subst eo15 | (injection eo15 with f1_ f2_ f3_; have f4_ := f1_.symm; have f5_ := f3_.symm; clear f1_ f2_ f3_; subst f4_; subst f5_))
   refine hK.out _ _ ⟨(blk_cell BK101.out 0).trans rfl, (blk_cell BK101.out 1).trans rfl⟩ (fun hHeld => ?_)
   clear hK K
   refine norm_ (a' := ?_) ?_ ?_
   rotate_left
   ·show Act.put _ (some 10) _ = _
    simp only [Act.put, List.setIfInBounds_toArray, List.set_cons_zero, List.set_cons_succ, i64_w, i32_w]
    rfl
   refine pure_ (i := 8) (N := some 11) (v := ?_) (a' := ?_) #[true, true, true, true, true, true, true, true, true, false] rfl rfl (any_of HT_.out (by kernel_rfl)) (fun _ _ _ h => h) (Or.inl ⟨by rfl, ?_⟩) ?_ ?_
   rotate_left
   ·intro w'
    go_simp
    with_reducible rfl
   rotate_left
   ·simp only [Act.put, List.setIfInBounds_toArray, List.set_cons_zero, List.set_cons_succ, i64_w, i32_w]
    rfl
   refine one_ (i := 9) (N := none) #[true, true, true, true, true, true, true, true, true, true] rfl rfl (one_of HT_.out (by kernel_rfl)) (by decide) (fun K hK => ?_)
   have hs16 : w13.cell? ⟨gb102, 0, none⟩ = some (.slice none 0 0) := (blk_cell BK102.out 0).trans rfl
   have hfs16 := blk_frozen BK102.out 0
   have hns16_0 := NB101_102.out
   have hms16_0 := NB102_101.out
   have hs17 : w13.cell? ⟨gb102, 1, none⟩ = some (.slice none 0 0) := (blk_cell BK102.out 1).trans rfl
   have hfs17 := blk_frozen BK102.out 1
   have hns17_0 := NB101_102.out
   have hms17_0 := NB102_101.out
   refine skip_ (w1 := ?_) (by rfl) rfl ?_ ?_
   rotate_left
   ·go_simp
    rfl
   refine hK.out _ _ ⟨((cell_far (p := ⟨gb102, _, none⟩) NB101_102.out _).trans (((cell_far (p := ⟨gb102, _, none⟩) NB101_102.out _).trans (hHeld.1)))), ((cell_far (p := ⟨gb102, _, none⟩) NB101_102.out _).trans (((cell_far (p := ⟨gb102, _, none⟩) NB101_102.out _).trans (hHeld.2))))⟩ (fun hHeld => ?_)
   clear hK K
   refine done_ (done_of HT_.out (by kernel_rfl)) ?_
   try go_wp2
   refine bodyPost_ret (results_cell_row rfl _ _ gb102 25 #[.slice Ao15 y106.length co15, .slice Ao14 y112.length co14] (0, 0) _ rfl (by (with_reducible repeat (first | refine bN ?_ _ | refine bD ?_ | refine bA ?_ _)); refine blk_put (cs := #[.slice Ao15 y106.length co15, .slice none 0 0]) ?_ 1 _ rfl; (with_reducible repeat (first | refine bN ?_ _ | refine bD ?_ | refine bA ?_ _)); refine blk_put (cs := #[.slice none 0 0, .slice none 0 0]) ?_ 0 _ rfl; (with_reducible repeat (first | refine bN ?_ _ | refine bD ?_ | refine bA ?_ _)); exact BK102.out) Try.underlying25 rfl (by kernel_rfl)) rfl ?_
   exact ⟨_, _, by first | rfl | (simp [errW_none, errW_some] <;> rfl) | (simp [*, errW_none, errW_some] <;> rfl), by (with_reducible repeat (first | apply rA | apply rN | apply rD)); exact Kd.R_mono (Kd.R_far (p := ⟨gb102, 1, none⟩) (Kd.R_far (p := ⟨gb102, 0, none⟩) (Kd.R_types HO108.out BK102.out (by decide)) (fun _ hk => hk.2) (.slice Ao15 y106.length co15)) (fun _ hk => hk.2) (.slice Ao14 y112.length co14)) (fun _ hk => trivial), by (with_reducible repeat (first | apply rA | apply rN | apply rD)); exact Kd.R_mono (Kd.R_far (p := ⟨gb102, 1, none⟩) (Kd.R_far (p := ⟨gb102, 0, none⟩) (Kd.R_types HO114.out BK102.out (by decide)) (fun _ hk => hk.2) (.slice Ao15 y106.length co15)) (fun _ hk => hk.2) (.slice Ao14 y112.length co14)) (fun _ hk => trivial), by repeat (first | (with_reducible first | exact HB.out | apply wA | apply wN | apply wD | refine below_set ?_ GE101.out | refine below_set ?_ GE102.out) | exact HB.out)⟩
  ·rw [if_neg c3] at H
   exact absurd H (by simp)
 ·rw [if_neg c2] at H
  exact absurd H (by simp)
end Go.Proofs.Ytmbnibonggbjgaa.X

namespace Go.Proofs.Ytmbnibonggbjgaa.X
open Go.RowKit Go.Proofs.YtmbnibonggbjgaaW.PrintWords Go.Proofs.YtmbnibonggbjgaaW.PrintLast Go.Proofs.YtmbnibonggbjgaaW.PrintMore
open Go.Proofs.YtmbnibonggbjgaaW.PrintWords renaming blk_drewN → bN, blk_drew → bD, blk_alloc → bA, below_alloc → wA, pw_below_drewN → wN, below_drew1 → wD, blk_below → bB, below_step → wS, blk_at → bT, blk_grown → bG
open Go.Proofs.YtmbnibonggbjgaaW.PrintWords.Kd renaming R_alloc → rA, R_drewN → rN, R_drew → rD, R_below → rB, R_grown → rG, C_below → cB, C_alloc → cA, C_drewN → cN, C_drew → cD
attribute [local go_sem] max2_int min2_int max_two min_two max_three min_three max_four min_four
set_option linter.unusedVariables false
set_option linter.unusedSimpArgs false
/-! ### slices_Clone_int_int: function 14 -/
def slices_Clone_int_int.f (l0 : List Int) : Option (List Int) := (some (([] : List Int) : List Int)).bind fun y101 => (if y101.length + l0.length < 17592186044416 then (some (y101 ++ l0)) else (none))
theorem Kd_C_none14 {α : Type} {d : Kd α} {w : World} {n : Nat} {xs : List α} (h : Kd.C d w none n xs) : xs = [] := by
 have h1 := h.1
 have h2 := h.2.2
 cases n with
 | zero => exact List.eq_nil_of_length_eq_zero h1
 | succ n =>
  obtain ⟨ad, e, _⟩ := h2 (Nat.succ_pos n)
  cases e
set_option maxHeartbeats 8000000 in
set_option maxRecDepth 100000 in
theorem slices_Clone_int_int.calls_some (ad0 : Addr) (c0 : Nat) (l0 : List Int) (r : List Int) (w : World) (hr0 : Kd.C (Kd.int .i64) w (some ad0) l0.length l0) (hc0 : l0.length ≤ c0) (h : slices_Clone_int_int.f l0 = some r) :
  Calls Try.prog 14 #[.slice (some ad0) l0.length c0] w fun e w' => ∃ v0_ : Value, e = .returned (v0_) ∧ Kd.R (Kd.int .i64) 3 w' w.heap.size (fun _ => True) v0_ r ∧ Below w.heap.size w w' := by
 have hnil_ : ∀ w : World, (binOp .eql 22 (.slice (some ad0) l0.length c0) (.slice none 0 0)).run Try.prog w = .ok (.bool false) w := fun w => Lib.run_eql_slice_nil w 22 3 (some ad0) _ _ _ _ Try.underlying22
 have HR0 := Aside0.mk hr0
 have HC0 := Aside0.mk hc0
 clear hr0 hc0
 have HB := Aside0.mk (Below.refl w.heap.size w)
 have H : ((some (([] : List Int) : List Int)).bind fun y101 => (if y101.length + l0.length < 17592186044416 then (some (y101 ++ l0)) else (none))) = some r := h
 clear h
 obtain ⟨y101, hy101⟩ : ∃ y_ : List Int, y_ = (([] : List Int)) := ⟨_, rfl⟩
 replace H : (if y101.length + l0.length < 17592186044416 then (some (y101 ++ l0)) else (none)) = some r := by first | (rw [hy101]; with_reducible exact H) | (have H2_ := (Option.bind_some _ _).symm.trans H; rw [hy101]; with_reducible exact H2_) | (have H2_ := (Option.bind_some _ _).symm.trans H; with_reducible exact H2_) | with_reducible exact H | (rw [hy101]; exact H) | exact H
 have Ny101 := Aside0.mk hy101
 clear hy101
 by_cases c2 : y101.length + l0.length < 17592186044416
 ·rw [if_pos c2] at H
  have LMc2 := Aside0.mk c2
  clear c2
  obtain ⟨y104, hy104⟩ : ∃ y_ : List Int, y_ = (y101 ++ l0) := ⟨_, rfl⟩
  replace H : (some y104) = some r := by first | (rw [hy104]; with_reducible exact H) | (have H2_ := (Option.bind_some _ _).symm.trans H; rw [hy104]; with_reducible exact H2_) | (have H2_ := (Option.bind_some _ _).symm.trans H; with_reducible exact H2_) | with_reducible exact H | (rw [hy104]; exact H) | exact H
  have Ny104 := Aside0.mk hy104
  clear hy104
  obtain rfl := Option.some.inj H
  go_enter Try.func14, Try.ntmps14
  go_wp2_with (first | ((with_reducible refine gate_dst (N := 5) rfl ?_); refine Kd.R_lit (Kd.int .i64) _ 3 ?hg (N := 5) ?hd (xs := ([] : List Int)) (inner := []) (ok := fun _ => True) (okp := fun _ => True) ?hr ?hp (fun _ hk => hk) trivial (Below.refl _ _) (Nat.le_refl _) (by simp) ?_; (case hd => rfl); (case hg => rfl); (case hr => first | (go_simp; done) | (go_simp; rfl)); (case hp => exact (Reps.none _ _)); intro v102 w3 ho4 hb hg_ hnew_; clear hg_ hnew_; (first | rw [← Ny101.out] at ho4 | (simp only [Int.reduceToNat] at ho4; rw [← Ny101.out] at ho4)); have n0_ := Aside0.mk (Kd.R_lower ho4 (below_size hB)); have n1_ := Aside0.mk (wS hB hb); clear HB; have HO103 := n0_; have HB := n1_; clear n0_ n1_; clear hb ho4) | ((with_reducible refine gate_builtin (b := .append) (xs := #[.tmp 5, .tmp 6]) rfl ?_); at_builtin; refine Kd.R_append_rows (Kd.int .i64) (w0 := w) w.heap.size rfl (.tmp 5) (.tmp 6) 22 3 (.int .i64 0) 8 rfl Try.underlying22 info3 rfl (by decide) (by omega) v102 y101 l0 _ _ _ (fun _ => True) (fun _ => False) rfl rfl ?aO ?aR (fun _ _ h => h) (fun _ h => h.elim) ?aF ?aB ?aS ?aL ?_; (case aR => repeat (first | exact (cB HR0.out HB.out) | (with_reducible refine cA ?_ _) | (with_reducible refine cN ?_ _) | (with_reducible refine cD ?_))); (case aB => exact hB); (case aF => exact (fun _ _ => trivial)); (case aO => exact (by (with_reducible repeat (first | apply rA | apply rN | apply rD)); exact HO103.out)); (case aS => exact (below_size hB)); (case aL => have := LMc2.out; omega); intro v105 w5 ho hb hg hat; rw [← Ny104.out] at ho; have n0_ := Aside0.mk (hb); have n1_ := Aside0.mk (ho); clear HB; clear HO103; have HB := n0_; have HO106 := n1_; clear n0_ n1_; clear ho hb hg hat))
  go_ret
  exact ⟨_, by first | rfl | (simp [errW_none, errW_some] <;> rfl) | (simp [*, errW_none, errW_some] <;> rfl), by (with_reducible repeat (first | apply rA | apply rN | apply rD)); exact HO106.out, by repeat (first | (with_reducible first | exact HB.out | apply wA | apply wN | apply wD) | exact HB.out)⟩
 ·rw [if_neg c2] at H
  exact absurd H (by simp)
set_option maxHeartbeats 8000000 in
set_option maxRecDepth 100000 in
theorem slices_Clone_int_int.calls (A0 : Option Addr) (c0 : Nat) (l0 : List Int) (r : List Int) (w : World) (hr0 : Kd.C (Kd.int .i64) w A0 l0.length l0) (hc0 : l0.length ≤ c0) (h : slices_Clone_int_int.f l0 = some r) :
  Calls Try.prog 14 #[.slice A0 l0.length c0] w fun e w' => ∃ v0_ : Value, e = .returned (v0_) ∧ Kd.R (Kd.int .i64) 3 w' w.heap.size (fun _ => True) v0_ r ∧ Below w.heap.size w w' := by
 cases A0 with
 | some ad0 => exact slices_Clone_int_int.calls_some ad0 c0 l0 r w hr0 hc0 h
 | none =>
  obtain rfl : l0 = [] := Kd_C_none14 hr0
  obtain rfl : r = [] := by
   have h' := h
   simp [slices_Clone_int_int.f] at h'
   first | exact h'.symm | exact h'
  clear h hr0
  have hnil_ : ∀ w : World, (binOp .eql 22 (.slice none 0 c0) (.slice none 0 0)).run Try.prog w = .ok (.bool true) w := fun w => Lib.run_eql_slice_nil w 22 3 none _ _ _ _ Try.underlying22
  go_enter Try.func14, Try.ntmps14
  go_wp2
  go_ret
  exact ⟨_, rfl, Kd.R_nil _ _ _ _ _, Below.refl _ _⟩
end Go.Proofs.Ytmbnibonggbjgaa.X

namespace Go.Proofs.Ytmbnibonggbjgaa.X
open Go.RowKit Go.Proofs.YtmbnibonggbjgaaW.PrintWords Go.Proofs.YtmbnibonggbjgaaW.PrintLast Go.Proofs.YtmbnibonggbjgaaW.PrintMore
open Go.Proofs.YtmbnibonggbjgaaW.PrintWords renaming blk_drewN → bN, blk_drew → bD, blk_alloc → bA, below_alloc → wA, pw_below_drewN → wN, below_drew1 → wD, blk_below → bB, below_step → wS, blk_at → bT, blk_grown → bG
open Go.Proofs.YtmbnibonggbjgaaW.PrintWords.Kd renaming R_alloc → rA, R_drewN → rN, R_drew → rD, R_below → rB, R_grown → rG, C_below → cB, C_alloc → cA, C_drewN → cN, C_drew → cD
attribute [local go_sem] max2_int min2_int max_two min_two max_three min_three max_four min_four
set_option linter.unusedVariables false
set_option linter.unusedSimpArgs false
/-! ### scarfjointref05_kind: function 47 -/
def scarfjointref05_kind.f (a0 : Int) : Option (Bool) := if a0 ≥ 0 then (some (decide (a0 ≤ 99))) else (some false)
set_option maxHeartbeats 8000000 in
set_option maxRecDepth 100000 in
theorem scarfjointref05_kind.calls (a0 : Int) (r : Bool) (w : World) (h : scarfjointref05_kind.f a0 = some r) :
  Calls Try.prog 47 #[.int .i64 a0] w fun e w' => e = .returned (.bool r) ∧ Drawn0 w w' := by
 have H : (if a0 ≥ 0 then (some (decide (a0 ≤ 99))) else (some false)) = some r := h
 clear h
 by_cases c2 : a0 ≥ 0
 ·rw [if_pos c2] at H
  have c2b0 : decide (0 ≤ a0) = true := decide_eq_true c2
  clear c2
  obtain rfl := Option.some.inj H
  go_enter Try.func47, Try.ntmps47
  go_wp2
  go_ret
  exact ⟨by first | rfl | (simp; done) | (simp [*]; done), by repeat (first | exact Drawn0.refl _ | apply Drawn0.step)⟩
 ·rw [if_neg c2] at H
  have c2b0 : decide (0 ≤ a0) = false := decide_eq_false c2
  clear c2
  obtain rfl := Option.some.inj H
  go_enter Try.func47, Try.ntmps47
  go_wp2
  go_ret
  exact ⟨by first | rfl | (simp; done) | (simp [*]; done), by repeat (first | exact Drawn0.refl _ | apply Drawn0.step)⟩
end Go.Proofs.Ytmbnibonggbjgaa.X

namespace Go.Proofs.Ytmbnibonggbjgaa.X
open Go.RowKit Go.Proofs.YtmbnibonggbjgaaW.PrintWords Go.Proofs.YtmbnibonggbjgaaW.PrintLast Go.Proofs.YtmbnibonggbjgaaW.PrintMore
open Go.Proofs.YtmbnibonggbjgaaW.PrintWords renaming blk_drewN → bN, blk_drew → bD, blk_alloc → bA, below_alloc → wA, pw_below_drewN → wN, below_drew1 → wD, blk_below → bB, below_step → wS, blk_at → bT, blk_grown → bG
open Go.Proofs.YtmbnibonggbjgaaW.PrintWords.Kd renaming R_alloc → rA, R_drewN → rN, R_drew → rD, R_below → rB, R_grown → rG, C_below → cB, C_alloc → cA, C_drewN → cN, C_drew → cD
attribute [local go_sem] max2_int min2_int max_two min_two max_three min_three max_four min_four
set_option linter.unusedVariables false
set_option linter.unusedSimpArgs false
/-! ### scarfjointref05_right: function 53 -/
def scarfjointref05_right.f (a0_0 : Int) (a0_1 : Int) (a0_2 : Int) (a1 : Int) : Option (Bool) := (scarfjointref05_kind.f a0_0).bind fun t102 => (if t102 = true then (if a0_1 ≥ 0 then (if a0_1 < a1 then (if a0_2 ≥ 0 then (some (decide (a0_2 < a1))) else (some false)) else (some false)) else (some false)) else (some false))
set_option maxHeartbeats 8000000 in
set_option maxRecDepth 100000 in
theorem scarfjointref05_right.calls (a0_0 : Int) (a0_1 : Int) (a0_2 : Int) (a1 : Int) (r : Bool) (w : World) (h : scarfjointref05_right.f a0_0 a0_1 a0_2 a1 = some r) :
  Calls Try.prog 53 #[.agg #[.int .i64 a0_0, .int .i64 a0_1, .int .i64 a0_2], .int .i64 a1] w fun e w' => e = .returned (.bool r) ∧ Below w.heap.size w w' := by
 have hu38 := Try.underlying38
 have HB := Aside0.mk (Below.refl w.heap.size w)
 have H : ((scarfjointref05_kind.f a0_0).bind fun t102 => (if t102 = true then (if a0_1 ≥ 0 then (if a0_1 < a1 then (if a0_2 ≥ 0 then (some (decide (a0_2 < a1))) else (some false)) else (some false)) else (some false)) else (some false))) = some r := h
 clear h
 replace H := Option.bind_eq_some_iff.mp H
 obtain ⟨t102, A30, H⟩ := H
 replace H : (if t102 = true then (if a0_1 ≥ 0 then (if a0_1 < a1 then (if a0_2 ≥ 0 then (some (decide (a0_2 < a1))) else (some false)) else (some false)) else (some false)) else (some false)) = some r := H
 have A3 := Aside0.mk A30
 clear A30
 by_cases c4 : t102 = true
 ·subst c4
  have H1 : (if a0_1 ≥ 0 then (if a0_1 < a1 then (if a0_2 ≥ 0 then (some (decide (a0_2 < a1))) else (some false)) else (some false)) else (some false)) = some r := by rw [if_pos rfl] at H; exact H
  clear H
  have H := H1
  clear H1
  by_cases c5 : a0_1 ≥ 0
  ·rw [if_pos c5] at H
   have c5b0 : decide (0 ≤ a0_1) = true := decide_eq_true c5
   clear c5
   by_cases c6 : a0_1 < a1
   ·rw [if_pos c6] at H
    have c6b0 : decide (a0_1 < a1) = true := decide_eq_true c6
    clear c6
    by_cases c7 : a0_2 ≥ 0
    ·rw [if_pos c7] at H
     have c7b0 : decide (0 ≤ a0_2) = true := decide_eq_true c7
     clear c7
     obtain rfl := Option.some.inj H
     go_enter Try.func53, Try.ntmps53
     go_wp2_with (first | ((with_reducible refine gate_dst (N := 2) rfl ?_); refine box_event ?hg (N := 2) ?hd (cs := #[.int .i64 a0_0, .int .i64 a0_1, .int .i64 a0_2]) (t := 38) ?hr ?_; (case hd => rfl); (case hg => rfl); (case hr => first | (go_simp; done) | (go_simp; rfl)); intro gb101 hg w8 hbox hb; have n0_ := Aside0.mk (wS hB hb); have n1_ := Aside0.mk (hbox); have n2_ := Aside0.mk ((by rw [hg]; exact (below_size hB) : w.heap.size ≤ gb101)); have n3_ := Aside0.mk ((by rw [hg]; exact (below_size hB) : w.heap.size ≤ gb101)); clear HB; have HB := n0_; have BK101 := n1_; have GW101 := n2_; have GE101 := n3_; clear n0_ n1_ n2_ n3_; clear hb hbox hg; have hcz9_0 : w8.cell? ⟨gb101, 0, none⟩ = some (.int .i64 a0_0) := (blk_cell BK101.out 0).trans rfl; have hcz9_1 : w8.cell? ⟨gb101, 1, none⟩ = some (.int .i64 a0_1) := (blk_cell BK101.out 1).trans rfl; have hcz9_2 : w8.cell? ⟨gb101, 2, none⟩ = some (.int .i64 a0_2) := (blk_cell BK101.out 2).trans rfl; have hfz9_0 := blk_frozen BK101.out 0; have hfz9_1 := blk_frozen BK101.out 1; have hfz9_2 := blk_frozen BK101.out 2) | ((with_reducible refine gate_callee (f := 47) rfl ?_); refine goesL_ (some 7) rfl rfl Try.func47 (by kernel_rfl) rfl #[.int .i64 a0_0] rfl aM ?_; (with_reducible refine (scarfjointref05_kind.calls a0_0 true _ A3.out).mono ?_); rintro e w' ⟨rfl, ⟨nd, rfl⟩⟩; refine ⟨_, rfl, ?_⟩))
     go_ret
     exact ⟨by first | rfl | (simp [errW_none, errW_some] <;> rfl) | (simp [*, errW_none, errW_some] <;> rfl), by repeat (first | (with_reducible first | exact HB.out | apply wA | apply wN | apply wD | refine below_set ?_ GE101.out) | exact HB.out)⟩
    ·rw [if_neg c7] at H
     have c7b0 : decide (0 ≤ a0_2) = false := decide_eq_false c7
     clear c7
     obtain rfl := Option.some.inj H
     go_enter Try.func53, Try.ntmps53
     go_wp2_with (first | ((with_reducible refine gate_dst (N := 2) rfl ?_); refine box_event ?hg (N := 2) ?hd (cs := #[.int .i64 a0_0, .int .i64 a0_1, .int .i64 a0_2]) (t := 38) ?hr ?_; (case hd => rfl); (case hg => rfl); (case hr => first | (go_simp; done) | (go_simp; rfl)); intro gb101 hg w10 hbox hb; have n0_ := Aside0.mk (wS hB hb); have n1_ := Aside0.mk (hbox); have n2_ := Aside0.mk ((by rw [hg]; exact (below_size hB) : w.heap.size ≤ gb101)); have n3_ := Aside0.mk ((by rw [hg]; exact (below_size hB) : w.heap.size ≤ gb101)); clear HB; have HB := n0_; have BK101 := n1_; have GW101 := n2_; have GE101 := n3_; clear n0_ n1_ n2_ n3_; clear hb hbox hg; have hcz11_0 : w10.cell? ⟨gb101, 0, none⟩ = some (.int .i64 a0_0) := (blk_cell BK101.out 0).trans rfl; have hcz11_1 : w10.cell? ⟨gb101, 1, none⟩ = some (.int .i64 a0_1) := (blk_cell BK101.out 1).trans rfl; have hcz11_2 : w10.cell? ⟨gb101, 2, none⟩ = some (.int .i64 a0_2) := (blk_cell BK101.out 2).trans rfl; have hfz11_0 := blk_frozen BK101.out 0; have hfz11_1 := blk_frozen BK101.out 1; have hfz11_2 := blk_frozen BK101.out 2) | ((with_reducible refine gate_callee (f := 47) rfl ?_); refine goesL_ (some 7) rfl rfl Try.func47 (by kernel_rfl) rfl #[.int .i64 a0_0] rfl aM ?_; (with_reducible refine (scarfjointref05_kind.calls a0_0 true _ A3.out).mono ?_); rintro e w' ⟨rfl, ⟨nd, rfl⟩⟩; refine ⟨_, rfl, ?_⟩))
     go_ret
     exact ⟨by first | rfl | (simp [errW_none, errW_some] <;> rfl) | (simp [*, errW_none, errW_some] <;> rfl), by repeat (first | (with_reducible first | exact HB.out | apply wA | apply wN | apply wD | refine below_set ?_ GE101.out) | exact HB.out)⟩
   ·rw [if_neg c6] at H
    have c6b0 : decide (a0_1 < a1) = false := decide_eq_false c6
    clear c6
    obtain rfl := Option.some.inj H
    go_enter Try.func53, Try.ntmps53
    go_wp2_with (first | ((with_reducible refine gate_dst (N := 2) rfl ?_); refine box_event ?hg (N := 2) ?hd (cs := #[.int .i64 a0_0, .int .i64 a0_1, .int .i64 a0_2]) (t := 38) ?hr ?_; (case hd => rfl); (case hg => rfl); (case hr => first | (go_simp; done) | (go_simp; rfl)); intro gb101 hg w12 hbox hb; have n0_ := Aside0.mk (wS hB hb); have n1_ := Aside0.mk (hbox); have n2_ := Aside0.mk ((by rw [hg]; exact (below_size hB) : w.heap.size ≤ gb101)); have n3_ := Aside0.mk ((by rw [hg]; exact (below_size hB) : w.heap.size ≤ gb101)); clear HB; have HB := n0_; have BK101 := n1_; have GW101 := n2_; have GE101 := n3_; clear n0_ n1_ n2_ n3_; clear hb hbox hg; have hcz13_0 : w12.cell? ⟨gb101, 0, none⟩ = some (.int .i64 a0_0) := (blk_cell BK101.out 0).trans rfl; have hcz13_1 : w12.cell? ⟨gb101, 1, none⟩ = some (.int .i64 a0_1) := (blk_cell BK101.out 1).trans rfl; have hcz13_2 : w12.cell? ⟨gb101, 2, none⟩ = some (.int .i64 a0_2) := (blk_cell BK101.out 2).trans rfl; have hfz13_0 := blk_frozen BK101.out 0; have hfz13_1 := blk_frozen BK101.out 1; have hfz13_2 := blk_frozen BK101.out 2) | ((with_reducible refine gate_callee (f := 47) rfl ?_); refine goesL_ (some 7) rfl rfl Try.func47 (by kernel_rfl) rfl #[.int .i64 a0_0] rfl aM ?_; (with_reducible refine (scarfjointref05_kind.calls a0_0 true _ A3.out).mono ?_); rintro e w' ⟨rfl, ⟨nd, rfl⟩⟩; refine ⟨_, rfl, ?_⟩))
    go_ret
    exact ⟨by first | rfl | (simp [errW_none, errW_some] <;> rfl) | (simp [*, errW_none, errW_some] <;> rfl), by repeat (first | (with_reducible first | exact HB.out | apply wA | apply wN | apply wD | refine below_set ?_ GE101.out) | exact HB.out)⟩
  ·rw [if_neg c5] at H
   have c5b0 : decide (0 ≤ a0_1) = false := decide_eq_false c5
   clear c5
   obtain rfl := Option.some.inj H
   go_enter Try.func53, Try.ntmps53
   go_wp2_with (first | ((with_reducible refine gate_dst (N := 2) rfl ?_); refine box_event ?hg (N := 2) ?hd (cs := #[.int .i64 a0_0, .int .i64 a0_1, .int .i64 a0_2]) (t := 38) ?hr ?_; (case hd => rfl); (case hg => rfl); (case hr => first | (go_simp; done) | (go_simp; rfl)); intro gb101 hg w14 hbox hb; have n0_ := Aside0.mk (wS hB hb); have n1_ := Aside0.mk (hbox); have n2_ := Aside0.mk ((by rw [hg]; exact (below_size hB) : w.heap.size ≤ gb101)); have n3_ := Aside0.mk ((by rw [hg]; exact (below_size hB) : w.heap.size ≤ gb101)); clear HB; have HB := n0_; have BK101 := n1_; have GW101 := n2_; have GE101 := n3_; clear n0_ n1_ n2_ n3_; clear hb hbox hg; have hcz15_0 : w14.cell? ⟨gb101, 0, none⟩ = some (.int .i64 a0_0) := (blk_cell BK101.out 0).trans rfl; have hcz15_1 : w14.cell? ⟨gb101, 1, none⟩ = some (.int .i64 a0_1) := (blk_cell BK101.out 1).trans rfl; have hcz15_2 : w14.cell? ⟨gb101, 2, none⟩ = some (.int .i64 a0_2) := (blk_cell BK101.out 2).trans rfl; have hfz15_0 := blk_frozen BK101.out 0; have hfz15_1 := blk_frozen BK101.out 1; have hfz15_2 := blk_frozen BK101.out 2) | ((with_reducible refine gate_callee (f := 47) rfl ?_); refine goesL_ (some 7) rfl rfl Try.func47 (by kernel_rfl) rfl #[.int .i64 a0_0] rfl aM ?_; (with_reducible refine (scarfjointref05_kind.calls a0_0 true _ A3.out).mono ?_); rintro e w' ⟨rfl, ⟨nd, rfl⟩⟩; refine ⟨_, rfl, ?_⟩))
   go_ret
   exact ⟨by first | rfl | (simp [errW_none, errW_some] <;> rfl) | (simp [*, errW_none, errW_some] <;> rfl), by repeat (first | (with_reducible first | exact HB.out | apply wA | apply wN | apply wD | refine below_set ?_ GE101.out) | exact HB.out)⟩
 ·replace c4 := Bool.eq_false_iff.mpr c4
  subst c4
  have H1 : (some false) = some r := by rw [if_neg (show ¬ (false = true) by decide)] at H; exact H
  clear H
  have H := H1
  clear H1
  obtain rfl := Option.some.inj H
  go_enter Try.func53, Try.ntmps53
  go_wp2_with (first | ((with_reducible refine gate_dst (N := 2) rfl ?_); refine box_event ?hg (N := 2) ?hd (cs := #[.int .i64 a0_0, .int .i64 a0_1, .int .i64 a0_2]) (t := 38) ?hr ?_; (case hd => rfl); (case hg => rfl); (case hr => first | (go_simp; done) | (go_simp; rfl)); intro gb101 hg w16 hbox hb; have n0_ := Aside0.mk (wS hB hb); have n1_ := Aside0.mk (hbox); have n2_ := Aside0.mk ((by rw [hg]; exact (below_size hB) : w.heap.size ≤ gb101)); have n3_ := Aside0.mk ((by rw [hg]; exact (below_size hB) : w.heap.size ≤ gb101)); clear HB; have HB := n0_; have BK101 := n1_; have GW101 := n2_; have GE101 := n3_; clear n0_ n1_ n2_ n3_; clear hb hbox hg; have hcz17_0 : w16.cell? ⟨gb101, 0, none⟩ = some (.int .i64 a0_0) := (blk_cell BK101.out 0).trans rfl; have hcz17_1 : w16.cell? ⟨gb101, 1, none⟩ = some (.int .i64 a0_1) := (blk_cell BK101.out 1).trans rfl; have hcz17_2 : w16.cell? ⟨gb101, 2, none⟩ = some (.int .i64 a0_2) := (blk_cell BK101.out 2).trans rfl; have hfz17_0 := blk_frozen BK101.out 0; have hfz17_1 := blk_frozen BK101.out 1; have hfz17_2 := blk_frozen BK101.out 2) | ((with_reducible refine gate_callee (f := 47) rfl ?_); refine goesL_ (some 7) rfl rfl Try.func47 (by kernel_rfl) rfl #[.int .i64 a0_0] rfl aM ?_; (with_reducible refine (scarfjointref05_kind.calls a0_0 false _ A3.out).mono ?_); rintro e w' ⟨rfl, ⟨nd, rfl⟩⟩; refine ⟨_, rfl, ?_⟩))
  go_ret
  exact ⟨by first | rfl | (simp [errW_none, errW_some] <;> rfl) | (simp [*, errW_none, errW_some] <;> rfl), by repeat (first | (with_reducible first | exact HB.out | apply wA | apply wN | apply wD | refine below_set ?_ GE101.out) | exact HB.out)⟩
end Go.Proofs.Ytmbnibonggbjgaa.X

namespace Go.Proofs.Ytmbnibonggbjgaa.X
open Go.RowKit Go.Proofs.YtmbnibonggbjgaaW.PrintWords Go.Proofs.YtmbnibonggbjgaaW.PrintLast Go.Proofs.YtmbnibonggbjgaaW.PrintMore
open Go.Proofs.YtmbnibonggbjgaaW.PrintWords renaming blk_drewN → bN, blk_drew → bD, blk_alloc → bA, below_alloc → wA, pw_below_drewN → wN, below_drew1 → wD, blk_below → bB, below_step → wS, blk_at → bT, blk_grown → bG
open Go.Proofs.YtmbnibonggbjgaaW.PrintWords.Kd renaming R_alloc → rA, R_drewN → rN, R_drew → rD, R_below → rB, R_grown → rG, C_below → cB, C_alloc → cA, C_drewN → cN, C_drew → cD
attribute [local go_sem] max2_int min2_int max_two min_two max_three min_three max_four min_four
set_option linter.unusedVariables false
set_option linter.unusedSimpArgs false
/-! ### scarfjointref05_Valid: function 27 -/
mutual
def scarfjointref05_Valid.j0 : Nat → Bool → List Int → List (S38) → Option (Int)
 | 0, _, _, _ => none
 | k + 1, x14, x102000, x102001 => if x14 = true then (some 3) else (scarfjointref05_Valid.l0 k 0 x102000 x102001)
def scarfjointref05_Valid.l0 : Nat → Int → List Int → List (S38) → Option (Int)
 | 0, _, _, _ => none
 | k + 1, x3, x102000, x102001 => if x3 < (x102000.length : Int) then (if 0 ≤ x3 then ((scarfjointref05_kind.f (rd x102000 x3)).bind fun t103 => (if t103 = true then (scarfjointref05_Valid.l0 k (wrap64 (x3 + 1)) x102000 x102001) else (some 6))) else (none)) else (scarfjointref05_Valid.l1 k 0 x102000 x102001)
def scarfjointref05_Valid.l1 : Nat → Int → List Int → List (S38) → Option (Int)
 | 0, _, _, _ => none
 | k + 1, x4, x102000, x102001 => if x4 < (x102001.length : Int) then (if 0 ≤ x4 then ((scarfjointref05_right.f ((rd_T38 x102001 x4).f0) ((rd_T38 x102001 x4).f1) ((rd_T38 x102001 x4).f2) (x102000.length : Int)).bind fun t105 => (if t105 = true then (scarfjointref05_Valid.l1 k (wrap64 (x4 + 1)) x102000 x102001) else (some 6))) else (none)) else (some 0)
end
def scarfjointref05_Valid.f (k : Nat) (l0_0 : List Int) (l0_1 : List (S38)) : Option (Int) := if (l0_0.length : Int) > 40 then (scarfjointref05_Valid.j0 k true l0_0 l0_1) else (scarfjointref05_Valid.j0 k (decide ((l0_1.length : Int) > 80)) l0_0 l0_1)
theorem scarfjointref05_Valid.mono_l : ∀ k, (∀ y0 y1 y2, LeO (scarfjointref05_Valid.j0 k y0 y1 y2) (scarfjointref05_Valid.j0 (k + 1) y0 y1 y2)) ∧ (∀ y0 y1 y2, LeO (scarfjointref05_Valid.l0 k y0 y1 y2) (scarfjointref05_Valid.l0 (k + 1) y0 y1 y2)) ∧ (∀ y0 y1 y2, LeO (scarfjointref05_Valid.l1 k y0 y1 y2) (scarfjointref05_Valid.l1 (k + 1) y0 y1 y2))
 | 0 => ⟨fun _ _ _ r h => by simp [scarfjointref05_Valid.j0] at h, fun _ _ _ r h => by simp [scarfjointref05_Valid.l0] at h, fun _ _ _ r h => by simp [scarfjointref05_Valid.l1] at h⟩
 | k + 1 => by
  obtain ⟨ih0, ih1, ih2⟩ := scarfjointref05_Valid.mono_l k
  refine ⟨?_, ?_, ?_⟩
  ·intro y0 y1 y2
   unfold scarfjointref05_Valid.j0
   repeat' first
   | (with_reducible exact ih0 _ _ _)
   | (with_reducible exact ih1 _ _ _)
   | (with_reducible exact ih2 _ _ _)
   | (with_reducible exact LeO.refl _)
   | (with_reducible exact LeO.none _)
   | (with_reducible refine LeO.ite ?_ ?_)
   | (with_reducible refine LeO.bind ?_ (fun _ => ?_))
   | exact ih0 _ _ _
   | exact ih1 _ _ _
   | exact ih2 _ _ _
   | exact LeO.none _
   | refine LeO.ite ?_ ?_
   | refine LeO.bind ?_ (fun _ => ?_)
  ·intro y0 y1 y2
   unfold scarfjointref05_Valid.l0
   repeat' first
   | (with_reducible exact ih0 _ _ _)
   | (with_reducible exact ih1 _ _ _)
   | (with_reducible exact ih2 _ _ _)
   | (with_reducible exact LeO.refl _)
   | (with_reducible exact LeO.none _)
   | (with_reducible refine LeO.ite ?_ ?_)
   | (with_reducible refine LeO.bind ?_ (fun _ => ?_))
   | exact ih0 _ _ _
   | exact ih1 _ _ _
   | exact ih2 _ _ _
   | exact LeO.none _
   | refine LeO.ite ?_ ?_
   | refine LeO.bind ?_ (fun _ => ?_)
  ·intro y0 y1 y2
   unfold scarfjointref05_Valid.l1
   repeat' first
   | (with_reducible exact ih0 _ _ _)
   | (with_reducible exact ih1 _ _ _)
   | (with_reducible exact ih2 _ _ _)
   | (with_reducible exact LeO.refl _)
   | (with_reducible exact LeO.none _)
   | (with_reducible refine LeO.ite ?_ ?_)
   | (with_reducible refine LeO.bind ?_ (fun _ => ?_))
   | exact ih0 _ _ _
   | exact ih1 _ _ _
   | exact ih2 _ _ _
   | exact LeO.none _
   | refine LeO.ite ?_ ?_
   | refine LeO.bind ?_ (fun _ => ?_)
theorem scarfjointref05_Valid.mono : ∀ a0 a1 k, LeO (scarfjointref05_Valid.f k a0 a1) (scarfjointref05_Valid.f (k + 1) a0 a1) := by
 intro a0 a1 k
 obtain ⟨ih0, ih1, ih2⟩ := scarfjointref05_Valid.mono_l k
 unfold scarfjointref05_Valid.f
 repeat' first
   | (with_reducible exact ih0 _ _ _)
   | (with_reducible exact ih1 _ _ _)
   | (with_reducible exact ih2 _ _ _)
   | (with_reducible exact LeO.refl _)
   | (with_reducible exact LeO.none _)
   | (with_reducible refine LeO.ite ?_ ?_)
   | (with_reducible refine LeO.bind ?_ (fun _ => ?_))
   | exact ih0 _ _ _
   | exact ih1 _ _ _
   | exact ih2 _ _ _
   | exact LeO.none _
   | refine LeO.ite ?_ ?_
   | refine LeO.bind ?_ (fun _ => ?_)
def scarfjointref05_Valid.T11 : Bool × List (List Nat × List Nat) := (true, [([], []), ([0], [0]), ([], []), ([1, 2], [1, 2]), ([3], [3]), ([], []), ([5], [5]), ([6], [6]), ([4, 7], [4, 7]), ([8], [8])])
def scarfjointref05_Valid.B11 : List Nat := [0, 1, 0, 7, 15, 0, 32, 96, 255, 511]
theorem scarfjointref05_Valid.tab11 : rtab .any (opsOf Try.f27 11) = scarfjointref05_Valid.T11 := by kernel_rfl
theorem scarfjointref05_Valid.bits11 : waitsOk scarfjointref05_Valid.T11.2 scarfjointref05_Valid.B11 = true := by kernel_rfl
set_option maxHeartbeats 8000000 in
set_option maxRecDepth 100000 in
theorem scarfjointref05_Valid.calls (k : Nat) (A0_0 : Option Addr) (c0_0 : Nat) (l0_0 : List Int) (A0_1 : Option Addr) (c0_1 : Nat) (l0_1 : List (S38)) (r : Int) (w : World) (hr0_0 : Kd.C (Kd.int .i64) w A0_0 l0_0.length l0_0) (hc0_0 : l0_0.length ≤ c0_0) (hr0_1 : Kd.C k38 w A0_1 l0_1.length l0_1) (hc0_1 : l0_1.length ≤ c0_1) (h : scarfjointref05_Valid.f k l0_0 l0_1 = some r) :
  Calls Try.prog 27 #[.agg #[.slice A0_0 l0_0.length c0_0, .slice A0_1 l0_1.length c0_1]] w fun e w' => e = .returned (.int .i64 r) ∧ Below w.heap.size w w' := by
 have hu25 := Try.underlying25
 have hu38 := Try.underlying38
 have HR0_0 := Aside0.mk hr0_0
 have HC0_0 := Aside0.mk hc0_0
 clear hr0_0 hc0_0
 have HR0_1 := Aside0.mk hr0_1
 have HC0_1 := Aside0.mk hc0_1
 clear hr0_1 hc0_1
 have HB := Aside0.mk (Below.refl w.heap.size w)
 have H : (if (l0_0.length : Int) > 40 then (scarfjointref05_Valid.j0 k true l0_0 l0_1) else (scarfjointref05_Valid.j0 k (decide ((l0_1.length : Int) > 80)) l0_0 l0_1)) = some r := h
 clear h
 have HC2 := Aside0.mk H
 clear H
 go_enter Try.func27, Try.ntmps27
 go_upto_region 1 with (first | ((with_reducible refine gate_dst (N := 1) rfl ?_); (try (refine gate_guard (by rfl) ?_; dsimp only)); refine box_event ?hg (N := 1) ?hd (cs := #[.slice A0_0 l0_0.length c0_0, .slice A0_1 l0_1.length c0_1]) (t := 25) ?hr ?_; (case hd => rfl); (case hg => rfl); (case hr => first | (go_simp; done) | (go_simp; rfl)); intro gb101 hg w3 hbox hb; have n0_ := Aside0.mk (wS hB hb); have n1_ := Aside0.mk (hbox); have n2_ := Aside0.mk ((by rw [hg]; exact (below_size hB) : w.heap.size ≤ gb101)); have n3_ := Aside0.mk ((by rw [hg]; exact (below_size hB) : w.heap.size ≤ gb101)); clear HB; have HB := n0_; have BK101 := n1_; have GW101 := n2_; have GE101 := n3_; clear n0_ n1_ n2_ n3_; clear hb hbox hg))
 (try simp only [Act.put, List.setIfInBounds_toArray, List.set_cons_zero, List.set_cons_succ])
 go_cut [14] (fun v14 wc => ∃ (kq : Nat) (x14_1 : Bool), v14 = .bool x14_1 ∧ Aside0 (scarfjointref05_Valid.j0 kq x14_1 l0_0 l0_1 = some r) ∧ Aside0 (kq ≤ k) ∧ Aside0 (wc.heap[gb101]? = some (.cells #[(.slice A0_0 l0_0.length c0_0), (.slice A0_1 l0_1.length c0_1)] 25 (0, 0))) ∧ Aside0 (Below w.heap.size w wc))
 case first =>
  have H := HC2.out
  clear HC2
  by_cases c4 : (l0_0.length : Int) > 40
  ·rw [if_pos c4] at H
   have c4b0 : decide (40 < (l0_0.length : Int)) = true := decide_eq_true c4
   have c4b1 : decide (40 < l0_0.length) = true := decide_eq_true (by omega)
   clear c4
   (first | rw [c4b0] | (simp only [i64_w, i32_w]; rw [c4b0]) | skip)
   have H' := Aside0.mk H
   clear H
   have hcz5_0 : w3.cell? ⟨gb101, 0, none⟩ = some (.slice A0_0 l0_0.length c0_0) := (blk_cell BK101.out 0).trans rfl
   have hcz5_1 : w3.cell? ⟨gb101, 1, none⟩ = some (.slice A0_1 l0_1.length c0_1) := (blk_cell BK101.out 1).trans rfl
   have hfz5_0 := blk_frozen BK101.out 0
   have hfz5_1 := blk_frozen BK101.out 1
   go_wp2
   go_meet
   case rel => exact ⟨_, (true), rS, H', ⟨by first | omega | exact Nat.le_refl _⟩, ⟨by (with_reducible repeat (first | refine bN ?_ _ | refine bD ?_ | refine bA ?_ _)); exact BK101.out⟩, ⟨by repeat (first | (with_reducible first | exact HB.out | apply wA | apply wN | apply wD | refine below_set ?_ GE101.out) | exact HB.out)⟩⟩
  ·rw [if_neg c4] at H
   have c4b0 : decide (40 < (l0_0.length : Int)) = false := decide_eq_false c4
   have c4b1 : decide (40 < l0_0.length) = false := decide_eq_false (by omega)
   clear c4
   (first | rw [c4b0] | (simp only [i64_w, i32_w]; rw [c4b0]) | skip)
   have H' := Aside0.mk H
   clear H
   have hcz6_0 : w3.cell? ⟨gb101, 0, none⟩ = some (.slice A0_0 l0_0.length c0_0) := (blk_cell BK101.out 0).trans rfl
   have hcz6_1 : w3.cell? ⟨gb101, 1, none⟩ = some (.slice A0_1 l0_1.length c0_1) := (blk_cell BK101.out 1).trans rfl
   have hfz6_0 := blk_frozen BK101.out 0
   have hfz6_1 := blk_frozen BK101.out 1
   go_wp2
   go_meet
   case rel => exact ⟨_, (decide ((l0_1.length : Int) > 80)), rS, H', ⟨by first | omega | exact Nat.le_refl _⟩, ⟨by (with_reducible repeat (first | refine bN ?_ _ | refine bD ?_ | refine bA ?_ _)); exact BK101.out⟩, ⟨by repeat (first | (with_reducible first | exact HB.out | apply wA | apply wN | apply wD | refine below_set ?_ GE101.out) | exact HB.out)⟩⟩
 case rest =>
  clear HC2
  try clear c2
  try clear p2
  try clear c4
  try clear c4b0
  try clear c4b1
  try clear hcz5_0
  try clear hcz5_1
  try clear hcz6_0
  try clear hcz6_1
  try clear hfz5_0
  try clear hfz5_1
  try clear hfz6_0
  try clear hfz6_1
  obtain ⟨kq, x14_1, rfl, HA, HJ1, BK101, HB⟩ := hcut
  cases kq with
  | zero => exact absurd HA.out (by simp [scarfjointref05_Valid.j0])
  | succ kj1 =>
   have H := HA.out
   clear HA
   simp only [scarfjointref05_Valid.j0] at H
   by_cases c7 : x14_1 = true
   ·subst c7
    have H1 : (some 3) = some r := by rw [if_pos rfl] at H; exact H
    clear H
    have H := H1
    clear H1
    obtain rfl := Option.some.inj H
    go_wp2
    go_ret
    exact ⟨by first | rfl | (simp [errW_none, errW_some] <;> rfl) | (simp [*, errW_none, errW_some] <;> rfl), by repeat (first | (with_reducible first | exact HB.out | apply wA | apply wN | apply wD | refine below_set ?_ GE101.out) | exact HB.out)⟩
   ·replace c7 := Bool.eq_false_iff.mpr c7
    subst c7
    have H1 : (scarfjointref05_Valid.l0 kj1 0 l0_0 l0_1) = some r := by rw [if_neg (show ¬ (false = true) by decide)] at H; exact H
    clear H
    have H := H1
    clear H1
    have H' := Aside0.mk H
    clear H
    go_wp2
    go_loopg [3] kj1 (fun kq v3 w' => ∃ (x3_2 : Int), v3 = .int .i64 x3_2 ∧ Aside0 (scarfjointref05_Valid.l0 kq x3_2 l0_0 l0_1 = some r) ∧ Aside0 (kq ≤ kj1) ∧ Aside0 (w'.heap[gb101]? = some (.cells #[(.slice A0_0 l0_0.length c0_0), (.slice A0_1 l0_1.length c0_1)] 25 (0, 0))) ∧ Aside0 (Below w.heap.size w w'))
    case atStart => exact ⟨(0), rS, H', ⟨Nat.le_refl _⟩, ⟨by (with_reducible repeat (first | refine bN ?_ _ | refine bD ?_ | refine bA ?_ _)); exact BK101.out⟩, ⟨by repeat (first | (with_reducible first | exact HB.out | apply wA | apply wN | apply wD | refine below_set ?_ GE101.out) | exact HB.out)⟩⟩
    case round =>
     clear H'
     try clear c2
     try clear p2
     try clear c4
     try clear c4b0
     try clear c4b1
     try clear c7
     try clear hcz5_0
     try clear hcz5_1
     try clear hcz6_0
     try clear hcz6_1
     try clear hfz5_0
     try clear hfz5_1
     try clear hfz6_0
     try clear hfz6_1
     try clear p2
     obtain ⟨x3_2, rfl, HA, HK2, BK101, HB⟩ := hrel
     cases gk with
     | zero => exact absurd HA.out (by simp [scarfjointref05_Valid.l0])
     | succ k2 =>
      have H := HA.out
      clear HA
      simp only [scarfjointref05_Valid.l0] at H
      by_cases c8 : x3_2 < (l0_0.length : Int)
      ·rw [if_pos c8] at H
       have c8b0 : decide (x3_2 < (l0_0.length : Int)) = true := decide_eq_true c8
       clear c8
       by_cases c9 : 0 ≤ x3_2
       ·rw [if_pos c9] at H
        have c9b0 : decide (0 ≤ x3_2) = true := decide_eq_true c9
        clear c9
        replace H := Option.bind_eq_some_iff.mp H
        obtain ⟨t103, A100, H⟩ := H
        replace H : (if t103 = true then (scarfjointref05_Valid.l0 k2 (wrap64 (x3_2 + 1)) l0_0 l0_1) else (some 6)) = some r := H
        have A10 := Aside0.mk A100
        clear A100
        by_cases c11 : t103 = true
        ·subst c11
         have H1 : (scarfjointref05_Valid.l0 k2 (wrap64 (x3_2 + 1)) l0_0 l0_1) = some r := by rw [if_pos rfl] at H; exact H
         clear H
         have H := H1
         clear H1
         have H' := Aside0.mk H
         clear H
         have hcz12_0 : wr.cell? ⟨gb101, 0, none⟩ = some (.slice A0_0 l0_0.length c0_0) := (blk_cell BK101.out 0).trans rfl
         have hcz12_1 : wr.cell? ⟨gb101, 1, none⟩ = some (.slice A0_1 l0_1.length c0_1) := (blk_cell BK101.out 1).trans rfl
         have hfz12_0 := blk_frozen BK101.out 0
         have hfz12_1 := blk_frozen BK101.out 1
         have p102 : 0 ≤ (x3_2 : Int) := oT
         have q102 : x3_2 < (l0_0.length : Int) := oT
         obtain ⟨ad102, e102, hx102_0⟩ := Kd.at_int HR0_0.out x3_2 p102 q102
         cases e102
         replace hx102_0 := (HB.out.cell (World.block_lt_of_cell? w _ hx102_0)).trans hx102_0
         replace p102 := eq_true p102
         replace q102 := eq_true q102
         go_wp2_with (first | ((with_reducible refine gate_callee (f := 47) rfl ?_); refine goesL_ (some 27) rfl rfl Try.func47 (by kernel_rfl) rfl #[.int .i64 (rd l0_0 x3_2)] rfl aM ?_; (with_reducible refine (scarfjointref05_kind.calls (rd l0_0 x3_2) true _ A10.out).mono ?_); rintro e w' ⟨rfl, ⟨nd, rfl⟩⟩; refine ⟨_, rfl, ?_⟩))
         go_roundg k2
         case measure => have := HJ1.out; have := HK2.out; omega
         case rel => exact ⟨(wrap64 (x3_2 + 1)), rS, H', ⟨by have := HJ1.out; have := HK2.out; omega⟩, ⟨by (with_reducible repeat (first | refine bN ?_ _ | refine bD ?_ | refine bA ?_ _)); exact BK101.out⟩, ⟨by repeat (first | (with_reducible first | exact HB.out | apply wA | apply wN | apply wD | refine below_set ?_ GE101.out) | exact HB.out)⟩⟩
        ·replace c11 := Bool.eq_false_iff.mpr c11
         subst c11
         have H1 : (some 6) = some r := by rw [if_neg (show ¬ (false = true) by decide)] at H; exact H
         clear H
         have H := H1
         clear H1
         obtain rfl := Option.some.inj H
         have hcz13_0 : wr.cell? ⟨gb101, 0, none⟩ = some (.slice A0_0 l0_0.length c0_0) := (blk_cell BK101.out 0).trans rfl
         have hcz13_1 : wr.cell? ⟨gb101, 1, none⟩ = some (.slice A0_1 l0_1.length c0_1) := (blk_cell BK101.out 1).trans rfl
         have hfz13_0 := blk_frozen BK101.out 0
         have hfz13_1 := blk_frozen BK101.out 1
         have p102 : 0 ≤ (x3_2 : Int) := oT
         have q102 : x3_2 < (l0_0.length : Int) := oT
         obtain ⟨ad102, e102, hx102_0⟩ := Kd.at_int HR0_0.out x3_2 p102 q102
         cases e102
         replace hx102_0 := (HB.out.cell (World.block_lt_of_cell? w _ hx102_0)).trans hx102_0
         replace p102 := eq_true p102
         replace q102 := eq_true q102
         go_wp2_with (first | ((with_reducible refine gate_callee (f := 47) rfl ?_); refine goesL_ (some 27) rfl rfl Try.func47 (by kernel_rfl) rfl #[.int .i64 (rd l0_0 x3_2)] rfl aM ?_; (with_reducible refine (scarfjointref05_kind.calls (rd l0_0 x3_2) false _ A10.out).mono ?_); rintro e w' ⟨rfl, ⟨nd, rfl⟩⟩; refine ⟨_, rfl, ?_⟩))
         go_ret
         exact ⟨by first | rfl | (simp [errW_none, errW_some] <;> rfl) | (simp [*, errW_none, errW_some] <;> rfl), by repeat (first | (with_reducible first | exact HB.out | apply wA | apply wN | apply wD | refine below_set ?_ GE101.out) | exact HB.out)⟩
       ·rw [if_neg c9] at H
        exact absurd H (by simp)
      ·rw [if_neg c8] at H
       have c8b0 : decide (x3_2 < (l0_0.length : Int)) = false := decide_eq_false c8
       clear c8
       have H' := Aside0.mk H
       clear H
       have hcz14_0 : wr.cell? ⟨gb101, 0, none⟩ = some (.slice A0_0 l0_0.length c0_0) := (blk_cell BK101.out 0).trans rfl
       have hcz14_1 : wr.cell? ⟨gb101, 1, none⟩ = some (.slice A0_1 l0_1.length c0_1) := (blk_cell BK101.out 1).trans rfl
       have hfz14_0 := blk_frozen BK101.out 0
       have hfz14_1 := blk_frozen BK101.out 1
       go_wp2
       go_loopg [4] k2 (fun kq v4 w' => ∃ (x4_3 : Int), v4 = .int .i64 x4_3 ∧ Aside0 (scarfjointref05_Valid.l1 kq x4_3 l0_0 l0_1 = some r) ∧ Aside0 (kq ≤ k2) ∧ Aside0 (w'.heap[gb101]? = some (.cells #[(.slice A0_0 l0_0.length c0_0), (.slice A0_1 l0_1.length c0_1)] 25 (0, 0))) ∧ Aside0 (Below w.heap.size w w'))
       case atStart => exact ⟨(0), rS, H', ⟨Nat.le_refl _⟩, ⟨by (with_reducible repeat (first | refine bN ?_ _ | refine bD ?_ | refine bA ?_ _)); exact BK101.out⟩, ⟨by repeat (first | (with_reducible first | exact HB.out | apply wA | apply wN | apply wD | refine below_set ?_ GE101.out) | exact HB.out)⟩⟩
       case round =>
        clear H'
        try clear c1
        try clear c2
        try clear p2
        try clear q2
        try clear hx2
        try clear c4
        try clear c4b0
        try clear c4b1
        try clear p6
        try clear c7
        try clear c8
        try clear c8b0
        try clear c9
        try clear c9b0
        try clear c11
        try clear hcz12_0
        try clear hcz12_1
        try clear hcz13_0
        try clear hcz13_1
        try clear hcz14_0
        try clear hcz14_1
        try clear hcz5_0
        try clear hcz5_1
        try clear hcz6_0
        try clear hcz6_1
        try clear hfz12_0
        try clear hfz12_1
        try clear hfz13_0
        try clear hfz13_1
        try clear hfz14_0
        try clear hfz14_1
        try clear hfz5_0
        try clear hfz5_1
        try clear hfz6_0
        try clear hfz6_1
        try clear hx102_0
        try clear p2
        try clear p102
        try clear q102
        obtain ⟨x4_3, rfl, HA, HK3, BK101, HB⟩ := hrel
        cases gk with
        | zero => exact absurd HA.out (by simp [scarfjointref05_Valid.l1])
        | succ k3 =>
         have H := HA.out
         clear HA
         simp only [scarfjointref05_Valid.l1] at H
         by_cases c15 : x4_3 < (l0_1.length : Int)
         ·rw [if_pos c15] at H
          have c15b0 : decide (x4_3 < (l0_1.length : Int)) = true := decide_eq_true c15
          clear c15
          by_cases c16 : 0 ≤ x4_3
          ·rw [if_pos c16] at H
           have c16b0 : decide (0 ≤ x4_3) = true := decide_eq_true c16
           clear c16
           replace H := Option.bind_eq_some_iff.mp H
           obtain ⟨t105, A170, H⟩ := H
           replace H : (if t105 = true then (scarfjointref05_Valid.l1 k3 (wrap64 (x4_3 + 1)) l0_0 l0_1) else (some 6)) = some r := H
           have A17 := Aside0.mk A170
           clear A170
           by_cases c18 : t105 = true
           ·subst c18
            have H1 : (scarfjointref05_Valid.l1 k3 (wrap64 (x4_3 + 1)) l0_0 l0_1) = some r := by rw [if_pos rfl] at H; exact H
            clear H
            have H := H1
            clear H1
            have H' := Aside0.mk H
            clear H
            have hcz19_0 : wr.cell? ⟨gb101, 0, none⟩ = some (.slice A0_0 l0_0.length c0_0) := (blk_cell BK101.out 0).trans rfl
            have hcz19_1 : wr.cell? ⟨gb101, 1, none⟩ = some (.slice A0_1 l0_1.length c0_1) := (blk_cell BK101.out 1).trans rfl
            have hfz19_0 := blk_frozen BK101.out 0
            have hfz19_1 := blk_frozen BK101.out 1
            try go_wp2
            have n0_ := Aside0.mk (bD BK101.out)
            have n1_ := Aside0.mk (wD HB.out)
            clear BK101
            clear HB
            have BK101 := n0_
            have HB := n1_
            clear n0_ n1_
            have p104 : 0 ≤ (x4_3 : Int) := oT
            have q104 : x4_3 < (l0_1.length : Int) := oT
            obtain ⟨ad104, e104, hx104_0, hx104_1, hx104_2⟩ := at_T38 HR0_1.out x4_3 p104 q104
            have hw104_2 := hx104_2
            have hw104_1 := hx104_1
            have hw104_0 := hx104_0
            cases e104
            replace hx104_0 := (HB.out.cell (World.block_lt_of_cell? w _ hx104_0)).trans hx104_0
            replace hx104_1 := (HB.out.cell (World.block_lt_of_cell? w _ hx104_1)).trans hx104_1
            replace hx104_2 := (HB.out.cell (World.block_lt_of_cell? w _ hx104_2)).trans hx104_2
            replace p104 := eq_true p104
            replace q104 := eq_true q104
            refine start_ (n := 10) (S := fun w' => w'.cell? ⟨gb101, 0, none⟩ = some (.slice A0_0 l0_0.length c0_0) ∧ w'.cell? ⟨gb101, 1, none⟩ = some (.slice (some ad104) l0_1.length c0_1) ∧ w'.cell? (ad104.add ((x4_3).toNat * 3)) = some (.int .i64 ((rd_T38 l0_1 x4_3).f0)) ∧ w'.cell? ⟨(ad104.add ((x4_3).toNat * 3)).block, (ad104.add ((x4_3).toNat * 3)).off + 1, none⟩ = some (.int .i64 ((rd_T38 l0_1 x4_3).f1)) ∧ w'.cell? ⟨(ad104.add ((x4_3).toNat * 3)).block, (ad104.add ((x4_3).toNat * 3)).off + 2, none⟩ = some (.int .i64 ((rd_T38 l0_1 x4_3).f2))) (ds := []) #[false, false, false, false, false, false, false, false, false, false] (by kernel_rfl) rfl rfl ⟨(blk_cell BK101.out 0).trans rfl, (blk_cell BK101.out 1).trans rfl, ((HB.out.cell (World.block_lt_of_cell? w _ hw104_0)).trans hw104_0), ((HB.out.cell (World.block_lt_of_cell? w _ hw104_1)).trans hw104_1), ((HB.out.cell (World.block_lt_of_cell? w _ hw104_2)).trans hw104_2)⟩ (fun hHeld => ?_); refine with_tabW scarfjointref05_Valid.tab11 scarfjointref05_Valid.bits11 (fun HT_ HW_ => ?_)
            generalize wr.drew = w20 at BK101 HB hx104_0 hx104_1 hx104_2 hHeld ⊢
            refine pure_ (i := 0) (N := some 36) (v := ?_) (a' := ?_) #[true, false, false, false, false, false, false, false, false, false] rfl rfl (any_of HT_.out (by kernel_rfl)) (fun _ _ _ h => h) (Or.inl ⟨by rfl, ?_⟩) ?_ ?_
            rotate_left
            ·intro w'
             go_simp
             with_reducible rfl
            rotate_left
            ·simp only [Act.put, List.setIfInBounds_toArray, List.set_cons_zero, List.set_cons_succ, i64_w, i32_w]
             rfl
            refine pure_ (i := 2) (N := some 38) (v := ?_) (a' := ?_) #[true, false, true, false, false, false, false, false, false, false] rfl rfl (any_of HT_.out (by kernel_rfl)) (fun _ _ _ h => h) (Or.inl ⟨by rfl, ?_⟩) ?_ ?_
            rotate_left
            ·intro w'
             go_simp
             with_reducible rfl
            rotate_left
            ·simp only [Act.put, List.setIfInBounds_toArray, List.set_cons_zero, List.set_cons_succ, i64_w, i32_w]
             rfl
            refine pure_ (i := 5) (N := some 41) (v := ?_) (a' := ?_) #[true, false, true, false, false, true, false, false, false, false] rfl rfl (any_of HT_.out (by kernel_rfl)) (fun _ _ _ h => h) (Or.inl ⟨by rfl, ?_⟩) ?_ ?_
            rotate_left
            ·intro w'
             go_simp
             with_reducible rfl
            rotate_left
            ·simp only [Act.put, List.setIfInBounds_toArray, List.set_cons_zero, List.set_cons_succ, i64_w, i32_w]
             rfl
            refine take_ (i := 1) (N := some 37) (v := ?_) (a' := ?_) #[true, true, true, false, false, true, false, false, false, false] rfl rfl (take_ofW HT_.out HW_.out (by kernel_rfl)) (fun _ _ _ h => h) (Or.inl ⟨by rfl, ?_⟩) hHeld ?_ ?_
            rotate_left
            ·rintro w' ⟨s0, s1, s2, s3, s4⟩
             go_simp
             with_reducible rfl
            rotate_left
            ·simp only [Act.put, List.setIfInBounds_toArray, List.set_cons_zero, List.set_cons_succ, i64_w, i32_w]
             rfl
            refine pure_ (i := 3) (N := some 39) (v := ?_) (a' := ?_) #[true, true, true, true, false, true, false, false, false, false] rfl rfl (any_of HT_.out (by kernel_rfl)) (fun _ _ _ h => h) (Or.inl ⟨by rfl, ?_⟩) ?_ ?_
            rotate_left
            ·intro w'
             go_simp
             with_reducible rfl
            rotate_left
            ·simp only [Act.put, List.setIfInBounds_toArray, List.set_cons_zero, List.set_cons_succ, i64_w, i32_w]
             rfl
            refine take_ (i := 4) (N := some 40) (v := ?_) (a' := ?_) #[true, true, true, true, true, true, false, false, false, false] rfl rfl (take_ofW HT_.out HW_.out (by kernel_rfl)) (fun _ _ _ h => h) (Or.inl ⟨by rfl, ?_⟩) hHeld ?_ ?_
            rotate_left
            ·rintro w' ⟨s0, s1, s2, s3, s4⟩
             go_simp
             with_reducible rfl
            rotate_left
            ·simp only [Act.put, List.setIfInBounds_toArray, List.set_cons_zero, List.set_cons_succ, i64_w, i32_w]
             rfl
            refine take_ (i := 6) (N := some 42) (v := ?_) (a' := ?_) #[true, true, true, true, true, true, true, false, false, false] rfl rfl (take_ofW HT_.out HW_.out (by kernel_rfl)) (fun _ _ _ h => h) (Or.inl ⟨by rfl, ?_⟩) hHeld ?_ ?_
            rotate_left
            ·rintro w' ⟨s0, s1, s2, s3, s4⟩
             go_simp
             with_reducible rfl
            rotate_left
            ·simp only [Act.put, List.setIfInBounds_toArray, List.set_cons_zero, List.set_cons_succ, i64_w, i32_w]
             rfl
            refine pure_ (i := 7) (N := some 43) (v := ?_) (a' := ?_) #[true, true, true, true, true, true, true, true, false, false] rfl rfl (any_of HT_.out (by kernel_rfl)) (fun _ _ _ h => h) (Or.inl ⟨by rfl, ?_⟩) ?_ ?_
            rotate_left
            ·intro w'
             go_simp
             with_reducible rfl
            rotate_left
            ·simp only [Act.put, List.setIfInBounds_toArray, List.set_cons_zero, List.set_cons_succ, i64_w, i32_w]
             rfl
            refine one_ (i := 8) (N := some 44) #[true, true, true, true, true, true, true, true, true, false] rfl rfl (one_of HT_.out (by kernel_rfl)) (by decide) (fun K hK => ?_)
            refine goes_ Try.func53 (by kernel_rfl) rfl #[.agg #[.int .i64 ((rd_T38 l0_1 x4_3).f0), .int .i64 ((rd_T38 l0_1 x4_3).f1), .int .i64 ((rd_T38 l0_1 x4_3).f2)], .int .i64 (l0_0.length : Int)] (by rfl) rfl rfl aM ?_
            with_reducible refine (scarfjointref05_right.calls ((rd_T38 l0_1 x4_3).f0) ((rd_T38 l0_1 x4_3).f1) ((rd_T38 l0_1 x4_3).f2) (l0_0.length : Int) true _ A17.out).mono ?_
            rintro e w21 ⟨rfl, hb⟩
            refine ⟨_, rfl, ?_⟩
            have n0_ := Aside0.mk (bB (g := gb101) (o := .cells #[.slice A0_0 l0_0.length c0_0, .slice (some ad104) l0_1.length c0_1] 25 (0, 0)) (by (with_reducible repeat (first | refine bN ?_ _ | refine bD ?_ | refine bA ?_ _)); exact BK101.out) hb)
            have n1_ := Aside0.mk (wS (by repeat (first | (with_reducible first | exact HB.out | apply wA | apply wN | apply wD | refine below_set ?_ GE101.out) | exact HB.out)) hb)
            clear BK101
            clear HB
            have BK101 := n0_
            have HB := n1_
            clear n0_ n1_
            (try clear hb)
            (try clear hb2)
            (try clear hk)
            (try clear hi)
            refine hK.out _ _ ⟨(blk_cell BK101.out 0).trans rfl, (blk_cell BK101.out 1).trans rfl, ((HB.out.cell (World.block_lt_of_cell? w _ hw104_0)).trans hw104_0), ((HB.out.cell (World.block_lt_of_cell? w _ hw104_1)).trans hw104_1), ((HB.out.cell (World.block_lt_of_cell? w _ hw104_2)).trans hw104_2)⟩ (fun hHeld => ?_)
            clear hK K
            refine norm_ (a' := ?_) ?_ ?_
            rotate_left
            ·show Act.put _ (some 44) _ = _
             simp only [Act.put, List.setIfInBounds_toArray, List.set_cons_zero, List.set_cons_succ, i64_w, i32_w]
             rfl
            refine pure_ (i := 9) (N := some 45) (v := ?_) (a' := ?_) #[true, true, true, true, true, true, true, true, true, true] rfl rfl (any_of HT_.out (by kernel_rfl)) (fun _ _ _ h => h) (Or.inl ⟨by rfl, ?_⟩) ?_ ?_
            rotate_left
            ·intro w'
             go_simp
             with_reducible rfl
            rotate_left
            ·simp only [Act.put, List.setIfInBounds_toArray, List.set_cons_zero, List.set_cons_succ, i64_w, i32_w]
             rfl
            refine done_ (done_of HT_.out (by kernel_rfl)) ?_
            try go_wp2
            go_roundg k3
            case measure => have := HJ1.out; have := HK2.out; have := HK3.out; omega
            case rel => exact ⟨(wrap64 (x4_3 + 1)), rS, H', ⟨by have := HJ1.out; have := HK2.out; have := HK3.out; omega⟩, ⟨by (with_reducible repeat (first | refine bN ?_ _ | refine bD ?_ | refine bA ?_ _)); exact BK101.out⟩, ⟨by repeat (first | (with_reducible first | exact HB.out | apply wA | apply wN | apply wD | refine below_set ?_ GE101.out) | exact HB.out)⟩⟩
           ·replace c18 := Bool.eq_false_iff.mpr c18
            subst c18
            have H1 : (some 6) = some r := by rw [if_neg (show ¬ (false = true) by decide)] at H; exact H
            clear H
            have H := H1
            clear H1
            obtain rfl := Option.some.inj H
            have hcz22_0 : wr.cell? ⟨gb101, 0, none⟩ = some (.slice A0_0 l0_0.length c0_0) := (blk_cell BK101.out 0).trans rfl
            have hcz22_1 : wr.cell? ⟨gb101, 1, none⟩ = some (.slice A0_1 l0_1.length c0_1) := (blk_cell BK101.out 1).trans rfl
            have hfz22_0 := blk_frozen BK101.out 0
            have hfz22_1 := blk_frozen BK101.out 1
            try go_wp2
            have n0_ := Aside0.mk (bD BK101.out)
            have n1_ := Aside0.mk (wD HB.out)
            clear BK101
            clear HB
            have BK101 := n0_
            have HB := n1_
            clear n0_ n1_
            have p104 : 0 ≤ (x4_3 : Int) := oT
            have q104 : x4_3 < (l0_1.length : Int) := oT
            obtain ⟨ad104, e104, hx104_0, hx104_1, hx104_2⟩ := at_T38 HR0_1.out x4_3 p104 q104
            have hw104_2 := hx104_2
            have hw104_1 := hx104_1
            have hw104_0 := hx104_0
            cases e104
            replace hx104_0 := (HB.out.cell (World.block_lt_of_cell? w _ hx104_0)).trans hx104_0
            replace hx104_1 := (HB.out.cell (World.block_lt_of_cell? w _ hx104_1)).trans hx104_1
            replace hx104_2 := (HB.out.cell (World.block_lt_of_cell? w _ hx104_2)).trans hx104_2
            replace p104 := eq_true p104
            replace q104 := eq_true q104
            refine start_ (n := 10) (S := fun w' => w'.cell? ⟨gb101, 0, none⟩ = some (.slice A0_0 l0_0.length c0_0) ∧ w'.cell? ⟨gb101, 1, none⟩ = some (.slice (some ad104) l0_1.length c0_1) ∧ w'.cell? (ad104.add ((x4_3).toNat * 3)) = some (.int .i64 ((rd_T38 l0_1 x4_3).f0)) ∧ w'.cell? ⟨(ad104.add ((x4_3).toNat * 3)).block, (ad104.add ((x4_3).toNat * 3)).off + 1, none⟩ = some (.int .i64 ((rd_T38 l0_1 x4_3).f1)) ∧ w'.cell? ⟨(ad104.add ((x4_3).toNat * 3)).block, (ad104.add ((x4_3).toNat * 3)).off + 2, none⟩ = some (.int .i64 ((rd_T38 l0_1 x4_3).f2))) (ds := []) #[false, false, false, false, false, false, false, false, false, false] (by kernel_rfl) rfl rfl ⟨(blk_cell BK101.out 0).trans rfl, (blk_cell BK101.out 1).trans rfl, ((HB.out.cell (World.block_lt_of_cell? w _ hw104_0)).trans hw104_0), ((HB.out.cell (World.block_lt_of_cell? w _ hw104_1)).trans hw104_1), ((HB.out.cell (World.block_lt_of_cell? w _ hw104_2)).trans hw104_2)⟩ (fun hHeld => ?_); refine with_tabW scarfjointref05_Valid.tab11 scarfjointref05_Valid.bits11 (fun HT_ HW_ => ?_)
            generalize wr.drew = w23 at BK101 HB hx104_0 hx104_1 hx104_2 hHeld ⊢
            refine pure_ (i := 0) (N := some 36) (v := ?_) (a' := ?_) #[true, false, false, false, false, false, false, false, false, false] rfl rfl (any_of HT_.out (by kernel_rfl)) (fun _ _ _ h => h) (Or.inl ⟨by rfl, ?_⟩) ?_ ?_
            rotate_left
            ·intro w'
             go_simp
             with_reducible rfl
            rotate_left
            ·simp only [Act.put, List.setIfInBounds_toArray, List.set_cons_zero, List.set_cons_succ, i64_w, i32_w]
             rfl
            refine pure_ (i := 2) (N := some 38) (v := ?_) (a' := ?_) #[true, false, true, false, false, false, false, false, false, false] rfl rfl (any_of HT_.out (by kernel_rfl)) (fun _ _ _ h => h) (Or.inl ⟨by rfl, ?_⟩) ?_ ?_
            rotate_left
            ·intro w'
             go_simp
             with_reducible rfl
            rotate_left
            ·simp only [Act.put, List.setIfInBounds_toArray, List.set_cons_zero, List.set_cons_succ, i64_w, i32_w]
             rfl
            refine pure_ (i := 5) (N := some 41) (v := ?_) (a' := ?_) #[true, false, true, false, false, true, false, false, false, false] rfl rfl (any_of HT_.out (by kernel_rfl)) (fun _ _ _ h => h) (Or.inl ⟨by rfl, ?_⟩) ?_ ?_
            rotate_left
            ·intro w'
             go_simp
             with_reducible rfl
            rotate_left
            ·simp only [Act.put, List.setIfInBounds_toArray, List.set_cons_zero, List.set_cons_succ, i64_w, i32_w]
             rfl
            refine take_ (i := 1) (N := some 37) (v := ?_) (a' := ?_) #[true, true, true, false, false, true, false, false, false, false] rfl rfl (take_ofW HT_.out HW_.out (by kernel_rfl)) (fun _ _ _ h => h) (Or.inl ⟨by rfl, ?_⟩) hHeld ?_ ?_
            rotate_left
            ·rintro w' ⟨s0, s1, s2, s3, s4⟩
             go_simp
             with_reducible rfl
            rotate_left
            ·simp only [Act.put, List.setIfInBounds_toArray, List.set_cons_zero, List.set_cons_succ, i64_w, i32_w]
             rfl
            refine pure_ (i := 3) (N := some 39) (v := ?_) (a' := ?_) #[true, true, true, true, false, true, false, false, false, false] rfl rfl (any_of HT_.out (by kernel_rfl)) (fun _ _ _ h => h) (Or.inl ⟨by rfl, ?_⟩) ?_ ?_
            rotate_left
            ·intro w'
             go_simp
             with_reducible rfl
            rotate_left
            ·simp only [Act.put, List.setIfInBounds_toArray, List.set_cons_zero, List.set_cons_succ, i64_w, i32_w]
             rfl
            refine take_ (i := 4) (N := some 40) (v := ?_) (a' := ?_) #[true, true, true, true, true, true, false, false, false, false] rfl rfl (take_ofW HT_.out HW_.out (by kernel_rfl)) (fun _ _ _ h => h) (Or.inl ⟨by rfl, ?_⟩) hHeld ?_ ?_
            rotate_left
            ·rintro w' ⟨s0, s1, s2, s3, s4⟩
             go_simp
             with_reducible rfl
            rotate_left
            ·simp only [Act.put, List.setIfInBounds_toArray, List.set_cons_zero, List.set_cons_succ, i64_w, i32_w]
             rfl
            refine take_ (i := 6) (N := some 42) (v := ?_) (a' := ?_) #[true, true, true, true, true, true, true, false, false, false] rfl rfl (take_ofW HT_.out HW_.out (by kernel_rfl)) (fun _ _ _ h => h) (Or.inl ⟨by rfl, ?_⟩) hHeld ?_ ?_
            rotate_left
            ·rintro w' ⟨s0, s1, s2, s3, s4⟩
             go_simp
             with_reducible rfl
            rotate_left
            ·simp only [Act.put, List.setIfInBounds_toArray, List.set_cons_zero, List.set_cons_succ, i64_w, i32_w]
             rfl
            refine pure_ (i := 7) (N := some 43) (v := ?_) (a' := ?_) #[true, true, true, true, true, true, true, true, false, false] rfl rfl (any_of HT_.out (by kernel_rfl)) (fun _ _ _ h => h) (Or.inl ⟨by rfl, ?_⟩) ?_ ?_
            rotate_left
            ·intro w'
             go_simp
             with_reducible rfl
            rotate_left
            ·simp only [Act.put, List.setIfInBounds_toArray, List.set_cons_zero, List.set_cons_succ, i64_w, i32_w]
             rfl
            refine one_ (i := 8) (N := some 44) #[true, true, true, true, true, true, true, true, true, false] rfl rfl (one_of HT_.out (by kernel_rfl)) (by decide) (fun K hK => ?_)
            refine goes_ Try.func53 (by kernel_rfl) rfl #[.agg #[.int .i64 ((rd_T38 l0_1 x4_3).f0), .int .i64 ((rd_T38 l0_1 x4_3).f1), .int .i64 ((rd_T38 l0_1 x4_3).f2)], .int .i64 (l0_0.length : Int)] (by rfl) rfl rfl aM ?_
            with_reducible refine (scarfjointref05_right.calls ((rd_T38 l0_1 x4_3).f0) ((rd_T38 l0_1 x4_3).f1) ((rd_T38 l0_1 x4_3).f2) (l0_0.length : Int) false _ A17.out).mono ?_
            rintro e w24 ⟨rfl, hb⟩
            refine ⟨_, rfl, ?_⟩
            have n0_ := Aside0.mk (bB (g := gb101) (o := .cells #[.slice A0_0 l0_0.length c0_0, .slice (some ad104) l0_1.length c0_1] 25 (0, 0)) (by (with_reducible repeat (first | refine bN ?_ _ | refine bD ?_ | refine bA ?_ _)); exact BK101.out) hb)
            have n1_ := Aside0.mk (wS (by repeat (first | (with_reducible first | exact HB.out | apply wA | apply wN | apply wD | refine below_set ?_ GE101.out) | exact HB.out)) hb)
            clear BK101
            clear HB
            have BK101 := n0_
            have HB := n1_
            clear n0_ n1_
            (try clear hb)
            (try clear hb2)
            (try clear hk)
            (try clear hi)
            refine hK.out _ _ ⟨(blk_cell BK101.out 0).trans rfl, (blk_cell BK101.out 1).trans rfl, ((HB.out.cell (World.block_lt_of_cell? w _ hw104_0)).trans hw104_0), ((HB.out.cell (World.block_lt_of_cell? w _ hw104_1)).trans hw104_1), ((HB.out.cell (World.block_lt_of_cell? w _ hw104_2)).trans hw104_2)⟩ (fun hHeld => ?_)
            clear hK K
            refine norm_ (a' := ?_) ?_ ?_
            rotate_left
            ·show Act.put _ (some 44) _ = _
             simp only [Act.put, List.setIfInBounds_toArray, List.set_cons_zero, List.set_cons_succ, i64_w, i32_w]
             rfl
            refine pure_ (i := 9) (N := some 45) (v := ?_) (a' := ?_) #[true, true, true, true, true, true, true, true, true, true] rfl rfl (any_of HT_.out (by kernel_rfl)) (fun _ _ _ h => h) (Or.inl ⟨by rfl, ?_⟩) ?_ ?_
            rotate_left
            ·intro w'
             go_simp
             with_reducible rfl
            rotate_left
            ·simp only [Act.put, List.setIfInBounds_toArray, List.set_cons_zero, List.set_cons_succ, i64_w, i32_w]
             rfl
            refine done_ (done_of HT_.out (by kernel_rfl)) ?_
            try go_wp2
            go_ret
            exact ⟨by first | rfl | (simp [errW_none, errW_some] <;> rfl) | (simp [*, errW_none, errW_some] <;> rfl), by repeat (first | (with_reducible first | exact HB.out | apply wA | apply wN | apply wD | refine below_set ?_ GE101.out) | exact HB.out)⟩
          ·rw [if_neg c16] at H
           exact absurd H (by simp)
         ·rw [if_neg c15] at H
          have c15b0 : decide (x4_3 < (l0_1.length : Int)) = false := decide_eq_false c15
          clear c15
          obtain rfl := Option.some.inj H
          have hcz25_0 : wr.cell? ⟨gb101, 0, none⟩ = some (.slice A0_0 l0_0.length c0_0) := (blk_cell BK101.out 0).trans rfl
          have hcz25_1 : wr.cell? ⟨gb101, 1, none⟩ = some (.slice A0_1 l0_1.length c0_1) := (blk_cell BK101.out 1).trans rfl
          have hfz25_0 := blk_frozen BK101.out 0
          have hfz25_1 := blk_frozen BK101.out 1
          go_wp2
          go_ret
          exact ⟨by first | rfl | (simp [errW_none, errW_some] <;> rfl) | (simp [*, errW_none, errW_some] <;> rfl), by repeat (first | (with_reducible first | exact HB.out | apply wA | apply wN | apply wD | refine below_set ?_ GE101.out) | exact HB.out)⟩
end Go.Proofs.Ytmbnibonggbjgaa.X

namespace Go.Proofs.Ytmbnibonggbjgaa.X
open Go.RowKit Go.Proofs.YtmbnibonggbjgaaW.PrintWords Go.Proofs.YtmbnibonggbjgaaW.PrintLast Go.Proofs.YtmbnibonggbjgaaW.PrintMore
open Go.Proofs.YtmbnibonggbjgaaW.PrintWords renaming blk_drewN → bN, blk_drew → bD, blk_alloc → bA, below_alloc → wA, pw_below_drewN → wN, below_drew1 → wD, blk_below → bB, below_step → wS, blk_at → bT, blk_grown → bG
open Go.Proofs.YtmbnibonggbjgaaW.PrintWords.Kd renaming R_alloc → rA, R_drewN → rN, R_drew → rD, R_below → rB, R_grown → rG, C_below → cB, C_alloc → cA, C_drewN → cN, C_drew → cD
attribute [local go_sem] max2_int min2_int max_two min_two max_three min_three max_four min_four
set_option linter.unusedVariables false
set_option linter.unusedSimpArgs false
/-! ### scarfjointref05_ascending: function 41 -/
mutual
def scarfjointref05_ascending.l0 : Nat → List Int → Int → Int → Option (Int)
 | 0, _, _, _ => none
 | k + 1, x0, x1, x5 => if x5 < (x0.length : Int) then (if 0 ≤ x5 then (if (rd x0 x5) < 0 then (scarfjointref05_ascending.j1 k x0 x1 x5 true) else (scarfjointref05_ascending.j1 k x0 x1 x5 (decide ((rd x0 x5) ≥ x1)))) else (none)) else (some 0)
def scarfjointref05_ascending.j1 : Nat → List Int → Int → Int → Bool → Option (Int)
 | 0, _, _, _, _ => none
 | k + 1, x0, x1, x5, x24 => if x24 = true then (some 6) else (if x5 > 0 then (if 0 ≤ x5 then (if x5 < (x0.length : Int) then (if 0 ≤ (wrap64 (x5 - 1)) then (if (wrap64 (x5 - 1)) < (x0.length : Int) then (scarfjointref05_ascending.j2 k x0 x1 x5 (decide ((rd x0 x5) ≤ (rd x0 (wrap64 (x5 - 1)))))) else (none)) else (none)) else (none)) else (none)) else (scarfjointref05_ascending.j2 k x0 x1 x5 false))
def scarfjointref05_ascending.j2 : Nat → List Int → Int → Int → Bool → Option (Int)
 | 0, _, _, _, _ => none
 | k + 1, x0, x1, x5, x38 => if x38 = true then (some 12) else (scarfjointref05_ascending.l0 k x0 x1 (wrap64 (x5 + 1)))
end
def scarfjointref05_ascending.f (k : Nat) (l0 : List Int) (a1 : Int) : Option (Int) := scarfjointref05_ascending.l0 k l0 a1 0
theorem scarfjointref05_ascending.mono_l : ∀ k, (∀ y0 y1 y2, LeO (scarfjointref05_ascending.l0 k y0 y1 y2) (scarfjointref05_ascending.l0 (k + 1) y0 y1 y2)) ∧ (∀ y0 y1 y2 y3, LeO (scarfjointref05_ascending.j1 k y0 y1 y2 y3) (scarfjointref05_ascending.j1 (k + 1) y0 y1 y2 y3)) ∧ (∀ y0 y1 y2 y3, LeO (scarfjointref05_ascending.j2 k y0 y1 y2 y3) (scarfjointref05_ascending.j2 (k + 1) y0 y1 y2 y3))
 | 0 => ⟨fun _ _ _ r h => by simp [scarfjointref05_ascending.l0] at h, fun _ _ _ _ r h => by simp [scarfjointref05_ascending.j1] at h, fun _ _ _ _ r h => by simp [scarfjointref05_ascending.j2] at h⟩
 | k + 1 => by
  obtain ⟨ih0, ih1, ih2⟩ := scarfjointref05_ascending.mono_l k
  refine ⟨?_, ?_, ?_⟩
  ·intro y0 y1 y2
   unfold scarfjointref05_ascending.l0
   repeat' first
   | (with_reducible exact ih0 _ _ _)
   | (with_reducible exact ih1 _ _ _ _)
   | (with_reducible exact ih2 _ _ _ _)
   | (with_reducible exact LeO.refl _)
   | (with_reducible exact LeO.none _)
   | (with_reducible refine LeO.ite ?_ ?_)
   | (with_reducible refine LeO.bind ?_ (fun _ => ?_))
   | exact ih0 _ _ _
   | exact ih1 _ _ _ _
   | exact ih2 _ _ _ _
   | exact LeO.none _
   | refine LeO.ite ?_ ?_
   | refine LeO.bind ?_ (fun _ => ?_)
  ·intro y0 y1 y2 y3
   unfold scarfjointref05_ascending.j1
   repeat' first
   | (with_reducible exact ih0 _ _ _)
   | (with_reducible exact ih1 _ _ _ _)
   | (with_reducible exact ih2 _ _ _ _)
   | (with_reducible exact LeO.refl _)
   | (with_reducible exact LeO.none _)
   | (with_reducible refine LeO.ite ?_ ?_)
   | (with_reducible refine LeO.bind ?_ (fun _ => ?_))
   | exact ih0 _ _ _
   | exact ih1 _ _ _ _
   | exact ih2 _ _ _ _
   | exact LeO.none _
   | refine LeO.ite ?_ ?_
   | refine LeO.bind ?_ (fun _ => ?_)
  ·intro y0 y1 y2 y3
   unfold scarfjointref05_ascending.j2
   repeat' first
   | (with_reducible exact ih0 _ _ _)
   | (with_reducible exact ih1 _ _ _ _)
   | (with_reducible exact ih2 _ _ _ _)
   | (with_reducible exact LeO.refl _)
   | (with_reducible exact LeO.none _)
   | (with_reducible refine LeO.ite ?_ ?_)
   | (with_reducible refine LeO.bind ?_ (fun _ => ?_))
   | exact ih0 _ _ _
   | exact ih1 _ _ _ _
   | exact ih2 _ _ _ _
   | exact LeO.none _
   | refine LeO.ite ?_ ?_
   | refine LeO.bind ?_ (fun _ => ?_)
theorem scarfjointref05_ascending.mono : ∀ a0 a1 k, LeO (scarfjointref05_ascending.f k a0 a1) (scarfjointref05_ascending.f (k + 1) a0 a1) := by
 intro a0 a1 k
 obtain ⟨ih0, ih1, ih2⟩ := scarfjointref05_ascending.mono_l k
 unfold scarfjointref05_ascending.f
 repeat' first
   | (with_reducible exact ih0 _ _ _)
   | (with_reducible exact ih1 _ _ _ _)
   | (with_reducible exact ih2 _ _ _ _)
   | (with_reducible exact LeO.refl _)
   | (with_reducible exact LeO.none _)
   | (with_reducible refine LeO.ite ?_ ?_)
   | (with_reducible refine LeO.bind ?_ (fun _ => ?_))
   | exact ih0 _ _ _
   | exact ih1 _ _ _ _
   | exact ih2 _ _ _ _
   | exact LeO.none _
   | refine LeO.ite ?_ ?_
   | refine LeO.bind ?_ (fun _ => ?_)
set_option maxHeartbeats 8000000 in
set_option maxRecDepth 100000 in
theorem scarfjointref05_ascending.calls (k : Nat) (A0 : Option Addr) (c0 : Nat) (l0 : List Int) (a1 : Int) (r : Int) (w : World) (hr0 : Kd.C (Kd.int .i64) w A0 l0.length l0) (hc0 : l0.length ≤ c0) (h : scarfjointref05_ascending.f k l0 a1 = some r) :
  Calls Try.prog 41 #[.slice A0 l0.length c0, .int .i64 a1] w fun e w' => e = .returned (.int .i64 r) ∧ Drawn0 w w' := by
 have HR0 := Aside0.mk hr0
 have HC0 := Aside0.mk hc0
 clear hr0 hc0
 have H : (scarfjointref05_ascending.l0 k l0 a1 0) = some r := h
 clear h
 have H' := Aside0.mk H
 clear H
 go_enter Try.func41, Try.ntmps41
 go_wp2
 repeat (go_quiet (fail); try go_wp2)
 go_loopg [5] k (fun kq v5 w' => ∃ (x5_1 : Int), v5 = .int .i64 x5_1 ∧ Aside0 (scarfjointref05_ascending.l0 kq l0 a1 x5_1 = some r) ∧ Aside0 (kq ≤ k) ∧ Drawn0 w w')
 case atStart => exact ⟨(0), rS, H', ⟨Nat.le_refl _⟩, by repeat (first | exact Drawn0.refl _ | apply Drawn0.step)⟩
 case round =>
  clear H'
  try clear p2
  obtain ⟨x5_1, rfl, HA, HK1, ⟨m1, rfl⟩⟩ := hrel
  cases gk with
  | zero => exact absurd HA.out (by simp [scarfjointref05_ascending.l0])
  | succ k1 =>
   have H := HA.out
   clear HA
   simp only [scarfjointref05_ascending.l0] at H
   by_cases c3 : x5_1 < (l0.length : Int)
   ·rw [if_pos c3] at H
    have c3b0 : decide (x5_1 < (l0.length : Int)) = true := decide_eq_true c3
    clear c3
    have HC4 := Aside0.mk H
    clear H
    go_upto_region 4 with (fail)
    repeat (go_quiet (fail); go_upto_region 4 with (fail))
    go_cut [24] (fun v24 wc => ∃ (kq : Nat) (x24_3 : Bool), v24 = .bool x24_3 ∧ Aside0 (scarfjointref05_ascending.j1 kq l0 a1 x5_1 x24_3 = some r) ∧ Aside0 (kq ≤ k1) ∧ Drawn0 w wc)
    case first =>
     have H := HC4.out
     clear HC4
     by_cases c5 : 0 ≤ x5_1
     ·rw [if_pos c5] at H
      have c5b0 : decide (0 ≤ x5_1) = true := decide_eq_true c5
      clear c5
      (first | rw [c5b0] | (simp only [i64_w, i32_w]; rw [c5b0]) | skip)
      by_cases c6 : (rd l0 x5_1) < 0
      ·rw [if_pos c6] at H
       have c6b0 : decide ((rd l0 x5_1) < 0) = true := decide_eq_true c6
       clear c6
       have H' := Aside0.mk H
       clear H
       have p101 : 0 ≤ (x5_1 : Int) := oT
       have q101 : x5_1 < (l0.length : Int) := oT
       obtain ⟨ad101, e101, hx101_0⟩ := Kd.at_int HR0.out x5_1 p101 q101
       cases e101
       replace p101 := eq_true p101
       replace q101 := eq_true q101
       go_wp2
       repeat (go_quiet (fail); try go_wp2)
       go_meet
       case rel => exact ⟨_, (true), rS, H', ⟨by have := HK1.out; first | omega | exact Nat.le_refl _⟩, by repeat (first | exact Drawn0.refl _ | apply Drawn0.step)⟩
      ·rw [if_neg c6] at H
       have c6b0 : decide ((rd l0 x5_1) < 0) = false := decide_eq_false c6
       clear c6
       have H' := Aside0.mk H
       clear H
       have p101 : 0 ≤ (x5_1 : Int) := oT
       have q101 : x5_1 < (l0.length : Int) := oT
       obtain ⟨ad101, e101, hx101_0⟩ := Kd.at_int HR0.out x5_1 p101 q101
       cases e101
       replace p101 := eq_true p101
       replace q101 := eq_true q101
       have p102 : 0 ≤ (x5_1 : Int) := oT
       have q102 : x5_1 < (l0.length : Int) := oT
       obtain ⟨ad102, e102, hx102_0⟩ := Kd.at_int HR0.out x5_1 p102 q102
       obtain rfl : ad101 = ad102 := (by injection e102)
       replace p102 := eq_true p102
       replace q102 := eq_true q102
       go_wp2
       repeat (go_quiet (fail); try go_wp2)
       go_meet
       case rel => exact ⟨_, (decide ((rd l0 x5_1) ≥ a1)), rS, H', ⟨by have := HK1.out; first | omega | exact Nat.le_refl _⟩, by repeat (first | exact Drawn0.refl _ | apply Drawn0.step)⟩
     ·rw [if_neg c5] at H
      exact absurd H (by simp)
    case rest =>
     clear HC4
     try clear p2
     try clear c3
     try clear c3b0
     try clear c4
     try clear p4
     try clear q4
     try clear hx4
     try clear c5
     try clear c5b0
     try clear c6
     try clear c6b0
     try clear hx101_0
     try clear hx102_0
     try clear p2
     try clear p101
     try clear p102
     try clear q101
     try clear q102
     obtain ⟨kq, x24_3, rfl, HA, HJ3, ⟨mc3, rfl⟩⟩ := hcut
     cases kq with
     | zero => exact absurd HA.out (by simp [scarfjointref05_ascending.j1])
     | succ kj3 =>
      have H := HA.out
      clear HA
      simp only [scarfjointref05_ascending.j1] at H
      by_cases c7 : x24_3 = true
      ·subst c7
       have H1 : (some 6) = some r := by rw [if_pos rfl] at H; exact H
       clear H
       have H := H1
       clear H1
       obtain rfl := Option.some.inj H
       go_wp2
       repeat (go_quiet (fail); try go_wp2)
       go_ret
       exact ⟨by first | rfl | (simp; done) | (simp [*]; done), by repeat (first | exact Drawn0.refl _ | apply Drawn0.step)⟩
      ·replace c7 := Bool.eq_false_iff.mpr c7
       subst c7
       have H1 : (if x5_1 > 0 then (if 0 ≤ x5_1 then (if x5_1 < (l0.length : Int) then (if 0 ≤ (wrap64 (x5_1 - 1)) then (if (wrap64 (x5_1 - 1)) < (l0.length : Int) then (scarfjointref05_ascending.j2 kj3 l0 a1 x5_1 (decide ((rd l0 x5_1) ≤ (rd l0 (wrap64 (x5_1 - 1)))))) else (none)) else (none)) else (none)) else (none)) else (scarfjointref05_ascending.j2 kj3 l0 a1 x5_1 false)) = some r := by rw [if_neg (show ¬ (false = true) by decide)] at H; exact H
       clear H
       have H := H1
       clear H1
       have HC8 := Aside0.mk H
       clear H
       go_upto_region 6 with (fail)
       repeat (go_quiet (fail); go_upto_region 6 with (fail))
       go_cut [38] (fun v38 wc => ∃ (kq : Nat) (x38_7 : Bool), v38 = .bool x38_7 ∧ Aside0 (scarfjointref05_ascending.j2 kq l0 a1 x5_1 x38_7 = some r) ∧ Aside0 (kq ≤ kj3) ∧ Drawn0 w wc)
       case first =>
        have H := HC8.out
        clear HC8
        by_cases c9 : x5_1 > 0
        ·rw [if_pos c9] at H
         have c9b0 : decide (0 < x5_1) = true := decide_eq_true c9
         clear c9
         (first | rw [c9b0] | (simp only [i64_w, i32_w]; rw [c9b0]) | skip)
         by_cases c10 : 0 ≤ x5_1
         ·rw [if_pos c10] at H
          have c10b0 : decide (0 ≤ x5_1) = true := decide_eq_true c10
          clear c10
          by_cases c11 : x5_1 < (l0.length : Int)
          ·rw [if_pos c11] at H
           have c11b0 : decide (x5_1 < (l0.length : Int)) = true := decide_eq_true c11
           clear c11
           obtain ⟨ji12, hji12⟩ : ∃ j_ : Int, (wrap64 (x5_1 - 1)) = j_ := ⟨_, rfl⟩
           replace H : (if 0 ≤ (ji12) then (if (ji12) < (l0.length : Int) then (scarfjointref05_ascending.j2 kj3 l0 a1 x5_1 (decide ((rd l0 x5_1) ≤ (rd l0 (ji12))))) else (none)) else (none)) = some r := by first | (rw [hji12] at H; exact H) | (simp only [hji12] at H ⊢; exact H)
           have hji12w : (IntKind.i64.wrap (x5_1 - 1)) = ji12 := (i64_w _).trans hji12
           by_cases c13 : 0 ≤ (ji12)
           ·rw [if_pos c13] at H
            have c13b0 : decide (0 ≤ (ji12)) = true := decide_eq_true c13
            clear c13
            by_cases c14 : (ji12) < (l0.length : Int)
            ·rw [if_pos c14] at H
             have c14b0 : decide ((ji12) < (l0.length : Int)) = true := decide_eq_true c14
             clear c14
             have H' := Aside0.mk H
             clear H
             have p103 : 0 ≤ (x5_1 : Int) := oT
             have q103 : x5_1 < (l0.length : Int) := oT
             obtain ⟨ad103, e103, hx103_0⟩ := Kd.at_int HR0.out x5_1 p103 q103
             cases e103
             replace p103 := eq_true p103
             replace q103 := eq_true q103
             have p104 : 0 ≤ ((ji12) : Int) := oT
             have q104 : (ji12) < (l0.length : Int) := oT
             obtain ⟨ad104, e104, hx104_0⟩ := Kd.at_int HR0.out (ji12) p104 q104
             obtain rfl : ad103 = ad104 := (by injection e104)
             replace p104 := eq_true p104
             replace q104 := eq_true q104
             go_wp2
             repeat (go_quiet (fail); try go_wp2)
             go_meet
             case rel => exact ⟨_, (decide ((rd l0 x5_1) ≤ (rd l0 (ji12)))), (by first | rfl | (simp; done) | (simp only [← hji12] <;> (first | rfl | simp)) | (simp [*]; done)), H', ⟨by have := HK1.out; have := HJ3.out; first | omega | exact Nat.le_refl _⟩, by repeat (first | exact Drawn0.refl _ | apply Drawn0.step)⟩
            ·rw [if_neg c14] at H
             exact absurd H (by simp)
           ·rw [if_neg c13] at H
            exact absurd H (by simp)
          ·rw [if_neg c11] at H
           exact absurd H (by simp)
         ·rw [if_neg c10] at H
          exact absurd H (by simp)
        ·rw [if_neg c9] at H
         have c9b0 : decide (0 < x5_1) = false := decide_eq_false c9
         clear c9
         (first | rw [c9b0] | (simp only [i64_w, i32_w]; rw [c9b0]) | skip)
         have H' := Aside0.mk H
         clear H
         go_wp2
         repeat (go_quiet (fail); try go_wp2)
         go_meet
         case rel => exact ⟨_, (false), rS, H', ⟨by have := HK1.out; have := HJ3.out; first | omega | exact Nat.le_refl _⟩, by repeat (first | exact Drawn0.refl _ | apply Drawn0.step)⟩
       case rest =>
        clear HC8
        try clear c1
        try clear p2
        try clear c3
        try clear c3b0
        try clear c4
        try clear p4
        try clear q4
        try clear hx4
        try clear c5
        try clear c5b0
        try clear c6
        try clear c6b0
        try clear p6
        try clear c7
        try clear c9
        try clear c9b0
        try clear c10
        try clear c10b0
        try clear c11
        try clear c11b0
        try clear c13
        try clear c13b0
        try clear c14
        try clear c14b0
        try clear hx101_0
        try clear hx102_0
        try clear hx103_0
        try clear hx104_0
        try clear p2
        try clear p4
        try clear p101
        try clear p102
        try clear p103
        try clear p104
        try clear q4
        try clear q101
        try clear q102
        try clear q103
        try clear q104
        obtain ⟨kq, x38_7, rfl, HA, HJ7, ⟨mc7, rfl⟩⟩ := hcut
        cases kq with
        | zero => exact absurd HA.out (by simp [scarfjointref05_ascending.j2])
        | succ kj7 =>
         have H := HA.out
         clear HA
         simp only [scarfjointref05_ascending.j2] at H
         by_cases c15 : x38_7 = true
         ·subst c15
          have H1 : (some 12) = some r := by rw [if_pos rfl] at H; exact H
          clear H
          have H := H1
          clear H1
          obtain rfl := Option.some.inj H
          go_wp2
          repeat (go_quiet (fail); try go_wp2)
          go_ret
          exact ⟨by first | rfl | (simp; done) | (simp [*]; done), by repeat (first | exact Drawn0.refl _ | apply Drawn0.step)⟩
         ·replace c15 := Bool.eq_false_iff.mpr c15
          subst c15
          have H1 : (scarfjointref05_ascending.l0 kj7 l0 a1 (wrap64 (x5_1 + 1))) = some r := by rw [if_neg (show ¬ (false = true) by decide)] at H; exact H
          clear H
          have H := H1
          clear H1
          have H' := Aside0.mk H
          clear H
          go_wp2
          repeat (go_quiet (fail); try go_wp2)
          go_roundg kj7
          case measure => have := HK1.out; have := HJ3.out; have := HJ7.out; omega
          case rel => exact ⟨(wrap64 (x5_1 + 1)), rS, H', ⟨by have := HK1.out; have := HJ3.out; have := HJ7.out; omega⟩, by repeat (first | exact Drawn0.refl _ | apply Drawn0.step)⟩
   ·rw [if_neg c3] at H
    have c3b0 : decide (x5_1 < (l0.length : Int)) = false := decide_eq_false c3
    clear c3
    obtain rfl := Option.some.inj H
    go_wp2
    repeat (go_quiet (fail); try go_wp2)
    go_ret
    exact ⟨by first | rfl | (simp; done) | (simp [*]; done), by repeat (first | exact Drawn0.refl _ | apply Drawn0.step)⟩
end Go.Proofs.Ytmbnibonggbjgaa.X

namespace Go.Proofs.Ytmbnibonggbjgaa.X
open Go.RowKit Go.Proofs.YtmbnibonggbjgaaW.PrintWords Go.Proofs.YtmbnibonggbjgaaW.PrintLast Go.Proofs.YtmbnibonggbjgaaW.PrintMore
open Go.Proofs.YtmbnibonggbjgaaW.PrintWords renaming blk_drewN → bN, blk_drew → bD, blk_alloc → bA, below_alloc → wA, pw_below_drewN → wN, below_drew1 → wD, blk_below → bB, below_step → wS, blk_at → bT, blk_grown → bG
open Go.Proofs.YtmbnibonggbjgaaW.PrintWords.Kd renaming R_alloc → rA, R_drewN → rN, R_drew → rD, R_below → rB, R_grown → rG, C_below → cB, C_alloc → cA, C_drewN → cN, C_drew → cD
attribute [local go_sem] max2_int min2_int max_two min_two max_three min_three max_four min_four
set_option linter.unusedVariables false
set_option linter.unusedSimpArgs false
/-! ### scarfjointref05_places: function 42 -/
mutual
def scarfjointref05_places.l0 : Nat → Int → List Int → List Int → Int → Int → Int → Option (List Int)
 | 0, _, _, _, _, _, _ => none
 | k + 1, x0, x1, x5, x6, x7, x8 => if x8 < x0 then (if x7 < (x1.length : Int) then (if 0 ≤ x7 then (scarfjointref05_places.j1 k x0 x1 x5 x6 x7 x8 ((rd x1 x7) == x8)) else (none)) else (scarfjointref05_places.j1 k x0 x1 x5 x6 x7 x8 false)) else (some x5)
def scarfjointref05_places.j1 : Nat → Int → List Int → List Int → Int → Int → Int → Bool → Option (List Int)
 | 0, _, _, _, _, _, _, _ => none
 | k + 1, x0, x1, x5, x6, x7, x8, x25 => if x25 = true then (if x5.length < 17592186044416 then (scarfjointref05_places.l0 k x0 x1 (x5 ++ [(-1)]) x6 (wrap64 (x7 + 1)) (wrap64 (x8 + 1))) else (none)) else (if x5.length < 17592186044416 then (scarfjointref05_places.l0 k x0 x1 (x5 ++ [x6]) (wrap64 (x6 + 1)) x7 (wrap64 (x8 + 1))) else (none))
end
def scarfjointref05_places.f (k : Nat) (a0 : Int) (l1 : List Int) : Option (List Int) := scarfjointref05_places.l0 k a0 l1 ([] : List Int) 0 0 0
theorem scarfjointref05_places.mono_l : ∀ k, (∀ y0 y1 y2 y3 y4 y5, LeO (scarfjointref05_places.l0 k y0 y1 y2 y3 y4 y5) (scarfjointref05_places.l0 (k + 1) y0 y1 y2 y3 y4 y5)) ∧ (∀ y0 y1 y2 y3 y4 y5 y6, LeO (scarfjointref05_places.j1 k y0 y1 y2 y3 y4 y5 y6) (scarfjointref05_places.j1 (k + 1) y0 y1 y2 y3 y4 y5 y6))
 | 0 => ⟨fun _ _ _ _ _ _ r h => by simp [scarfjointref05_places.l0] at h, fun _ _ _ _ _ _ _ r h => by simp [scarfjointref05_places.j1] at h⟩
 | k + 1 => by
  obtain ⟨ih0, ih1⟩ := scarfjointref05_places.mono_l k
  refine ⟨?_, ?_⟩
  ·intro y0 y1 y2 y3 y4 y5
   unfold scarfjointref05_places.l0
   repeat' first
   | (with_reducible exact ih0 _ _ _ _ _ _)
   | (with_reducible exact ih1 _ _ _ _ _ _ _)
   | (with_reducible exact LeO.refl _)
   | (with_reducible exact LeO.none _)
   | (with_reducible refine LeO.ite ?_ ?_)
   | (with_reducible refine LeO.bind ?_ (fun _ => ?_))
   | exact ih0 _ _ _ _ _ _
   | exact ih1 _ _ _ _ _ _ _
   | exact LeO.none _
   | refine LeO.ite ?_ ?_
   | refine LeO.bind ?_ (fun _ => ?_)
  ·intro y0 y1 y2 y3 y4 y5 y6
   unfold scarfjointref05_places.j1
   repeat' first
   | (with_reducible exact ih0 _ _ _ _ _ _)
   | (with_reducible exact ih1 _ _ _ _ _ _ _)
   | (with_reducible exact LeO.refl _)
   | (with_reducible exact LeO.none _)
   | (with_reducible refine LeO.ite ?_ ?_)
   | (with_reducible refine LeO.bind ?_ (fun _ => ?_))
   | exact ih0 _ _ _ _ _ _
   | exact ih1 _ _ _ _ _ _ _
   | exact LeO.none _
   | refine LeO.ite ?_ ?_
   | refine LeO.bind ?_ (fun _ => ?_)
theorem scarfjointref05_places.mono : ∀ a0 a1 k, LeO (scarfjointref05_places.f k a0 a1) (scarfjointref05_places.f (k + 1) a0 a1) := by
 intro a0 a1 k
 obtain ⟨ih0, ih1⟩ := scarfjointref05_places.mono_l k
 unfold scarfjointref05_places.f
 repeat' first
   | (with_reducible exact ih0 _ _ _ _ _ _)
   | (with_reducible exact ih1 _ _ _ _ _ _ _)
   | (with_reducible exact LeO.refl _)
   | (with_reducible exact LeO.none _)
   | (with_reducible refine LeO.ite ?_ ?_)
   | (with_reducible refine LeO.bind ?_ (fun _ => ?_))
   | exact ih0 _ _ _ _ _ _
   | exact ih1 _ _ _ _ _ _ _
   | exact LeO.none _
   | refine LeO.ite ?_ ?_
   | refine LeO.bind ?_ (fun _ => ?_)
set_option maxHeartbeats 8000000 in
set_option maxRecDepth 100000 in
theorem scarfjointref05_places.calls (k : Nat) (a0 : Int) (A1 : Option Addr) (c1 : Nat) (l1 : List Int) (r : List Int) (w : World) (hr1 : Kd.C (Kd.int .i64) w A1 l1.length l1) (hc1 : l1.length ≤ c1) (h : scarfjointref05_places.f k a0 l1 = some r) :
  Calls Try.prog 42 #[.int .i64 a0, .slice A1 l1.length c1] w fun e w' => ∃ v0_ : Value, e = .returned (v0_) ∧ Kd.R (Kd.int .i64) 3 w' w.heap.size (fun _ => True) v0_ r ∧ Below w.heap.size w w' := by
 have HR1 := Aside0.mk hr1
 have HC1 := Aside0.mk hc1
 clear hr1 hc1
 have HB := Aside0.mk (Below.refl w.heap.size w)
 have H : (scarfjointref05_places.l0 k a0 l1 ([] : List Int) 0 0 0) = some r := h
 clear h
 have H' := Aside0.mk H
 clear H
 go_enter Try.func42, Try.ntmps42
 go_wp2
 go_loopg [5, 6, 7, 8] k (fun kq v5 v6 v7 v8 w' => ∃ (x5_1 : List Int) (x6_1 : Int) (x7_1 : Int) (x8_1 : Int), v6 = .int .i64 x6_1 ∧ v7 = .int .i64 x7_1 ∧ v8 = .int .i64 x8_1 ∧ Aside0 (scarfjointref05_places.l0 kq a0 l1 x5_1 x6_1 x7_1 x8_1 = some r) ∧ Aside0 (kq ≤ k) ∧ Aside0 (Kd.R (Kd.int .i64) 3 w' w.heap.size (fun _ => True) v5 x5_1) ∧ Aside0 (Below w.heap.size w w'))
 case atStart => exact ⟨(([] : List Int)), (0), (0), (0), rS, rS, rS, H', ⟨Nat.le_refl _⟩, ⟨by first | exact Kd.R_nil _ _ _ _ _ | exact Kd.N_nil _ _ _ _ _ | exact Kd.V_nil _ _ _ _ _ | exact Kd.Q_nil _ _ _ _ _ | exact Kd.S_nil _ _ _ _ _⟩, ⟨by repeat (first | (with_reducible first | exact HB.out | apply wA | apply wN | apply wD) | exact HB.out)⟩⟩
 case round =>
  clear H'
  try clear c1
  try clear p2
  obtain ⟨x5_1, x6_1, x7_1, x8_1, rfl, rfl, rfl, HA, HK1, HO_5, HB⟩ := hrel
  cases gk with
  | zero => exact absurd HA.out (by simp [scarfjointref05_places.l0])
  | succ k1 =>
   have H := HA.out
   clear HA
   simp only [scarfjointref05_places.l0] at H
   by_cases c3 : x8_1 < a0
   ·rw [if_pos c3] at H
    have c3b0 : decide (x8_1 < a0) = true := decide_eq_true c3
    clear c3
    have HC4 := Aside0.mk H
    clear H
    go_upto_region 6 with (fail)
    go_cut [25] (fun v25 wc => ∃ (kq : Nat) (x25_3 : Bool), v25 = .bool x25_3 ∧ Aside0 (scarfjointref05_places.j1 kq a0 l1 x5_1 x6_1 x7_1 x8_1 x25_3 = some r) ∧ Aside0 (kq ≤ k1) ∧ Aside0 (Kd.R (Kd.int .i64) 3 wc w.heap.size (fun _ => True) u5 x5_1) ∧ Aside0 (Below w.heap.size w wc))
    case first =>
     have H := HC4.out
     clear HC4
     by_cases c5 : x7_1 < (l1.length : Int)
     ·rw [if_pos c5] at H
      have c5b0 : decide (x7_1 < (l1.length : Int)) = true := decide_eq_true c5
      clear c5
      (first | rw [c5b0] | (simp only [i64_w, i32_w]; rw [c5b0]) | skip)
      by_cases c6 : 0 ≤ x7_1
      ·rw [if_pos c6] at H
       have c6b0 : decide (0 ≤ x7_1) = true := decide_eq_true c6
       clear c6
       have H' := Aside0.mk H
       clear H
       have p101 : 0 ≤ (x7_1 : Int) := oT
       have q101 : x7_1 < (l1.length : Int) := oT
       obtain ⟨ad101, e101, hx101_0⟩ := Kd.at_int HR1.out x7_1 p101 q101
       cases e101
       replace hx101_0 := (HB.out.cell (World.block_lt_of_cell? w _ hx101_0)).trans hx101_0
       replace p101 := eq_true p101
       replace q101 := eq_true q101
       go_wp2
       go_meet
       case rel => exact ⟨_, (((rd l1 x7_1) == x8_1)), rS, H', ⟨by have := HK1.out; first | omega | exact Nat.le_refl _⟩, ⟨by (with_reducible repeat (first | apply rA | apply rN | apply rD)); exact HO_5.out⟩, ⟨by repeat (first | (with_reducible first | exact HB.out | apply wA | apply wN | apply wD) | exact HB.out)⟩⟩
      ·rw [if_neg c6] at H
       exact absurd H (by simp)
     ·rw [if_neg c5] at H
      have c5b0 : decide (x7_1 < (l1.length : Int)) = false := decide_eq_false c5
      clear c5
      (first | rw [c5b0] | (simp only [i64_w, i32_w]; rw [c5b0]) | skip)
      have H' := Aside0.mk H
      clear H
      go_wp2
      go_meet
      case rel => exact ⟨_, (false), rS, H', ⟨by have := HK1.out; first | omega | exact Nat.le_refl _⟩, ⟨by (with_reducible repeat (first | apply rA | apply rN | apply rD)); exact HO_5.out⟩, ⟨by repeat (first | (with_reducible first | exact HB.out | apply wA | apply wN | apply wD) | exact HB.out)⟩⟩
    case rest =>
     clear HC4
     try clear c1
     try clear p2
     try clear c3
     try clear c3b0
     try clear c4
     try clear p4
     try clear q4
     try clear hx4
     try clear c5
     try clear c5b0
     try clear c6
     try clear c6b0
     try clear hx101_0
     try clear p2
     try clear p101
     try clear q101
     obtain ⟨kq, x25_3, rfl, HA, HJ3, HO_5, HB⟩ := hcut
     cases kq with
     | zero => exact absurd HA.out (by simp [scarfjointref05_places.j1])
     | succ kj3 =>
      have H := HA.out
      clear HA
      simp only [scarfjointref05_places.j1] at H
      by_cases c7 : x25_3 = true
      ·subst c7
       have H1 : (if x5_1.length < 17592186044416 then (scarfjointref05_places.l0 kj3 a0 l1 (x5_1 ++ [(-1)]) x6_1 (wrap64 (x7_1 + 1)) (wrap64 (x8_1 + 1))) else (none)) = some r := by rw [if_pos rfl] at H; exact H
       clear H
       have H := H1
       clear H1
       by_cases c8 : x5_1.length < 17592186044416
       ·rw [if_pos c8] at H
        have LMc8 := Aside0.mk c8
        clear c8
        obtain ⟨y102, hy102⟩ : ∃ y_ : List Int, y_ = (x5_1 ++ [(-1)]) := ⟨_, rfl⟩
        replace H : (scarfjointref05_places.l0 kj3 a0 l1 y102 x6_1 (wrap64 (x7_1 + 1)) (wrap64 (x8_1 + 1))) = some r := by first | (rw [hy102]; with_reducible exact H) | (have H2_ := (Option.bind_some _ _).symm.trans H; rw [hy102]; with_reducible exact H2_) | (have H2_ := (Option.bind_some _ _).symm.trans H; with_reducible exact H2_) | with_reducible exact H | (rw [hy102]; exact H) | exact H
        have Ny102 := Aside0.mk hy102
        clear hy102
        have H' := Aside0.mk H
        clear H
        go_wp2_with (first | ((with_reducible refine gate_builtin (b := .append) (xs := #[.tmp 26, .tmp 27]) rfl ?_); at_builtin; refine Kd.R_append (Kd.int .i64) (w0 := w) w.heap.size rfl (.tmp 26) (.tmp 27) 22 3 (.int .i64 0) 8 rfl Try.underlying22 info3 rfl (by decide) (by omega) u5 x5_1 (-1) [.int .i64 (-1)] (fun _ => True) (fun _ => False) rfl rfl ?aP (fun _ hk => hk.elim) ?aF ?aO ?aB ?aS ?aL ?_; (case aP => exact rfl); (case aB => exact hB); (case aF => exact (fun _ _ => trivial)); (case aO => exact (by (with_reducible repeat (first | apply rA | apply rN | apply rD)); exact HO_5.out)); (case aS => exact (below_size hB)); (case aL => have := LMc8.out; omega); intro v103 w9 ho hb hg hat; rw [← Ny102.out] at ho; have n0_ := Aside0.mk (hb); have n1_ := Aside0.mk (ho); clear HB; clear HO_5; have HB := n0_; have HO104 := n1_; clear n0_ n1_; clear ho hb hg hat))
        go_roundg kj3
        case measure => have := HK1.out; have := HJ3.out; omega
        case rel => exact ⟨(y102), (x6_1), (wrap64 (x7_1 + 1)), (wrap64 (x8_1 + 1)), rS, rS, rS, H', ⟨by have := HK1.out; have := HJ3.out; omega⟩, ⟨by (with_reducible repeat (first | apply rA | apply rN | apply rD)); exact HO104.out⟩, ⟨by repeat (first | (with_reducible first | exact HB.out | apply wA | apply wN | apply wD) | exact HB.out)⟩⟩
       ·rw [if_neg c8] at H
        exact absurd H (by simp)
      ·replace c7 := Bool.eq_false_iff.mpr c7
       subst c7
       have H1 : (if x5_1.length < 17592186044416 then (scarfjointref05_places.l0 kj3 a0 l1 (x5_1 ++ [x6_1]) (wrap64 (x6_1 + 1)) x7_1 (wrap64 (x8_1 + 1))) else (none)) = some r := by rw [if_neg (show ¬ (false = true) by decide)] at H; exact H
       clear H
       have H := H1
       clear H1
       by_cases c10 : x5_1.length < 17592186044416
       ·rw [if_pos c10] at H
        have LMc10 := Aside0.mk c10
        clear c10
        obtain ⟨y105, hy105⟩ : ∃ y_ : List Int, y_ = (x5_1 ++ [x6_1]) := ⟨_, rfl⟩
        replace H : (scarfjointref05_places.l0 kj3 a0 l1 y105 (wrap64 (x6_1 + 1)) x7_1 (wrap64 (x8_1 + 1))) = some r := by first | (rw [hy105]; with_reducible exact H) | (have H2_ := (Option.bind_some _ _).symm.trans H; rw [hy105]; with_reducible exact H2_) | (have H2_ := (Option.bind_some _ _).symm.trans H; with_reducible exact H2_) | with_reducible exact H | (rw [hy105]; exact H) | exact H
        have Ny105 := Aside0.mk hy105
        clear hy105
        have H' := Aside0.mk H
        clear H
        go_wp2_with (first | ((with_reducible refine gate_builtin (b := .append) (xs := #[.tmp 31, .tmp 33]) rfl ?_); at_builtin; refine Kd.R_append (Kd.int .i64) (w0 := w) w.heap.size rfl (.tmp 31) (.tmp 33) 22 3 (.int .i64 0) 8 rfl Try.underlying22 info3 rfl (by decide) (by omega) u5 x5_1 x6_1 [.int .i64 x6_1] (fun _ => True) (fun _ => False) rfl rfl ?aP (fun _ hk => hk.elim) ?aF ?aO ?aB ?aS ?aL ?_; (case aP => exact rfl); (case aB => exact hB); (case aF => exact (fun _ _ => trivial)); (case aO => exact (by (with_reducible repeat (first | apply rA | apply rN | apply rD)); exact HO_5.out)); (case aS => exact (below_size hB)); (case aL => have := LMc10.out; omega); intro v106 w11 ho hb hg hat; rw [← Ny105.out] at ho; have n0_ := Aside0.mk (hb); have n1_ := Aside0.mk (ho); clear HB; clear HO_5; have HB := n0_; have HO107 := n1_; clear n0_ n1_; clear ho hb hg hat))
        go_roundg kj3
        case measure => have := HK1.out; have := HJ3.out; omega
        case rel => exact ⟨(y105), (wrap64 (x6_1 + 1)), (x7_1), (wrap64 (x8_1 + 1)), rS, rS, rS, H', ⟨by have := HK1.out; have := HJ3.out; omega⟩, ⟨by (with_reducible repeat (first | apply rA | apply rN | apply rD)); exact HO107.out⟩, ⟨by repeat (first | (with_reducible first | exact HB.out | apply wA | apply wN | apply wD) | exact HB.out)⟩⟩
       ·rw [if_neg c10] at H
        exact absurd H (by simp)
   ·rw [if_neg c3] at H
    have c3b0 : decide (x8_1 < a0) = false := decide_eq_false c3
    clear c3
    obtain rfl := Option.some.inj H
    go_wp2
    go_ret
    exact ⟨_, by first | rfl | (simp [errW_none, errW_some] <;> rfl) | (simp [*, errW_none, errW_some] <;> rfl), by (with_reducible repeat (first | apply rA | apply rN | apply rD)); exact HO_5.out, by repeat (first | (with_reducible first | exact HB.out | apply wA | apply wN | apply wD) | exact HB.out)⟩
end Go.Proofs.Ytmbnibonggbjgaa.X
