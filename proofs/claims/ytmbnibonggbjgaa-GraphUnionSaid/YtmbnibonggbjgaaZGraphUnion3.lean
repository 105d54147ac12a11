/- A part of the proof that the law GraphUnion returns true at every input: contracts of the functions that it calls, and lemmas. -/
import Derived.Test.YtmbnibonggbjgaaZGraphUnion2
namespace Go.Proofs.Ytmbnibonggbjgaa.X
open Go.RowKit Go.Proofs.YtmbnibonggbjgaaW.PrintWords Go.Proofs.YtmbnibonggbjgaaW.PrintLast Go.Proofs.YtmbnibonggbjgaaW.PrintMore
open Go.Proofs.YtmbnibonggbjgaaW.PrintWords renaming blk_drewN → bN, blk_drew → bD, blk_alloc → bA, below_alloc → wA, pw_below_drewN → wN, below_drew1 → wD, blk_below → bB, below_step → wS, blk_at → bT, blk_grown → bG
open Go.Proofs.YtmbnibonggbjgaaW.PrintWords.Kd renaming R_alloc → rA, R_drewN → rN, R_drew → rD, R_below → rB, R_grown → rG, C_below → cB, C_alloc → cA, C_drewN → cN, C_drew → cD
attribute [local go_sem] max2_int min2_int max_two min_two max_three min_three max_four min_four
set_option linter.unusedVariables false
set_option linter.unusedSimpArgs false
/-! ### graph_Components: function 20 -/
mutual
def graph_Components.l0 : Nat → List Int → Bool → List Int → List (S38) → Option ((List (S64)) × Int)
 | 0, _, _, _, _ => none
 | k + 1, x5, x6, x102000, x102001 => if x6 = true then (graph_Components.l1 k x5 false x102001 (x102001.length : Int) 0 x102000 x102001) else (graph_Components.l2 k x5 ([] : List (S64)) x5 (x5.length : Int) 0 x102000 x102001)
def graph_Components.l1 : Nat → List Int → Bool → List (S38) → Int → Int → List Int → List (S38) → Option ((List (S64)) × Int)
 | 0, _, _, _, _, _, _, _ => none
 | k + 1, x5, x6, x29, x30, x31, x102000, x102001 => if x31 < x30 then (if 0 ≤ x31 then (if x31 < (x29.length : Int) then (if 0 ≤ ((rd_T38 x29 x31).f1) then (if ((rd_T38 x29 x31).f1) < (x5.length : Int) then (if 0 ≤ ((rd_T38 x29 x31).f2) then (if ((rd_T38 x29 x31).f2) < (x5.length : Int) then (if (rd x5 ((rd_T38 x29 x31).f1)) = (mn (rd x5 ((rd_T38 x29 x31).f1)) (rd x5 ((rd_T38 x29 x31).f2))) then (graph_Components.j2 k x5 x6 (mn (rd x5 ((rd_T38 x29 x31).f1)) (rd x5 ((rd_T38 x29 x31).f2))) x29 x30 x31 ((rd x5 ((rd_T38 x29 x31).f2)) != (mn (rd x5 ((rd_T38 x29 x31).f1)) (rd x5 ((rd_T38 x29 x31).f2)))) x102000 x102001 ((rd_T38 x29 x31).f0) ((rd_T38 x29 x31).f1) ((rd_T38 x29 x31).f2)) else (graph_Components.j2 k x5 x6 (mn (rd x5 ((rd_T38 x29 x31).f1)) (rd x5 ((rd_T38 x29 x31).f2))) x29 x30 x31 true x102000 x102001 ((rd_T38 x29 x31).f0) ((rd_T38 x29 x31).f1) ((rd_T38 x29 x31).f2))) else (none)) else (none)) else (none)) else (none)) else (none)) else (none)) else (graph_Components.l0 k x5 x6 x102000 x102001)
def graph_Components.j2 : Nat → List Int → Bool → Int → List (S38) → Int → Int → Bool → List Int → List (S38) → Int → Int → Int → Option ((List (S64)) × Int)
 | 0, _, _, _, _, _, _, _, _, _, _, _, _ => none
 | k + 1, x5, x6, x9, x29, x30, x31, x61, x102000, x102001, x108000, x108001, x108002 => if x61 = true then (if 0 ≤ x108001 then (if x108001 < (x5.length : Int) then (if 0 ≤ x108002 then (if x108002 < (x5.length : Int) then (graph_Components.l1 k ((x5.set (x108001 : Int).toNat x9).set (x108002 : Int).toNat x9) true x29 x30 (wrap64 (x31 + 1)) x102000 x102001) else (none)) else (none)) else (none)) else (none)) else (graph_Components.l1 k x5 x6 x29 x30 (wrap64 (x31 + 1)) x102000 x102001)
def graph_Components.l2 : Nat → List Int → List (S64) → List Int → Int → Int → List Int → List (S38) → Option ((List (S64)) × Int)
 | 0, _, _, _, _, _, _, _ => none
 | k + 1, x5, x10, x73, x74, x75, x102000, x102001 => if x75 < x74 then (if 0 ≤ x75 then (if x75 < (x73.length : Int) then (if x75 = (rd x73 x75) then (graph_Components.l3 k x5 x10 x75 x73 x74 x75 x5 (x5.length : Int) 0 x102000 x102001 ([] : List Int)) else (graph_Components.l2 k x5 x10 x73 x74 (wrap64 (x75 + 1)) x102000 x102001)) else (none)) else (none)) else (some (x10, 0))
def graph_Components.l3 : Nat → List Int → List (S64) → Int → List Int → Int → Int → List Int → Int → Int → List Int → List (S38) → List Int → Option ((List (S64)) × Int)
 | 0, _, _, _, _, _, _, _, _, _, _, _, _ => none
 | k + 1, x5, x10, x11, x73, x74, x75, x83, x84, x85, x102000, x102001, x116000 => if x85 < x84 then (if 0 ≤ x85 then (if x85 < (x83.length : Int) then (if (rd x83 x85) = x11 then (if x116000.length < 17592186044416 then (graph_Components.l3 k x5 x10 x11 x73 x74 x75 x83 x84 (wrap64 (x85 + 1)) x102000 x102001 (x116000 ++ [x85])) else (none)) else (graph_Components.l3 k x5 x10 x11 x73 x74 x75 x83 x84 (wrap64 (x85 + 1)) x102000 x102001 x116000)) else (none)) else (none)) else (graph_Components.l4 k x5 x10 x11 x73 x74 x75 x102001 (x102001.length : Int) 0 x102000 x102001 x116000 ([] : List Int))
def graph_Components.l4 : Nat → List Int → List (S64) → Int → List Int → Int → Int → List (S38) → Int → Int → List Int → List (S38) → List Int → List Int → Option ((List (S64)) × Int)
 | 0, _, _, _, _, _, _, _, _, _, _, _, _, _ => none
 | k + 1, x5, x10, x11, x73, x74, x75, x101, x102, x103, x102000, x102001, x116000, x116001 => if x103 < x102 then (if 0 ≤ x103 then (if x103 < (x101.length : Int) then (if 0 ≤ ((rd_T38 x101 x103).f1) then (if ((rd_T38 x101 x103).f1) < (x5.length : Int) then (if (rd x5 ((rd_T38 x101 x103).f1)) = x11 then (if x116001.length < 17592186044416 then (graph_Components.l4 k x5 x10 x11 x73 x74 x75 x101 x102 (wrap64 (x103 + 1)) x102000 x102001 x116000 (x116001 ++ [x103])) else (none)) else (graph_Components.l4 k x5 x10 x11 x73 x74 x75 x101 x102 (wrap64 (x103 + 1)) x102000 x102001 x116000 x116001)) else (none)) else (none)) else (none)) else (none)) else (if x10.length < 2932031007402 then (graph_Components.l2 k x5 (x10 ++ [(⟨x116000, x116001⟩ : S64)]) x73 x74 (wrap64 (x75 + 1)) x102000 x102001) else (none))
end
def graph_Components.f (k : Nat) (l0_0 : List Int) (l0_1 : List (S38)) : Option ((List (S64)) × Int) := (graph_Valid.f l0_0 l0_1).bind fun t102 => (if t102 = 0 then ((graph_numbers.f k 0 (l0_0.length : Int)).bind fun t103 => (graph_Components.l0 k t103 true l0_0 l0_1)) else (some (([] : List (S64)), t102)))
theorem graph_Components.mono_l : ∀ k, (∀ y0 y1 y2 y3, LeO (graph_Components.l0 k y0 y1 y2 y3) (graph_Components.l0 (k + 1) y0 y1 y2 y3)) ∧ (∀ y0 y1 y2 y3 y4 y5 y6, LeO (graph_Components.l1 k y0 y1 y2 y3 y4 y5 y6) (graph_Components.l1 (k + 1) y0 y1 y2 y3 y4 y5 y6)) ∧ (∀ y0 y1 y2 y3 y4 y5 y6 y7 y8 y9 y10 y11, LeO (graph_Components.j2 k y0 y1 y2 y3 y4 y5 y6 y7 y8 y9 y10 y11) (graph_Components.j2 (k + 1) y0 y1 y2 y3 y4 y5 y6 y7 y8 y9 y10 y11)) ∧ (∀ y0 y1 y2 y3 y4 y5 y6, LeO (graph_Components.l2 k y0 y1 y2 y3 y4 y5 y6) (graph_Components.l2 (k + 1) y0 y1 y2 y3 y4 y5 y6)) ∧ (∀ y0 y1 y2 y3 y4 y5 y6 y7 y8 y9 y10 y11, LeO (graph_Components.l3 k y0 y1 y2 y3 y4 y5 y6 y7 y8 y9 y10 y11) (graph_Components.l3 (k + 1) y0 y1 y2 y3 y4 y5 y6 y7 y8 y9 y10 y11)) ∧ (∀ y0 y1 y2 y3 y4 y5 y6 y7 y8 y9 y10 y11 y12, LeO (graph_Components.l4 k y0 y1 y2 y3 y4 y5 y6 y7 y8 y9 y10 y11 y12) (graph_Components.l4 (k + 1) y0 y1 y2 y3 y4 y5 y6 y7 y8 y9 y10 y11 y12))
 | 0 => ⟨fun _ _ _ _ r h => by simp [graph_Components.l0] at h, fun _ _ _ _ _ _ _ r h => by simp [graph_Components.l1] at h, fun _ _ _ _ _ _ _ _ _ _ _ _ r h => by simp [graph_Components.j2] at h, fun _ _ _ _ _ _ _ r h => by simp [graph_Components.l2] at h, fun _ _ _ _ _ _ _ _ _ _ _ _ r h => by simp [graph_Components.l3] at h, fun _ _ _ _ _ _ _ _ _ _ _ _ _ r h => by simp [graph_Components.l4] at h⟩
 | k + 1 => by
  obtain ⟨ih0, ih1, ih2, ih3, ih4, ih5⟩ := graph_Components.mono_l k
  refine ⟨?_, ?_, ?_, ?_, ?_, ?_⟩
  ·intro y0 y1 y2 y3
   unfold graph_Components.l0
   repeat' first
   | (with_reducible exact ih0 _ _ _ _)
   | (with_reducible exact ih1 _ _ _ _ _ _ _)
   | (with_reducible exact ih2 _ _ _ _ _ _ _ _ _ _ _ _)
   | (with_reducible exact ih3 _ _ _ _ _ _ _)
   | (with_reducible exact ih4 _ _ _ _ _ _ _ _ _ _ _ _)
   | (with_reducible exact ih5 _ _ _ _ _ _ _ _ _ _ _ _ _)
   | (with_reducible exact graph_numbers.mono _ _ _)
   | (with_reducible exact LeO.refl _)
   | (with_reducible exact LeO.none _)
   | (with_reducible refine LeO.ite ?_ ?_)
   | (with_reducible refine LeO.bind ?_ (fun _ => ?_))
   | exact ih0 _ _ _ _
   | exact ih1 _ _ _ _ _ _ _
   | exact ih2 _ _ _ _ _ _ _ _ _ _ _ _
   | exact ih3 _ _ _ _ _ _ _
   | exact ih4 _ _ _ _ _ _ _ _ _ _ _ _
   | exact ih5 _ _ _ _ _ _ _ _ _ _ _ _ _
   | exact graph_numbers.mono _ _ _
   | exact LeO.none _
   | refine LeO.ite ?_ ?_
   | refine LeO.bind ?_ (fun _ => ?_)
  ·intro y0 y1 y2 y3 y4 y5 y6
   unfold graph_Components.l1
   repeat' first
   | (with_reducible exact ih0 _ _ _ _)
   | (with_reducible exact ih1 _ _ _ _ _ _ _)
   | (with_reducible exact ih2 _ _ _ _ _ _ _ _ _ _ _ _)
   | (with_reducible exact ih3 _ _ _ _ _ _ _)
   | (with_reducible exact ih4 _ _ _ _ _ _ _ _ _ _ _ _)
   | (with_reducible exact ih5 _ _ _ _ _ _ _ _ _ _ _ _ _)
   | (with_reducible exact graph_numbers.mono _ _ _)
   | (with_reducible exact LeO.refl _)
   | (with_reducible exact LeO.none _)
   | (with_reducible refine LeO.ite ?_ ?_)
   | (with_reducible refine LeO.bind ?_ (fun _ => ?_))
   | exact ih0 _ _ _ _
   | exact ih1 _ _ _ _ _ _ _
   | exact ih2 _ _ _ _ _ _ _ _ _ _ _ _
   | exact ih3 _ _ _ _ _ _ _
   | exact ih4 _ _ _ _ _ _ _ _ _ _ _ _
   | exact ih5 _ _ _ _ _ _ _ _ _ _ _ _ _
   | exact graph_numbers.mono _ _ _
   | exact LeO.none _
   | refine LeO.ite ?_ ?_
   | refine LeO.bind ?_ (fun _ => ?_)
  ·intro y0 y1 y2 y3 y4 y5 y6 y7 y8 y9 y10 y11
   unfold graph_Components.j2
   repeat' first
   | (with_reducible exact ih0 _ _ _ _)
   | (with_reducible exact ih1 _ _ _ _ _ _ _)
   | (with_reducible exact ih2 _ _ _ _ _ _ _ _ _ _ _ _)
   | (with_reducible exact ih3 _ _ _ _ _ _ _)
   | (with_reducible exact ih4 _ _ _ _ _ _ _ _ _ _ _ _)
   | (with_reducible exact ih5 _ _ _ _ _ _ _ _ _ _ _ _ _)
   | (with_reducible exact graph_numbers.mono _ _ _)
   | (with_reducible exact LeO.refl _)
   | (with_reducible exact LeO.none _)
   | (with_reducible refine LeO.ite ?_ ?_)
   | (with_reducible refine LeO.bind ?_ (fun _ => ?_))
   | exact ih0 _ _ _ _
   | exact ih1 _ _ _ _ _ _ _
   | exact ih2 _ _ _ _ _ _ _ _ _ _ _ _
   | exact ih3 _ _ _ _ _ _ _
   | exact ih4 _ _ _ _ _ _ _ _ _ _ _ _
   | exact ih5 _ _ _ _ _ _ _ _ _ _ _ _ _
   | exact graph_numbers.mono _ _ _
   | exact LeO.none _
   | refine LeO.ite ?_ ?_
   | refine LeO.bind ?_ (fun _ => ?_)
  ·intro y0 y1 y2 y3 y4 y5 y6
   unfold graph_Components.l2
   repeat' first
   | (with_reducible exact ih0 _ _ _ _)
   | (with_reducible exact ih1 _ _ _ _ _ _ _)
   | (with_reducible exact ih2 _ _ _ _ _ _ _ _ _ _ _ _)
   | (with_reducible exact ih3 _ _ _ _ _ _ _)
   | (with_reducible exact ih4 _ _ _ _ _ _ _ _ _ _ _ _)
   | (with_reducible exact ih5 _ _ _ _ _ _ _ _ _ _ _ _ _)
   | (with_reducible exact graph_numbers.mono _ _ _)
   | (with_reducible exact LeO.refl _)
   | (with_reducible exact LeO.none _)
   | (with_reducible refine LeO.ite ?_ ?_)
   | (with_reducible refine LeO.bind ?_ (fun _ => ?_))
   | exact ih0 _ _ _ _
   | exact ih1 _ _ _ _ _ _ _
   | exact ih2 _ _ _ _ _ _ _ _ _ _ _ _
   | exact ih3 _ _ _ _ _ _ _
   | exact ih4 _ _ _ _ _ _ _ _ _ _ _ _
   | exact ih5 _ _ _ _ _ _ _ _ _ _ _ _ _
   | exact graph_numbers.mono _ _ _
   | exact LeO.none _
   | refine LeO.ite ?_ ?_
   | refine LeO.bind ?_ (fun _ => ?_)
  ·intro y0 y1 y2 y3 y4 y5 y6 y7 y8 y9 y10 y11
   unfold graph_Components.l3
   repeat' first
   | (with_reducible exact ih0 _ _ _ _)
   | (with_reducible exact ih1 _ _ _ _ _ _ _)
   | (with_reducible exact ih2 _ _ _ _ _ _ _ _ _ _ _ _)
   | (with_reducible exact ih3 _ _ _ _ _ _ _)
   | (with_reducible exact ih4 _ _ _ _ _ _ _ _ _ _ _ _)
   | (with_reducible exact ih5 _ _ _ _ _ _ _ _ _ _ _ _ _)
   | (with_reducible exact graph_numbers.mono _ _ _)
   | (with_reducible exact LeO.refl _)
   | (with_reducible exact LeO.none _)
   | (with_reducible refine LeO.ite ?_ ?_)
   | (with_reducible refine LeO.bind ?_ (fun _ => ?_))
   | exact ih0 _ _ _ _
   | exact ih1 _ _ _ _ _ _ _
   | exact ih2 _ _ _ _ _ _ _ _ _ _ _ _
   | exact ih3 _ _ _ _ _ _ _
   | exact ih4 _ _ _ _ _ _ _ _ _ _ _ _
   | exact ih5 _ _ _ _ _ _ _ _ _ _ _ _ _
   | exact graph_numbers.mono _ _ _
   | exact LeO.none _
   | refine LeO.ite ?_ ?_
   | refine LeO.bind ?_ (fun _ => ?_)
  ·intro y0 y1 y2 y3 y4 y5 y6 y7 y8 y9 y10 y11 y12
   unfold graph_Components.l4
   repeat' first
   | (with_reducible exact ih0 _ _ _ _)
   | (with_reducible exact ih1 _ _ _ _ _ _ _)
   | (with_reducible exact ih2 _ _ _ _ _ _ _ _ _ _ _ _)
   | (with_reducible exact ih3 _ _ _ _ _ _ _)
   | (with_reducible exact ih4 _ _ _ _ _ _ _ _ _ _ _ _)
   | (with_reducible exact ih5 _ _ _ _ _ _ _ _ _ _ _ _ _)
   | (with_reducible exact graph_numbers.mono _ _ _)
   | (with_reducible exact LeO.refl _)
   | (with_reducible exact LeO.none _)
   | (with_reducible refine LeO.ite ?_ ?_)
   | (with_reducible refine LeO.bind ?_ (fun _ => ?_))
   | exact ih0 _ _ _ _
   | exact ih1 _ _ _ _ _ _ _
   | exact ih2 _ _ _ _ _ _ _ _ _ _ _ _
   | exact ih3 _ _ _ _ _ _ _
   | exact ih4 _ _ _ _ _ _ _ _ _ _ _ _
   | exact ih5 _ _ _ _ _ _ _ _ _ _ _ _ _
   | exact graph_numbers.mono _ _ _
   | exact LeO.none _
   | refine LeO.ite ?_ ?_
   | refine LeO.bind ?_ (fun _ => ?_)
theorem graph_Components.mono : ∀ a0 a1 k, LeO (graph_Components.f k a0 a1) (graph_Components.f (k + 1) a0 a1) := by
 intro a0 a1 k
 obtain ⟨ih0, ih1, ih2, ih3, ih4, ih5⟩ := graph_Components.mono_l k
 unfold graph_Components.f
 repeat' first
   | (with_reducible exact ih0 _ _ _ _)
   | (with_reducible exact ih1 _ _ _ _ _ _ _)
   | (with_reducible exact ih2 _ _ _ _ _ _ _ _ _ _ _ _)
   | (with_reducible exact ih3 _ _ _ _ _ _ _)
   | (with_reducible exact ih4 _ _ _ _ _ _ _ _ _ _ _ _)
   | (with_reducible exact ih5 _ _ _ _ _ _ _ _ _ _ _ _ _)
   | (with_reducible exact graph_numbers.mono _ _ _)
   | (with_reducible exact LeO.refl _)
   | (with_reducible exact LeO.none _)
   | (with_reducible refine LeO.ite ?_ ?_)
   | (with_reducible refine LeO.bind ?_ (fun _ => ?_))
   | exact ih0 _ _ _ _
   | exact ih1 _ _ _ _ _ _ _
   | exact ih2 _ _ _ _ _ _ _ _ _ _ _ _
   | exact ih3 _ _ _ _ _ _ _
   | exact ih4 _ _ _ _ _ _ _ _ _ _ _ _
   | exact ih5 _ _ _ _ _ _ _ _ _ _ _ _ _
   | exact graph_numbers.mono _ _ _
   | exact LeO.none _
   | refine LeO.ite ?_ ?_
   | refine LeO.bind ?_ (fun _ => ?_)
set_option maxHeartbeats 8000000 in
set_option maxRecDepth 100000 in
theorem graph_Components.calls (k : Nat) (A0_0 : Option Addr) (c0_0 : Nat) (l0_0 : List Int) (A0_1 : Option Addr) (c0_1 : Nat) (l0_1 : List (S38)) (r1 : List (S64)) (r2 : Int) (w : World) (hr0_0 : Kd.C (Kd.int .i64) w A0_0 l0_0.length l0_0) (hc0_0 : l0_0.length ≤ c0_0) (hr0_1 : Kd.C k38 w A0_1 l0_1.length l0_1) (hc0_1 : l0_1.length ≤ c0_1) (h : graph_Components.f k l0_0 l0_1 = some (r1, r2)) :
  Calls Try.prog 20 #[.agg #[.slice A0_0 l0_0.length c0_0, .slice A0_1 l0_1.length c0_1]] w fun e w' => ∃ v0_ : Value, e = .returned (.tuple #[v0_, .int .i64 r2]) ∧ Kd.S k64 64 w' w.heap.size (fun _ => True) v0_ r1 ∧ Below w.heap.size w w' := by
 have hu25 := Try.underlying25
 have hu38 := Try.underlying38
 have hu64 := Try.underlying64
 have HR0_0 := Aside0.mk hr0_0
 have HC0_0 := Aside0.mk hc0_0
 clear hr0_0 hc0_0
 have HR0_1 := Aside0.mk hr0_1
 have HC0_1 := Aside0.mk hc0_1
 clear hr0_1 hc0_1
 have HB := Aside0.mk (Below.refl w.heap.size w)
 have H : ((graph_Valid.f l0_0 l0_1).bind fun t102 => (if t102 = 0 then ((graph_numbers.f k 0 (l0_0.length : Int)).bind fun t103 => (graph_Components.l0 k t103 true l0_0 l0_1)) else (some (([] : List (S64)), t102)))) = some (r1, r2) := h
 clear h
 replace H := Option.bind_eq_some_iff.mp H
 obtain ⟨t102, A20, H⟩ := H
 replace H : (if t102 = 0 then ((graph_numbers.f k 0 (l0_0.length : Int)).bind fun t103 => (graph_Components.l0 k t103 true l0_0 l0_1)) else (some (([] : List (S64)), t102))) = some (r1, r2) := H
 have A2 := Aside0.mk A20
 clear A20
 by_cases c3 : t102 = 0
 ·rw [if_pos c3] at H
  have c3b0 : (t102 == 0) = true := beq_iff_eq.mpr c3
  have c3b1 : (t102 != 0) = false := bne_eq_false_iff_eq.mpr c3
  clear c3
  replace H := Option.bind_eq_some_iff.mp H
  obtain ⟨t103, A40, H⟩ := H
  replace H : (graph_Components.l0 k t103 true l0_0 l0_1) = some (r1, r2) := H
  have A4 := Aside0.mk A40
  clear A40
  have H' := Aside0.mk H
  clear H
  go_enter Try.func20, Try.ntmps20
  iterate 3 (try (go_wp2_with (first | ((with_reducible refine gate_dst (N := 1) rfl ?_); refine box_event ?hg (N := 1) ?hd (cs := #[.slice A0_0 l0_0.length c0_0, .slice A0_1 l0_1.length c0_1]) (t := 25) ?hr ?_; (case hd => rfl); (case hg => rfl); (case hr => first | (go_simp; done) | (go_simp; rfl)); intro Q0b hg w5 hbox hb; have Q02 := Aside0.mk (hbox); have Q28 := Aside0.mk ((by rw [hg]; exact (below_size hB) : w.heap.size ≤ Q0b)); have Q1q := Aside0.mk ((by rw [hg]; exact (below_size hB) : w.heap.size ≤ Q0b)); replace HB := uH HB hb; clear hb hbox hg; have Q0j : w5.cell? ⟨Q0b, 0, none⟩ = some (.slice A0_0 l0_0.length c0_0) := (blk_cell Q02.out 0).trans rfl; have Q0k : w5.cell? ⟨Q0b, 1, none⟩ = some (.slice A0_1 l0_1.length c0_1) := (blk_cell Q02.out 1).trans rfl; have Q0l := blk_frozen Q02.out 0; have Q0m := blk_frozen Q02.out 1) | (go_at_call 26; (with_reducible refine (graph_Valid.calls _ _ l0_0 _ _ l0_1 t102 _ ?side1 ?side2 ?side3 ?side4 A2.out).mono ?_); (case side1 => repeat (first | exact (cB HR0_0.out HB.out) | (with_reducible refine cA ?_ _) | (with_reducible refine cN ?_ _) | (with_reducible refine cD ?_))); (case side2 => exact HC0_0.out); (case side3 => repeat (first | exact (cB HR0_1.out HB.out) | (with_reducible refine cA ?_ _) | (with_reducible refine cN ?_ _) | (with_reducible refine cD ?_))); (case side4 => exact HC0_1.out); rintro e w7 ⟨rfl, hb⟩; replace Q02 := uB Q02 hb; replace HB := uH HB hb; (try clear hb); (try clear hb2); (try clear hk); (try clear hi); have Q0n : w7.cell? ⟨Q0b, 0, none⟩ = some (.slice A0_0 l0_0.length c0_0) := (blk_cell Q02.out 0).trans rfl; have Q0o : w7.cell? ⟨Q0b, 1, none⟩ = some (.slice A0_1 l0_1.length c0_1) := (blk_cell Q02.out 1).trans rfl; have Q0p := blk_frozen Q02.out 0; have Q0q := blk_frozen Q02.out 1) | (go_at_call 45; (with_reducible refine (graph_numbers.calls k 0 (l0_0.length : Int) t103 _ A4.out).mono ?_); rintro e w9 ⟨v104, rfl, ho0, hb⟩; have Q29 := Aside0.mk (Kd.R_lower ho0 (below_size (pH HB))); replace Q02 := uB Q02 hb; replace HB := uH HB hb; (try clear hb); (try clear hb2); (try clear hk); (try clear hi); (try clear ho0)))); try (go_quiet (fail)))
  go_loopg [6] k (fun kq v6 w' => ∃ (x5_1 : List Int) (x6_1 : Bool), v6 = .bool x6_1 ∧ Aside0 (graph_Components.l0 kq x5_1 x6_1 l0_0 l0_1 = some (r1, r2)) ∧ Aside0 (kq ≤ k) ∧ Aside0 (Kd.R (Kd.int .i64) 3 w' w.heap.size (fun _ => True) v104 x5_1) ∧ Aside0 (w'.heap[Q0b]? = some (.cells #[(.slice A0_0 l0_0.length c0_0), (.slice A0_1 l0_1.length c0_1)] 25 (0, 0))) ∧ Aside0 (Below w.heap.size w w'))
  case atStart => exact ⟨(t103), (true), rS, H', ⟨Nat.le_refl _⟩, ⟨pR Q29⟩, ⟨pB Q02⟩, ⟨pH HB⟩⟩
  case round =>
   clear H'
   try clear c2; try clear p2; try clear c3; try clear c3b0; try clear c3b1; try clear Q0j; try clear Q0k; try clear Q0n; try clear Q0o; try clear Q0l; try clear Q0m; try clear Q0p; try clear Q0q
   obtain ⟨x5_1, x6_1, rfl, HA, HK1, Q01, Q02, HB⟩ := hrel
   cases gk with
   | zero => exact absurd HA.out (by simp [graph_Components.l0])
   | succ k1 =>
    have H := HA.out
    clear HA
    simp only [graph_Components.l0] at H
    by_cases c10 : x6_1 = true
    ·subst c10
     have H1 : (graph_Components.l1 k1 x5_1 false l0_1 (l0_1.length : Int) 0 l0_0 l0_1) = some (r1, r2) := by rw [if_pos rfl] at H; exact H
     clear H
     have H := H1
     clear H1
     have H' := Aside0.mk H
     clear H
     have Q12 : wr.cell? ⟨Q0b, 0, none⟩ = some (.slice A0_0 l0_0.length c0_0) := (blk_cell Q02.out 0).trans rfl
     have Q13 : wr.cell? ⟨Q0b, 1, none⟩ = some (.slice A0_1 l0_1.length c0_1) := (blk_cell Q02.out 1).trans rfl
     have Q14 := blk_frozen Q02.out 0
     have Q15 := blk_frozen Q02.out 1
     go_wp2
     repeat (go_quiet (fail); try go_wp2)
     go_loopg [6, 31] k1 (fun kq v6 v31 w' => ∃ (x5_2 : List Int) (x6_2 : Bool) (x31_2 : Int), v6 = .bool x6_2 ∧ v31 = .int .i64 x31_2 ∧ Aside0 (graph_Components.l1 kq x5_2 x6_2 l0_1 (l0_1.length : Int) x31_2 l0_0 l0_1 = some (r1, r2)) ∧ Aside0 (kq ≤ k1) ∧ Aside0 (Kd.R (Kd.int .i64) 3 w' w.heap.size (fun _ => True) v104 x5_2) ∧ Aside0 (w'.heap[Q0b]? = some (.cells #[(.slice A0_0 l0_0.length c0_0), (.slice A0_1 l0_1.length c0_1)] 25 (0, 0))) ∧ Aside0 (Below w.heap.size w w'))
     case atStart => exact ⟨(x5_1), (false), (0), rS, rS, H', ⟨Nat.le_refl _⟩, ⟨pR Q01⟩, ⟨pB Q02⟩, ⟨pH HB⟩⟩
     case round =>
      clear H'
      try clear c1; try clear c2; try clear p2; try clear c3; try clear c3b0; try clear c3b1; try clear c10; try clear Q12; try clear Q13; try clear Q0j; try clear Q0k; try clear Q0n; try clear Q0o; try clear Q14; try clear Q15; try clear Q0l; try clear Q0m; try clear Q0p; try clear Q0q; try clear p2
      obtain ⟨x5_2, x6_2, x31_2, rfl, rfl, HA, HK2, Q01, Q02, HB⟩ := hrel
      cases gk with
      | zero => exact absurd HA.out (by simp [graph_Components.l1])
      | succ k2 =>
       have H := HA.out
       clear HA
       simp only [graph_Components.l1] at H
       by_cases c12 : x31_2 < (l0_1.length : Int)
       ·rw [if_pos c12] at H
        have c12b0 : decide (x31_2 < (l0_1.length : Int)) = true := decide_eq_true c12
        clear c12
        by_cases c13 : 0 ≤ x31_2
        ·rw [if_pos c13] at H
         have c13b0 : decide (0 ≤ x31_2) = true := decide_eq_true c13
         clear c13
         by_cases c14 : x31_2 < (l0_1.length : Int)
         ·rw [if_pos c14] at H
          have c14b0 : decide (x31_2 < (l0_1.length : Int)) = true := decide_eq_true c14
          clear c14
          by_cases c15 : 0 ≤ ((rd_T38 l0_1 x31_2).f1)
          ·rw [if_pos c15] at H
           have c15b0 : decide (0 ≤ ((rd_T38 l0_1 x31_2).f1)) = true := decide_eq_true c15
           clear c15
           by_cases c16 : ((rd_T38 l0_1 x31_2).f1) < (x5_2.length : Int)
           ·rw [if_pos c16] at H
            have c16b0 : decide (((rd_T38 l0_1 x31_2).f1) < (x5_2.length : Int)) = true := decide_eq_true c16
            clear c16
            by_cases c17 : 0 ≤ ((rd_T38 l0_1 x31_2).f2)
            ·rw [if_pos c17] at H
             have c17b0 : decide (0 ≤ ((rd_T38 l0_1 x31_2).f2)) = true := decide_eq_true c17
             clear c17
             by_cases c18 : ((rd_T38 l0_1 x31_2).f2) < (x5_2.length : Int)
             ·rw [if_pos c18] at H
              have c18b0 : decide (((rd_T38 l0_1 x31_2).f2) < (x5_2.length : Int)) = true := decide_eq_true c18
              clear c18
              obtain ⟨ji19, hji19⟩ : ∃ j_ : Int, (mn (rd x5_2 ((rd_T38 l0_1 x31_2).f1)) (rd x5_2 ((rd_T38 l0_1 x31_2).f2))) = j_ := ⟨_, rfl⟩
              replace H : (if (rd x5_2 ((rd_T38 l0_1 x31_2).f1)) = (ji19) then (graph_Components.j2 k2 x5_2 x6_2 ji19 l0_1 (l0_1.length : Int) x31_2 ((rd x5_2 ((rd_T38 l0_1 x31_2).f2)) != (ji19)) l0_0 l0_1 ((rd_T38 l0_1 x31_2).f0) ((rd_T38 l0_1 x31_2).f1) ((rd_T38 l0_1 x31_2).f2)) else (graph_Components.j2 k2 x5_2 x6_2 ji19 l0_1 (l0_1.length : Int) x31_2 true l0_0 l0_1 ((rd_T38 l0_1 x31_2).f0) ((rd_T38 l0_1 x31_2).f1) ((rd_T38 l0_1 x31_2).f2))) = some (r1, r2) := by first | (rw [hji19] at H; exact H) | (simp only [hji19] at H ⊢; exact H)
              have hji19_ : (if (rd x5_2 ((rd_T38 l0_1 x31_2).f2)) < (rd x5_2 ((rd_T38 l0_1 x31_2).f1)) then (rd x5_2 ((rd_T38 l0_1 x31_2).f2)) else (rd x5_2 ((rd_T38 l0_1 x31_2).f1))) = ji19 := hji19
              have HC20 := Aside0.mk H
              clear H
              have p106 : 0 ≤ (x31_2 : Int) := oT
              have q106 : x31_2 < (l0_1.length : Int) := oT
              obtain ⟨ad106, e106, hx106_0, hx106_1, hx106_2⟩ := at_T38 HR0_1.out x31_2 p106 q106
              cases e106
              replace hx106_0 := (HB.out.cell (World.block_lt_of_cell? w _ hx106_0)).trans hx106_0
              replace hx106_1 := (HB.out.cell (World.block_lt_of_cell? w _ hx106_1)).trans hx106_1
              replace hx106_2 := (HB.out.cell (World.block_lt_of_cell? w _ hx106_2)).trans hx106_2
              replace p106 := eq_true p106
              replace q106 := eq_true q106
              go_upto_region 12 with (first | ((with_reducible refine gate_dst (N := 8) rfl ?_); refine box_event ?hg (N := 8) ?hd (cs := #[.int .i64 0, .int .i64 0, .int .i64 0]) (t := 38) ?hr ?_; (case hd => rfl); (case hg => rfl); (case hr => first | (go_simp; done) | (go_simp; rfl)); intro Q00 hg w21 hbox hb; replace Q01 := uR Q01 hb; have Q03 := Aside0.mk (hbox); have Q1z := uS HB hg; have Q20 := uS HB hg; replace HB := uH HB hb; have Q0d := uL Q02 hg; have Q0h := uG Q02 hg; replace Q02 := uB Q02 hb; clear hb hbox hg; have Q21 := Q0h.out; have Q22 := Q0d.out; have Q0r : w21.cell? ⟨Q00, 0, none⟩ = some (.int .i64 0) := (blk_cell Q03.out 0).trans rfl; have Q0s : w21.cell? ⟨Q00, 1, none⟩ = some (.int .i64 0) := (blk_cell Q03.out 1).trans rfl; have Q0t : w21.cell? ⟨Q00, 2, none⟩ = some (.int .i64 0) := (blk_cell Q03.out 2).trans rfl; have Q0u := blk_frozen Q03.out 0; have Q0v := blk_frozen Q03.out 1; have Q0w := blk_frozen Q03.out 2; obtain ⟨Q23, Q1r, Q16⟩ := Kd.R_slice Q01.out; subst Q16; have p108 : 0 ≤ (((rd_T38 l0_1 x31_2).f1) : Int) := oT; have q108 : ((rd_T38 l0_1 x31_2).f1) < (x5_2.length : Int) := oT; obtain ⟨ad108, e108, hx108_0⟩ := Kd.at_int (Kd.R_reads' Q01.out).2.2 ((rd_T38 l0_1 x31_2).f1) p108 q108; cases e108; have hn108_0 : ad108.block ≠ Q00 := Kd.own_blk (Kd.R_ne Q01.out Q03.out (by decide)); have hn108_1 : ad108.block ≠ Q00 := Kd.own_blk (Kd.R_ne Q01.out Q03.out (by decide)); have hn108_2 : ad108.block ≠ Q00 := Kd.own_blk (Kd.R_ne Q01.out Q03.out (by decide)); replace hx108_0 := (cell_far (p := ⟨Q00, 0, none⟩) (by first | (rw [add_block]; exact hn108_0) | (show (Addr.add _ _).block ≠ _; rw [add_block]; exact hn108_0) | exact hn108_0) (.int .i64 ((rd_T38 l0_1 x31_2).f0))).trans hx108_0; replace hx108_0 := (cell_far (p := ⟨Q00, 1, none⟩) (by first | (rw [add_block]; exact hn108_1) | (show (Addr.add _ _).block ≠ _; rw [add_block]; exact hn108_1) | exact hn108_1) (.int .i64 ((rd_T38 l0_1 x31_2).f1))).trans hx108_0; replace hx108_0 := (cell_far (p := ⟨Q00, 2, none⟩) (by first | (rw [add_block]; exact hn108_2) | (show (Addr.add _ _).block ≠ _; rw [add_block]; exact hn108_2) | exact hn108_2) (.int .i64 ((rd_T38 l0_1 x31_2).f2))).trans hx108_0; (try have hy108_0 := fun (n_ : Nat) => (show (((((w21.drewN n_).setCell ⟨Q00, 0, none⟩ (.int .i64 ((rd_T38 l0_1 x31_2).f0))).setCell ⟨Q00, 1, none⟩ (.int .i64 ((rd_T38 l0_1 x31_2).f1))).setCell ⟨Q00, 2, none⟩ (.int .i64 ((rd_T38 l0_1 x31_2).f2)))).cell? _ = some _ from hx108_0)); clear hn108_0; clear hn108_1; clear hn108_2; replace p108 := eq_true p108; replace q108 := eq_true q108; have p109 : 0 ≤ (((rd_T38 l0_1 x31_2).f2) : Int) := oT; have q109 : ((rd_T38 l0_1 x31_2).f2) < (x5_2.length : Int) := oT; obtain ⟨ad109, e109, hx109_0⟩ := Kd.at_int (Kd.R_reads' Q01.out).2.2 ((rd_T38 l0_1 x31_2).f2) p109 q109; obtain rfl : ad108 = ad109 := (by injection e109); have hn109_0 : ad108.block ≠ Q00 := Kd.own_blk (Kd.R_ne Q01.out Q03.out (by decide)); have hn109_1 : ad108.block ≠ Q00 := Kd.own_blk (Kd.R_ne Q01.out Q03.out (by decide)); have hn109_2 : ad108.block ≠ Q00 := Kd.own_blk (Kd.R_ne Q01.out Q03.out (by decide)); replace hx109_0 := (cell_far (p := ⟨Q00, 0, none⟩) (by first | (rw [add_block]; exact hn109_0) | (show (Addr.add _ _).block ≠ _; rw [add_block]; exact hn109_0) | exact hn109_0) (.int .i64 ((rd_T38 l0_1 x31_2).f0))).trans hx109_0; replace hx109_0 := (cell_far (p := ⟨Q00, 1, none⟩) (by first | (rw [add_block]; exact hn109_1) | (show (Addr.add _ _).block ≠ _; rw [add_block]; exact hn109_1) | exact hn109_1) (.int .i64 ((rd_T38 l0_1 x31_2).f1))).trans hx109_0; replace hx109_0 := (cell_far (p := ⟨Q00, 2, none⟩) (by first | (rw [add_block]; exact hn109_2) | (show (Addr.add _ _).block ≠ _; rw [add_block]; exact hn109_2) | exact hn109_2) (.int .i64 ((rd_T38 l0_1 x31_2).f2))).trans hx109_0; (try have hy109_0 := fun (n_ : Nat) => (show (((((w21.drewN n_).setCell ⟨Q00, 0, none⟩ (.int .i64 ((rd_T38 l0_1 x31_2).f0))).setCell ⟨Q00, 1, none⟩ (.int .i64 ((rd_T38 l0_1 x31_2).f1))).setCell ⟨Q00, 2, none⟩ (.int .i64 ((rd_T38 l0_1 x31_2).f2)))).cell? _ = some _ from hx109_0)); clear hn109_0; clear hn109_1; clear hn109_2; replace p109 := eq_true p109; replace q109 := eq_true q109))
              repeat (go_quiet (first | ((with_reducible refine gate_dst (N := 8) rfl ?_); refine box_event ?hg (N := 8) ?hd (cs := #[.int .i64 0, .int .i64 0, .int .i64 0]) (t := 38) ?hr ?_; (case hd => rfl); (case hg => rfl); (case hr => first | (go_simp; done) | (go_simp; rfl)); intro Q00 hg w21 hbox hb; replace Q01 := uR Q01 hb; have Q03 := Aside0.mk (hbox); have Q1z := uS HB hg; have Q20 := uS HB hg; replace HB := uH HB hb; have Q0d := uL Q02 hg; have Q0h := uG Q02 hg; replace Q02 := uB Q02 hb; clear hb hbox hg; have Q21 := Q0h.out; have Q22 := Q0d.out; have Q0r : w21.cell? ⟨Q00, 0, none⟩ = some (.int .i64 0) := (blk_cell Q03.out 0).trans rfl; have Q0s : w21.cell? ⟨Q00, 1, none⟩ = some (.int .i64 0) := (blk_cell Q03.out 1).trans rfl; have Q0t : w21.cell? ⟨Q00, 2, none⟩ = some (.int .i64 0) := (blk_cell Q03.out 2).trans rfl; have Q0u := blk_frozen Q03.out 0; have Q0v := blk_frozen Q03.out 1; have Q0w := blk_frozen Q03.out 2; obtain ⟨Q23, Q1r, Q16⟩ := Kd.R_slice Q01.out; subst Q16; have p108 : 0 ≤ (((rd_T38 l0_1 x31_2).f1) : Int) := oT; have q108 : ((rd_T38 l0_1 x31_2).f1) < (x5_2.length : Int) := oT; obtain ⟨ad108, e108, hx108_0⟩ := Kd.at_int (Kd.R_reads' Q01.out).2.2 ((rd_T38 l0_1 x31_2).f1) p108 q108; cases e108; have hn108_0 : ad108.block ≠ Q00 := Kd.own_blk (Kd.R_ne Q01.out Q03.out (by decide)); have hn108_1 : ad108.block ≠ Q00 := Kd.own_blk (Kd.R_ne Q01.out Q03.out (by decide)); have hn108_2 : ad108.block ≠ Q00 := Kd.own_blk (Kd.R_ne Q01.out Q03.out (by decide)); replace hx108_0 := (cell_far (p := ⟨Q00, 0, none⟩) (by first | (rw [add_block]; exact hn108_0) | (show (Addr.add _ _).block ≠ _; rw [add_block]; exact hn108_0) | exact hn108_0) (.int .i64 ((rd_T38 l0_1 x31_2).f0))).trans hx108_0; replace hx108_0 := (cell_far (p := ⟨Q00, 1, none⟩) (by first | (rw [add_block]; exact hn108_1) | (show (Addr.add _ _).block ≠ _; rw [add_block]; exact hn108_1) | exact hn108_1) (.int .i64 ((rd_T38 l0_1 x31_2).f1))).trans hx108_0; replace hx108_0 := (cell_far (p := ⟨Q00, 2, none⟩) (by first | (rw [add_block]; exact hn108_2) | (show (Addr.add _ _).block ≠ _; rw [add_block]; exact hn108_2) | exact hn108_2) (.int .i64 ((rd_T38 l0_1 x31_2).f2))).trans hx108_0; (try have hy108_0 := fun (n_ : Nat) => (show (((((w21.drewN n_).setCell ⟨Q00, 0, none⟩ (.int .i64 ((rd_T38 l0_1 x31_2).f0))).setCell ⟨Q00, 1, none⟩ (.int .i64 ((rd_T38 l0_1 x31_2).f1))).setCell ⟨Q00, 2, none⟩ (.int .i64 ((rd_T38 l0_1 x31_2).f2)))).cell? _ = some _ from hx108_0)); clear hn108_0; clear hn108_1; clear hn108_2; replace p108 := eq_true p108; replace q108 := eq_true q108; have p109 : 0 ≤ (((rd_T38 l0_1 x31_2).f2) : Int) := oT; have q109 : ((rd_T38 l0_1 x31_2).f2) < (x5_2.length : Int) := oT; obtain ⟨ad109, e109, hx109_0⟩ := Kd.at_int (Kd.R_reads' Q01.out).2.2 ((rd_T38 l0_1 x31_2).f2) p109 q109; obtain rfl : ad108 = ad109 := (by injection e109); have hn109_0 : ad108.block ≠ Q00 := Kd.own_blk (Kd.R_ne Q01.out Q03.out (by decide)); have hn109_1 : ad108.block ≠ Q00 := Kd.own_blk (Kd.R_ne Q01.out Q03.out (by decide)); have hn109_2 : ad108.block ≠ Q00 := Kd.own_blk (Kd.R_ne Q01.out Q03.out (by decide)); replace hx109_0 := (cell_far (p := ⟨Q00, 0, none⟩) (by first | (rw [add_block]; exact hn109_0) | (show (Addr.add _ _).block ≠ _; rw [add_block]; exact hn109_0) | exact hn109_0) (.int .i64 ((rd_T38 l0_1 x31_2).f0))).trans hx109_0; replace hx109_0 := (cell_far (p := ⟨Q00, 1, none⟩) (by first | (rw [add_block]; exact hn109_1) | (show (Addr.add _ _).block ≠ _; rw [add_block]; exact hn109_1) | exact hn109_1) (.int .i64 ((rd_T38 l0_1 x31_2).f1))).trans hx109_0; replace hx109_0 := (cell_far (p := ⟨Q00, 2, none⟩) (by first | (rw [add_block]; exact hn109_2) | (show (Addr.add _ _).block ≠ _; rw [add_block]; exact hn109_2) | exact hn109_2) (.int .i64 ((rd_T38 l0_1 x31_2).f2))).trans hx109_0; (try have hy109_0 := fun (n_ : Nat) => (show (((((w21.drewN n_).setCell ⟨Q00, 0, none⟩ (.int .i64 ((rd_T38 l0_1 x31_2).f0))).setCell ⟨Q00, 1, none⟩ (.int .i64 ((rd_T38 l0_1 x31_2).f1))).setCell ⟨Q00, 2, none⟩ (.int .i64 ((rd_T38 l0_1 x31_2).f2)))).cell? _ = some _ from hx109_0)); clear hn109_0; clear hn109_1; clear hn109_2; replace p109 := eq_true p109; replace q109 := eq_true q109)); go_upto_region 12 with (first | ((with_reducible refine gate_dst (N := 8) rfl ?_); refine box_event ?hg (N := 8) ?hd (cs := #[.int .i64 0, .int .i64 0, .int .i64 0]) (t := 38) ?hr ?_; (case hd => rfl); (case hg => rfl); (case hr => first | (go_simp; done) | (go_simp; rfl)); intro Q00 hg w21 hbox hb; replace Q01 := uR Q01 hb; have Q03 := Aside0.mk (hbox); have Q1z := uS HB hg; have Q20 := uS HB hg; replace HB := uH HB hb; have Q0d := uL Q02 hg; have Q0h := uG Q02 hg; replace Q02 := uB Q02 hb; clear hb hbox hg; have Q21 := Q0h.out; have Q22 := Q0d.out; have Q0r : w21.cell? ⟨Q00, 0, none⟩ = some (.int .i64 0) := (blk_cell Q03.out 0).trans rfl; have Q0s : w21.cell? ⟨Q00, 1, none⟩ = some (.int .i64 0) := (blk_cell Q03.out 1).trans rfl; have Q0t : w21.cell? ⟨Q00, 2, none⟩ = some (.int .i64 0) := (blk_cell Q03.out 2).trans rfl; have Q0u := blk_frozen Q03.out 0; have Q0v := blk_frozen Q03.out 1; have Q0w := blk_frozen Q03.out 2; obtain ⟨Q23, Q1r, Q16⟩ := Kd.R_slice Q01.out; subst Q16; have p108 : 0 ≤ (((rd_T38 l0_1 x31_2).f1) : Int) := oT; have q108 : ((rd_T38 l0_1 x31_2).f1) < (x5_2.length : Int) := oT; obtain ⟨ad108, e108, hx108_0⟩ := Kd.at_int (Kd.R_reads' Q01.out).2.2 ((rd_T38 l0_1 x31_2).f1) p108 q108; cases e108; have hn108_0 : ad108.block ≠ Q00 := Kd.own_blk (Kd.R_ne Q01.out Q03.out (by decide)); have hn108_1 : ad108.block ≠ Q00 := Kd.own_blk (Kd.R_ne Q01.out Q03.out (by decide)); have hn108_2 : ad108.block ≠ Q00 := Kd.own_blk (Kd.R_ne Q01.out Q03.out (by decide)); replace hx108_0 := (cell_far (p := ⟨Q00, 0, none⟩) (by first | (rw [add_block]; exact hn108_0) | (show (Addr.add _ _).block ≠ _; rw [add_block]; exact hn108_0) | exact hn108_0) (.int .i64 ((rd_T38 l0_1 x31_2).f0))).trans hx108_0; replace hx108_0 := (cell_far (p := ⟨Q00, 1, none⟩) (by first | (rw [add_block]; exact hn108_1) | (show (Addr.add _ _).block ≠ _; rw [add_block]; exact hn108_1) | exact hn108_1) (.int .i64 ((rd_T38 l0_1 x31_2).f1))).trans hx108_0; replace hx108_0 := (cell_far (p := ⟨Q00, 2, none⟩) (by first | (rw [add_block]; exact hn108_2) | (show (Addr.add _ _).block ≠ _; rw [add_block]; exact hn108_2) | exact hn108_2) (.int .i64 ((rd_T38 l0_1 x31_2).f2))).trans hx108_0; (try have hy108_0 := fun (n_ : Nat) => (show (((((w21.drewN n_).setCell ⟨Q00, 0, none⟩ (.int .i64 ((rd_T38 l0_1 x31_2).f0))).setCell ⟨Q00, 1, none⟩ (.int .i64 ((rd_T38 l0_1 x31_2).f1))).setCell ⟨Q00, 2, none⟩ (.int .i64 ((rd_T38 l0_1 x31_2).f2)))).cell? _ = some _ from hx108_0)); clear hn108_0; clear hn108_1; clear hn108_2; replace p108 := eq_true p108; replace q108 := eq_true q108; have p109 : 0 ≤ (((rd_T38 l0_1 x31_2).f2) : Int) := oT; have q109 : ((rd_T38 l0_1 x31_2).f2) < (x5_2.length : Int) := oT; obtain ⟨ad109, e109, hx109_0⟩ := Kd.at_int (Kd.R_reads' Q01.out).2.2 ((rd_T38 l0_1 x31_2).f2) p109 q109; obtain rfl : ad108 = ad109 := (by injection e109); have hn109_0 : ad108.block ≠ Q00 := Kd.own_blk (Kd.R_ne Q01.out Q03.out (by decide)); have hn109_1 : ad108.block ≠ Q00 := Kd.own_blk (Kd.R_ne Q01.out Q03.out (by decide)); have hn109_2 : ad108.block ≠ Q00 := Kd.own_blk (Kd.R_ne Q01.out Q03.out (by decide)); replace hx109_0 := (cell_far (p := ⟨Q00, 0, none⟩) (by first | (rw [add_block]; exact hn109_0) | (show (Addr.add _ _).block ≠ _; rw [add_block]; exact hn109_0) | exact hn109_0) (.int .i64 ((rd_T38 l0_1 x31_2).f0))).trans hx109_0; replace hx109_0 := (cell_far (p := ⟨Q00, 1, none⟩) (by first | (rw [add_block]; exact hn109_1) | (show (Addr.add _ _).block ≠ _; rw [add_block]; exact hn109_1) | exact hn109_1) (.int .i64 ((rd_T38 l0_1 x31_2).f1))).trans hx109_0; replace hx109_0 := (cell_far (p := ⟨Q00, 2, none⟩) (by first | (rw [add_block]; exact hn109_2) | (show (Addr.add _ _).block ≠ _; rw [add_block]; exact hn109_2) | exact hn109_2) (.int .i64 ((rd_T38 l0_1 x31_2).f2))).trans hx109_0; (try have hy109_0 := fun (n_ : Nat) => (show (((((w21.drewN n_).setCell ⟨Q00, 0, none⟩ (.int .i64 ((rd_T38 l0_1 x31_2).f0))).setCell ⟨Q00, 1, none⟩ (.int .i64 ((rd_T38 l0_1 x31_2).f1))).setCell ⟨Q00, 2, none⟩ (.int .i64 ((rd_T38 l0_1 x31_2).f2)))).cell? _ = some _ from hx109_0)); clear hn109_0; clear hn109_1; clear hn109_2; replace p109 := eq_true p109; replace q109 := eq_true q109)))
              (try simp only [Act.put, List.setIfInBounds_toArray, List.set_cons_zero, List.set_cons_succ])
              go_cut [61] (fun v61 wc => ∃ (kq : Nat) (x61_19 : Bool), v61 = .bool x61_19 ∧ Aside0 (graph_Components.j2 kq x5_2 x6_2 ji19 l0_1 (l0_1.length : Int) x31_2 x61_19 l0_0 l0_1 ((rd_T38 l0_1 x31_2).f0) ((rd_T38 l0_1 x31_2).f1) ((rd_T38 l0_1 x31_2).f2) = some (r1, r2)) ∧ Aside0 (kq ≤ k2) ∧ Aside0 (Kd.R (Kd.int .i64) 3 wc w.heap.size (fun _ => True) (.slice (some ad108) x5_2.length Q1r) x5_2) ∧ Aside0 (wc.heap[Q0b]? = some (.cells #[(.slice A0_0 l0_0.length c0_0), (.slice (some ad106) l0_1.length c0_1)] 25 (0, 0))) ∧ Aside0 (wc.heap[Q00]? = some (.cells #[.int .i64 ((rd_T38 l0_1 x31_2).f0), .int .i64 ((rd_T38 l0_1 x31_2).f1), .int .i64 ((rd_T38 l0_1 x31_2).f2)] 38 (0, 0))) ∧ Aside0 (Below w.heap.size w wc))
              case first =>
               have H := HC20.out
               clear HC20
               by_cases c25 : (rd x5_2 ((rd_T38 l0_1 x31_2).f1)) = (ji19)
               ·rw [if_pos c25] at H
                have c25b0 : ((rd x5_2 ((rd_T38 l0_1 x31_2).f1)) == (ji19)) = true := beq_iff_eq.mpr c25
                have c25b1 : ((rd x5_2 ((rd_T38 l0_1 x31_2).f1)) != (ji19)) = false := bne_eq_false_iff_eq.mpr c25
                clear c25
                (first | rw [c25b0] | (simp only [i64_w, i32_w]; rw [c25b0]) | skip)
                have H' := Aside0.mk H
                clear H
                have Q2u := Q0h.out
                have Q2v := Q0d.out
                have Q17 : w21.cell? ⟨Q00, 0, none⟩ = some (.int .i64 0) := (blk_cell Q03.out 0).trans rfl
                have Q18 : w21.cell? ⟨Q00, 1, none⟩ = some (.int .i64 0) := (blk_cell Q03.out 1).trans rfl
                have Q19 : w21.cell? ⟨Q00, 2, none⟩ = some (.int .i64 0) := (blk_cell Q03.out 2).trans rfl
                have Q1a := blk_frozen Q03.out 0
                have Q1b := blk_frozen Q03.out 1
                have Q1c := blk_frozen Q03.out 2
                have p110 : 0 ≤ (((rd_T38 l0_1 x31_2).f1) : Int) := oT
                have q110 : ((rd_T38 l0_1 x31_2).f1) < (x5_2.length : Int) := oT
                obtain ⟨ad110, e110, hx110_0⟩ := Kd.at_int (Kd.R_reads' Q01.out).2.2 ((rd_T38 l0_1 x31_2).f1) p110 q110
                obtain rfl : ad108 = ad110 := (by injection e110)
                have hn110_0 : ad108.block ≠ Q00 := Kd.own_blk (Kd.R_ne Q01.out Q03.out (by decide))
                have hn110_1 : ad108.block ≠ Q00 := Kd.own_blk (Kd.R_ne Q01.out Q03.out (by decide))
                have hn110_2 : ad108.block ≠ Q00 := Kd.own_blk (Kd.R_ne Q01.out Q03.out (by decide))
                replace hx110_0 := (cell_far (p := ⟨Q00, 0, none⟩) (by first | (rw [add_block]; exact hn110_0) | (show (Addr.add _ _).block ≠ _; rw [add_block]; exact hn110_0) | exact hn110_0) (.int .i64 ((rd_T38 l0_1 x31_2).f0))).trans hx110_0
                replace hx110_0 := (cell_far (p := ⟨Q00, 1, none⟩) (by first | (rw [add_block]; exact hn110_1) | (show (Addr.add _ _).block ≠ _; rw [add_block]; exact hn110_1) | exact hn110_1) (.int .i64 ((rd_T38 l0_1 x31_2).f1))).trans hx110_0
                replace hx110_0 := (cell_far (p := ⟨Q00, 2, none⟩) (by first | (rw [add_block]; exact hn110_2) | (show (Addr.add _ _).block ≠ _; rw [add_block]; exact hn110_2) | exact hn110_2) (.int .i64 ((rd_T38 l0_1 x31_2).f2))).trans hx110_0
                (try have hy110_0 := fun (n_ : Nat) => (show (((((w21.drewN n_).setCell ⟨Q00, 0, none⟩ (.int .i64 ((rd_T38 l0_1 x31_2).f0))).setCell ⟨Q00, 1, none⟩ (.int .i64 ((rd_T38 l0_1 x31_2).f1))).setCell ⟨Q00, 2, none⟩ (.int .i64 ((rd_T38 l0_1 x31_2).f2)))).cell? _ = some _ from hx110_0))
                clear hn110_0
                clear hn110_1
                clear hn110_2
                replace p110 := eq_true p110
                replace q110 := eq_true q110
                have p111 : 0 ≤ (((rd_T38 l0_1 x31_2).f2) : Int) := oT
                have q111 : ((rd_T38 l0_1 x31_2).f2) < (x5_2.length : Int) := oT
                obtain ⟨ad111, e111, hx111_0⟩ := Kd.at_int (Kd.R_reads' Q01.out).2.2 ((rd_T38 l0_1 x31_2).f2) p111 q111
                obtain rfl : ad108 = ad111 := (by injection e111)
                have hn111_0 : ad108.block ≠ Q00 := Kd.own_blk (Kd.R_ne Q01.out Q03.out (by decide))
                have hn111_1 : ad108.block ≠ Q00 := Kd.own_blk (Kd.R_ne Q01.out Q03.out (by decide))
                have hn111_2 : ad108.block ≠ Q00 := Kd.own_blk (Kd.R_ne Q01.out Q03.out (by decide))
                replace hx111_0 := (cell_far (p := ⟨Q00, 0, none⟩) (by first | (rw [add_block]; exact hn111_0) | (show (Addr.add _ _).block ≠ _; rw [add_block]; exact hn111_0) | exact hn111_0) (.int .i64 ((rd_T38 l0_1 x31_2).f0))).trans hx111_0
                replace hx111_0 := (cell_far (p := ⟨Q00, 1, none⟩) (by first | (rw [add_block]; exact hn111_1) | (show (Addr.add _ _).block ≠ _; rw [add_block]; exact hn111_1) | exact hn111_1) (.int .i64 ((rd_T38 l0_1 x31_2).f1))).trans hx111_0
                replace hx111_0 := (cell_far (p := ⟨Q00, 2, none⟩) (by first | (rw [add_block]; exact hn111_2) | (show (Addr.add _ _).block ≠ _; rw [add_block]; exact hn111_2) | exact hn111_2) (.int .i64 ((rd_T38 l0_1 x31_2).f2))).trans hx111_0
                (try have hy111_0 := fun (n_ : Nat) => (show (((((w21.drewN n_).setCell ⟨Q00, 0, none⟩ (.int .i64 ((rd_T38 l0_1 x31_2).f0))).setCell ⟨Q00, 1, none⟩ (.int .i64 ((rd_T38 l0_1 x31_2).f1))).setCell ⟨Q00, 2, none⟩ (.int .i64 ((rd_T38 l0_1 x31_2).f2)))).cell? _ = some _ from hx111_0))
                clear hn111_0
                clear hn111_1
                clear hn111_2
                replace p111 := eq_true p111
                replace q111 := eq_true q111
                go_wp2
                repeat (go_quiet (fail); try go_wp2)
                go_meet
                case rel => exact ⟨_, (((rd x5_2 ((rd_T38 l0_1 x31_2).f2)) != (ji19))), (by first | rfl | (simp; done) | (simp only [← hji19] <;> (first | rfl | simp)) | (simp [*]; done)), H', ⟨by have := HK1.out; have := HK2.out; first | omega | exact Nat.le_refl _⟩, ⟨by (with_reducible repeat (first | apply rA | apply rN | apply rD)); exact Kd.R_mono (Kd.R_far (p := ⟨Q00, 2, none⟩) (Kd.R_far (p := ⟨Q00, 1, none⟩) (Kd.R_far (p := ⟨Q00, 0, none⟩) (Kd.R_types Q01.out Q03.out (by decide)) (fun _ hk => hk.2) (.int .i64 ((rd_T38 l0_1 x31_2).f0))) (fun _ hk => hk.2) (.int .i64 ((rd_T38 l0_1 x31_2).f1))) (fun _ hk => hk.2) (.int .i64 ((rd_T38 l0_1 x31_2).f2))) (fun _ hk => trivial)⟩, ⟨by (with_reducible repeat (first | refine bN ?_ _ | refine bD ?_ | refine bA ?_ _)); refine blk_far ?_ Q0d.out _; (with_reducible repeat (first | refine bN ?_ _ | refine bD ?_ | refine bA ?_ _)); refine blk_far ?_ Q0d.out _; (with_reducible repeat (first | refine bN ?_ _ | refine bD ?_ | refine bA ?_ _)); refine blk_far ?_ Q0d.out _; (with_reducible repeat (first | refine bN ?_ _ | refine bD ?_ | refine bA ?_ _)); exact Q02.out⟩, ⟨by (with_reducible repeat (first | refine bN ?_ _ | refine bD ?_ | refine bA ?_ _)); refine blk_put (cs := #[.int .i64 ((rd_T38 l0_1 x31_2).f0), .int .i64 ((rd_T38 l0_1 x31_2).f1), .int .i64 0]) ?_ 2 _ rfl; (with_reducible repeat (first | refine bN ?_ _ | refine bD ?_ | refine bA ?_ _)); refine blk_put (cs := #[.int .i64 ((rd_T38 l0_1 x31_2).f0), .int .i64 0, .int .i64 0]) ?_ 1 _ rfl; (with_reducible repeat (first | refine bN ?_ _ | refine bD ?_ | refine bA ?_ _)); refine blk_put (cs := #[.int .i64 0, .int .i64 0, .int .i64 0]) ?_ 0 _ rfl; (with_reducible repeat (first | refine bN ?_ _ | refine bD ?_ | refine bA ?_ _)); exact Q03.out⟩, ⟨pH HB⟩⟩
               ·rw [if_neg c25] at H
                have c25b0 : ((rd x5_2 ((rd_T38 l0_1 x31_2).f1)) == (ji19)) = false := beq_eq_false_iff_ne.mpr c25
                have c25b1 : ((rd x5_2 ((rd_T38 l0_1 x31_2).f1)) != (ji19)) = true := bne_iff_ne.mpr c25
                (first | rw [c25b0] | (simp only [i64_w, i32_w]; rw [c25b0]) | skip)
                have H' := Aside0.mk H
                clear H
                have Q2w := Q0h.out
                have Q2x := Q0d.out
                have Q1d : w21.cell? ⟨Q00, 0, none⟩ = some (.int .i64 0) := (blk_cell Q03.out 0).trans rfl
                have Q1e : w21.cell? ⟨Q00, 1, none⟩ = some (.int .i64 0) := (blk_cell Q03.out 1).trans rfl
                have Q1f : w21.cell? ⟨Q00, 2, none⟩ = some (.int .i64 0) := (blk_cell Q03.out 2).trans rfl
                have Q1g := blk_frozen Q03.out 0
                have Q1h := blk_frozen Q03.out 1
                have Q1i := blk_frozen Q03.out 2
                have p110 : 0 ≤ (((rd_T38 l0_1 x31_2).f1) : Int) := oT
                have q110 : ((rd_T38 l0_1 x31_2).f1) < (x5_2.length : Int) := oT
                obtain ⟨ad110, e110, hx110_0⟩ := Kd.at_int (Kd.R_reads' Q01.out).2.2 ((rd_T38 l0_1 x31_2).f1) p110 q110
                obtain rfl : ad108 = ad110 := (by injection e110)
                have hn110_0 : ad108.block ≠ Q00 := Kd.own_blk (Kd.R_ne Q01.out Q03.out (by decide))
                have hn110_1 : ad108.block ≠ Q00 := Kd.own_blk (Kd.R_ne Q01.out Q03.out (by decide))
                have hn110_2 : ad108.block ≠ Q00 := Kd.own_blk (Kd.R_ne Q01.out Q03.out (by decide))
                replace hx110_0 := (cell_far (p := ⟨Q00, 0, none⟩) (by first | (rw [add_block]; exact hn110_0) | (show (Addr.add _ _).block ≠ _; rw [add_block]; exact hn110_0) | exact hn110_0) (.int .i64 ((rd_T38 l0_1 x31_2).f0))).trans hx110_0
                replace hx110_0 := (cell_far (p := ⟨Q00, 1, none⟩) (by first | (rw [add_block]; exact hn110_1) | (show (Addr.add _ _).block ≠ _; rw [add_block]; exact hn110_1) | exact hn110_1) (.int .i64 ((rd_T38 l0_1 x31_2).f1))).trans hx110_0
                replace hx110_0 := (cell_far (p := ⟨Q00, 2, none⟩) (by first | (rw [add_block]; exact hn110_2) | (show (Addr.add _ _).block ≠ _; rw [add_block]; exact hn110_2) | exact hn110_2) (.int .i64 ((rd_T38 l0_1 x31_2).f2))).trans hx110_0
                (try have hy110_0 := fun (n_ : Nat) => (show (((((w21.drewN n_).setCell ⟨Q00, 0, none⟩ (.int .i64 ((rd_T38 l0_1 x31_2).f0))).setCell ⟨Q00, 1, none⟩ (.int .i64 ((rd_T38 l0_1 x31_2).f1))).setCell ⟨Q00, 2, none⟩ (.int .i64 ((rd_T38 l0_1 x31_2).f2)))).cell? _ = some _ from hx110_0))
                clear hn110_0
                clear hn110_1
                clear hn110_2
                replace p110 := eq_true p110
                replace q110 := eq_true q110
                go_wp2
                repeat (go_quiet (fail); try go_wp2)
                go_meet
                case rel => exact ⟨_, (true), rS, H', ⟨by have := HK1.out; have := HK2.out; first | omega | exact Nat.le_refl _⟩, ⟨by (with_reducible repeat (first | apply rA | apply rN | apply rD)); exact Kd.R_mono (Kd.R_far (p := ⟨Q00, 2, none⟩) (Kd.R_far (p := ⟨Q00, 1, none⟩) (Kd.R_far (p := ⟨Q00, 0, none⟩) (Kd.R_types Q01.out Q03.out (by decide)) (fun _ hk => hk.2) (.int .i64 ((rd_T38 l0_1 x31_2).f0))) (fun _ hk => hk.2) (.int .i64 ((rd_T38 l0_1 x31_2).f1))) (fun _ hk => hk.2) (.int .i64 ((rd_T38 l0_1 x31_2).f2))) (fun _ hk => trivial)⟩, ⟨by (with_reducible repeat (first | refine bN ?_ _ | refine bD ?_ | refine bA ?_ _)); refine blk_far ?_ Q0d.out _; (with_reducible repeat (first | refine bN ?_ _ | refine bD ?_ | refine bA ?_ _)); refine blk_far ?_ Q0d.out _; (with_reducible repeat (first | refine bN ?_ _ | refine bD ?_ | refine bA ?_ _)); refine blk_far ?_ Q0d.out _; (with_reducible repeat (first | refine bN ?_ _ | refine bD ?_ | refine bA ?_ _)); exact Q02.out⟩, ⟨by (with_reducible repeat (first | refine bN ?_ _ | refine bD ?_ | refine bA ?_ _)); refine blk_put (cs := #[.int .i64 ((rd_T38 l0_1 x31_2).f0), .int .i64 ((rd_T38 l0_1 x31_2).f1), .int .i64 0]) ?_ 2 _ rfl; (with_reducible repeat (first | refine bN ?_ _ | refine bD ?_ | refine bA ?_ _)); refine blk_put (cs := #[.int .i64 ((rd_T38 l0_1 x31_2).f0), .int .i64 0, .int .i64 0]) ?_ 1 _ rfl; (with_reducible repeat (first | refine bN ?_ _ | refine bD ?_ | refine bA ?_ _)); refine blk_put (cs := #[.int .i64 0, .int .i64 0, .int .i64 0]) ?_ 0 _ rfl; (with_reducible repeat (first | refine bN ?_ _ | refine bD ?_ | refine bA ?_ _)); exact Q03.out⟩, ⟨pH HB⟩⟩
              case rest =>
               clear HC20
               try clear c1; try clear c2; try clear p2; try clear q2; try clear hx2; try clear c3; try clear c3b0; try clear c3b1; try clear c10; try clear c12; try clear c12b0; try clear c13; try clear c13b0; try clear c14; try clear c14b0; try clear c15; try clear c15b0; try clear c16; try clear c16b0; try clear c17; try clear c17b0; try clear c18; try clear c18b0; try clear c20; try clear p20; try clear q20; try clear hx20; try clear c22; try clear c25; try clear c25b0; try clear c25b1; try clear c26; try clear c28; try clear Q12; try clear Q13; try clear Q0r; try clear Q0s; try clear Q0t; try clear Q17; try clear Q18; try clear Q19; try clear Q1d; try clear Q1e; try clear Q1f; try clear Q0j; try clear Q0k; try clear Q0n; try clear Q0o; try clear Q14; try clear Q15; try clear Q0u; try clear Q0v; try clear Q0w; try clear Q1a; try clear Q1b; try clear Q1c; try clear Q1g; try clear Q1h; try clear Q1i; try clear Q0l; try clear Q0m; try clear Q0p; try clear Q0q; try clear hx106_0; try clear hx106_1; try clear hx106_2; try clear hx108_0; try clear hx109_0; try clear hx110_0; try clear hx111_0; try clear p2; try clear p106; try clear p108; try clear p109; try clear p110; try clear p111; try clear q106; try clear q108; try clear q109; try clear q110; try clear q111
               obtain ⟨kq, x61_19, rfl, HA, HJ19, Q01, Q02, Q03, HB⟩ := hcut
               cases kq with
               | zero => exact absurd HA.out (by simp [graph_Components.j2])
               | succ kj19 =>
                have H := HA.out
                clear HA
                simp only [graph_Components.j2] at H
                by_cases c30 : x61_19 = true
                ·subst c30
                 have H1 : (if 0 ≤ ((rd_T38 l0_1 x31_2).f1) then (if ((rd_T38 l0_1 x31_2).f1) < (x5_2.length : Int) then (if 0 ≤ ((rd_T38 l0_1 x31_2).f2) then (if ((rd_T38 l0_1 x31_2).f2) < (x5_2.length : Int) then (graph_Components.l1 kj19 ((x5_2.set (((rd_T38 l0_1 x31_2).f1) : Int).toNat ji19).set (((rd_T38 l0_1 x31_2).f2) : Int).toNat ji19) true l0_1 (l0_1.length : Int) (wrap64 (x31_2 + 1)) l0_0 l0_1) else (none)) else (none)) else (none)) else (none)) = some (r1, r2) := by rw [if_pos rfl] at H; exact H
                 clear H
                 have H := H1
                 clear H1
                 by_cases c31 : 0 ≤ ((rd_T38 l0_1 x31_2).f1)
                 ·rw [if_pos c31] at H
                  have c31b0 : decide (0 ≤ ((rd_T38 l0_1 x31_2).f1)) = true := decide_eq_true c31
                  clear c31
                  by_cases c32 : ((rd_T38 l0_1 x31_2).f1) < (x5_2.length : Int)
                  ·rw [if_pos c32] at H
                   have c32b0 : decide (((rd_T38 l0_1 x31_2).f1) < (x5_2.length : Int)) = true := decide_eq_true c32
                   clear c32
                   obtain ⟨y112, hy112⟩ : ∃ y_ : List Int, y_ = (x5_2.set (((rd_T38 l0_1 x31_2).f1) : Int).toNat ji19) := ⟨_, rfl⟩
                   replace H : (if 0 ≤ ((rd_T38 l0_1 x31_2).f2) then (if ((rd_T38 l0_1 x31_2).f2) < (x5_2.length : Int) then (graph_Components.l1 kj19 (y112.set (((rd_T38 l0_1 x31_2).f2) : Int).toNat ji19) true l0_1 (l0_1.length : Int) (wrap64 (x31_2 + 1)) l0_0 l0_1) else (none)) else (none)) = some (r1, r2) := by first | (rw [hy112]; with_reducible exact H) | (have H2_ := (Option.bind_some _ _).symm.trans H; rw [hy112]; with_reducible exact H2_) | (have H2_ := (Option.bind_some _ _).symm.trans H; with_reducible exact H2_) | with_reducible exact H | (rw [hy112]; exact H) | exact H
                   have Ny112 := Aside0.mk hy112
                   clear hy112
                   by_cases c34 : 0 ≤ ((rd_T38 l0_1 x31_2).f2)
                   ·rw [if_pos c34] at H
                    have c34b0 : decide (0 ≤ ((rd_T38 l0_1 x31_2).f2)) = true := decide_eq_true c34
                    clear c34
                    by_cases c35 : ((rd_T38 l0_1 x31_2).f2) < (x5_2.length : Int)
                    ·rw [if_pos c35] at H
                     have c35b0 : decide (((rd_T38 l0_1 x31_2).f2) < (x5_2.length : Int)) = true := decide_eq_true c35
                     clear c35
                     obtain ⟨y113, hy113⟩ : ∃ y_ : List Int, y_ = (y112.set (((rd_T38 l0_1 x31_2).f2) : Int).toNat ji19) := ⟨_, rfl⟩
                     replace H : (graph_Components.l1 kj19 y113 true l0_1 (l0_1.length : Int) (wrap64 (x31_2 + 1)) l0_0 l0_1) = some (r1, r2) := by first | (rw [hy113]; with_reducible exact H) | (have H2_ := (Option.bind_some _ _).symm.trans H; rw [hy113]; with_reducible exact H2_) | (have H2_ := (Option.bind_some _ _).symm.trans H; with_reducible exact H2_) | with_reducible exact H | (rw [hy113]; exact H) | exact H
                     have Ny113 := Aside0.mk hy113
                     clear hy113
                     have H' := Aside0.mk H
                     clear H
                     have Q2y := Q0h.out
                     have Q2z := Q0d.out
                     have Q1s : wc.cell? ⟨Q00, 0, none⟩ = some (.int .i64 ((rd_T38 l0_1 x31_2).f0)) := (blk_cell Q03.out 0).trans rfl
                     have Q1t : wc.cell? ⟨Q00, 1, none⟩ = some (.int .i64 ((rd_T38 l0_1 x31_2).f1)) := (blk_cell Q03.out 1).trans rfl
                     have Q1j : wc.cell? ⟨Q00, 2, none⟩ = some (.int .i64 ((rd_T38 l0_1 x31_2).f2)) := (blk_cell Q03.out 2).trans rfl
                     have Q1u := blk_frozen Q03.out 0
                     have Q1v := blk_frozen Q03.out 1
                     have Q1w := blk_frozen Q03.out 2
                     have p33 : 0 ≤ (((rd_T38 l0_1 x31_2).f1) : Int) := oT
                     have q33 : (((rd_T38 l0_1 x31_2).f1) : Int) < ((x5_2.length : Int) : Int) := oT
                     obtain ⟨go33, Q30, Q24, Q25, gl33, cl33, HG33⟩ := Kd.R_form Q01.out (by omega)
                     (first | cases Q24 | (injection Q24 with ea_ en_ ec_; (first | subst ea_ | (injection ea_ with ea_; subst ea_)); subst ec_; clear en_))
                     have GB33 := Aside0.mk Q25
                     have GG33 := Aside0.mk HG33
                     clear Q25 gl33 HG33
                     (first | simp only [add_plain] at hx108_0 | skip)
                     (first | simp only [add_plain] at hx109_0 | skip)
                     (first | simp only [add_plain] at hx110_0 | skip)
                     (first | simp only [add_plain] at hx111_0 | skip)
                     obtain ⟨hx33_0, hf33_0⟩ := Kd.R_celln 0 Q01.out (((rd_T38 l0_1 x31_2).f1) : Int) p33 q33
                     replace p33 := eq_true p33
                     replace q33 := eq_true q33
                     have HP39 := Kd.R_putg Q01.out (((rd_T38 l0_1 x31_2).f1) : Int) ji19
                     obtain ⟨hx2_, hf2_⟩ := Kd.R_celln 0 HP39.1 (((rd_T38 l0_1 x31_2).f2) : Int) (of_decide_eq_true c34b0) (of_decide_eq_true c35b0)
                     have p35_ := eq_true (of_decide_eq_true c34b0)
                     have q35_ := eq_true (of_decide_eq_true c35b0)
                     have HP2_ := Kd.R_putg HP39.1 (((rd_T38 l0_1 x31_2).f2) : Int) ji19
                     have hne_ : go33 ≠ Q00 := blk_ne GG33.out Q03.out (by decide)
                     have hy2_ : (wc.setCell ⟨go33, (((rd_T38 l0_1 x31_2).f1) : Int).toNat, none⟩ (.int .i64 ji19)).cell? ⟨Q00, 2, none⟩ = some (.int .i64 ((rd_T38 l0_1 x31_2).f2)) := (World.cell?_setCell_other _ _ _ _ (by intro e; injection e with e; exact hne_ e)).trans Q1j
                     have n0_ := Aside0.mk HP2_.1
                     rw [← Ny112.out, ← Ny113.out] at n0_
                     have n1_ := Aside0.mk (bG (bG Q02.out HP39.2 (Kd.R_ne Q01.out Q02.out (by decide))) HP2_.2 (Kd.R_ne Q01.out Q02.out (by decide)))
                     have n3_ := Aside0.mk (bG (bG Q03.out HP39.2 (Kd.R_ne Q01.out Q03.out (by decide))) HP2_.2 (Kd.R_ne Q01.out Q03.out (by decide)))
                     have n2_ := Aside0.mk (below_set (v := .int .i64 ji19) (j := (((rd_T38 l0_1 x31_2).f2) : Int).toNat) (below_set (v := .int .i64 ji19) (j := (((rd_T38 l0_1 x31_2).f1) : Int).toNat) HB.out GB33.out) GB33.out)
                     clear HP39 HP2_ Q01 Q02 Q03 HB hne_
                     have Q01 := n0_
                     have Q02 := n1_
                     have Q03 := n3_
                     have HB := n2_
                     clear n0_ n1_ n2_ n3_
                     go_wp2_with fail
                     go_region
                     go_wp2_with fail
                     go_roundg kj19
                     case measure => have := HK1.out; have := HK2.out; have := HJ19.out; omega
                     case rel => exact ⟨(y113), (true), (wrap64 (x31_2 + 1)), rS, rS, H', ⟨by have := HK1.out; have := HK2.out; have := HJ19.out; omega⟩, ⟨pR Q01⟩, ⟨pB Q02⟩, ⟨pH HB⟩⟩
                    ·rw [if_neg c35] at H
                     exact absurd H (by simp)
                   ·rw [if_neg c34] at H
                    exact absurd H (by simp)
                  ·rw [if_neg c32] at H
                   exact absurd H (by simp)
                 ·rw [if_neg c31] at H
                  exact absurd H (by simp)
                ·replace c30 := Bool.eq_false_iff.mpr c30
                 subst c30
                 have H1 : (graph_Components.l1 kj19 x5_2 x6_2 l0_1 (l0_1.length : Int) (wrap64 (x31_2 + 1)) l0_0 l0_1) = some (r1, r2) := by rw [if_neg (show ¬ (false = true) by decide)] at H; exact H
                 clear H
                 have H := H1
                 clear H1
                 have H' := Aside0.mk H
                 clear H
                 go_wp2
                 repeat (go_quiet (fail); try go_wp2)
                 go_roundg kj19
                 case measure => have := HK1.out; have := HK2.out; have := HJ19.out; omega
                 case rel => exact ⟨(x5_2), (x6_2), (wrap64 (x31_2 + 1)), rS, rS, H', ⟨by have := HK1.out; have := HK2.out; have := HJ19.out; omega⟩, ⟨pR Q01⟩, ⟨pB Q02⟩, ⟨pH HB⟩⟩
             ·rw [if_neg c18] at H
              exact absurd H (by simp)
            ·rw [if_neg c17] at H
             exact absurd H (by simp)
           ·rw [if_neg c16] at H
            exact absurd H (by simp)
          ·rw [if_neg c15] at H
           exact absurd H (by simp)
         ·rw [if_neg c14] at H
          exact absurd H (by simp)
        ·rw [if_neg c13] at H
         exact absurd H (by simp)
       ·rw [if_neg c12] at H
        have c12b0 : decide (x31_2 < (l0_1.length : Int)) = false := decide_eq_false c12
        clear c12
        have H' := Aside0.mk H
        clear H
        go_wp2
        repeat (go_quiet (fail); try go_wp2)
        go_roundg k2
        case measure => have := HK1.out; have := HK2.out; omega
        case rel => exact ⟨(x5_2), (x6_2), rS, H', ⟨by have := HK1.out; have := HK2.out; omega⟩, ⟨pR Q01⟩, ⟨pB Q02⟩, ⟨pH HB⟩⟩
    ·replace c10 := Bool.eq_false_iff.mpr c10
     subst c10
     have H1 : (graph_Components.l2 k1 x5_1 ([] : List (S64)) x5_1 (x5_1.length : Int) 0 l0_0 l0_1) = some (r1, r2) := by rw [if_neg (show ¬ (false = true) by decide)] at H; exact H
     clear H
     have H := H1
     clear H1
     have H' := Aside0.mk H
     clear H
     obtain ⟨Q1k, Q06, Q2a⟩ := Kd.R_slice Q01.out
     subst Q2a
     go_wp2
     repeat (go_quiet (fail); try go_wp2)
     go_loopg [10, 75] k1 (fun kq v10 v75 w' => ∃ (x10_2 : List (S64)) (x75_2 : Int), v75 = .int .i64 x75_2 ∧ Aside0 (graph_Components.l2 kq x5_1 x10_2 x5_1 (x5_1.length : Int) x75_2 l0_0 l0_1 = some (r1, r2)) ∧ Aside0 (kq ≤ k1) ∧ Aside0 (Kd.R (Kd.int .i64) 3 w' w.heap.size (fun _ => True) (.slice Q1k x5_1.length Q06) x5_1) ∧ Aside0 (Kd.S k64 64 w' w.heap.size (fun k_ => some k_ ≠ ((.slice Q1k x5_1.length Q06) : Value).ownBlock ∧ some k_ ≠ ((.slice Q1k x5_1.length Q06) : Value).ownBlock) v10 x10_2) ∧ Aside0 (Kd.R (Kd.int .i64) 3 w' w.heap.size (fun _ => True) (.slice Q1k x5_1.length Q06) x5_1) ∧ Aside0 (w'.heap[Q0b]? = some (.cells #[(.slice A0_0 l0_0.length c0_0), (.slice A0_1 l0_1.length c0_1)] 25 (0, 0))) ∧ Aside0 (Below w.heap.size w w'))
     case atStart => exact ⟨(([] : List (S64))), (0), rS, H', ⟨Nat.le_refl _⟩, ⟨pR Q01⟩, ⟨by first | exact Kd.S_nil _ _ _ _ _ | exact Kd.N_nil _ _ _ _ _ | exact Kd.V_nil _ _ _ _ _ | exact Kd.Q_nil _ _ _ _ _ | exact Kd.R_nil _ _ _ _ _⟩, ⟨pR Q01⟩, ⟨pB Q02⟩, ⟨pH HB⟩⟩
     case round =>
      clear H'
      try clear c1; try clear c2; try clear p2; try clear q2; try clear hx2; try clear c3; try clear c3b0; try clear c3b1; try clear p3; try clear q3; try clear hx3; try clear hf3; try clear p6; try clear c10; try clear c12; try clear c12b0; try clear c13; try clear c13b0; try clear c14; try clear c14b0; try clear c15; try clear c15b0; try clear c16; try clear c16b0; try clear c17; try clear c17b0; try clear c18; try clear c18b0; try clear c20; try clear p20; try clear q20; try clear hx20; try clear c22; try clear c25; try clear c25b0; try clear c25b1; try clear c26; try clear c28; try clear c30; try clear c31; try clear c31b0; try clear c32; try clear c32b0; try clear p33; try clear q33; try clear hx33; try clear hf33; try clear c34; try clear c34b0; try clear c35; try clear c35b0; try clear p36; try clear q36; try clear hx36; try clear hf36; try clear c37; try clear Q12; try clear Q13; try clear Q0r; try clear Q0s; try clear Q0t; try clear Q17; try clear Q18; try clear Q19; try clear Q1d; try clear Q1e; try clear Q1f; try clear Q1s; try clear Q1t; try clear Q1j; try clear Q0j; try clear Q0k; try clear Q0n; try clear Q0o; try clear Q14; try clear Q15; try clear Q0u; try clear Q0v; try clear Q0w; try clear Q1a; try clear Q1b; try clear Q1c; try clear Q1g; try clear Q1h; try clear Q1i; try clear Q1u; try clear Q1v; try clear Q1w; try clear Q0l; try clear Q0m; try clear Q0p; try clear Q0q; try clear hx106_0; try clear hx106_1; try clear hx106_2; try clear hx108_0; try clear hx109_0; try clear hx110_0; try clear hx111_0; try clear hx33_0; try clear hx36_0; try clear p2; try clear p20; try clear p106; try clear p108; try clear p109; try clear p110; try clear p111; try clear p33; try clear p36; try clear q2; try clear q20; try clear q106; try clear q108; try clear q109; try clear q110; try clear q111; try clear q33; try clear q36
      obtain ⟨x10_2, x75_2, rfl, HA, HK2, Q01, Q09, Q0a, Q02, HB⟩ := hrel
      cases gk with
      | zero => exact absurd HA.out (by simp [graph_Components.l2])
      | succ k2 =>
       have H := HA.out
       clear HA
       simp only [graph_Components.l2] at H
       by_cases c44 : x75_2 < (x5_1.length : Int)
       ·rw [if_pos c44] at H
        have c44b0 : decide (x75_2 < (x5_1.length : Int)) = true := decide_eq_true c44
        clear c44
        by_cases c45 : 0 ≤ x75_2
        ·rw [if_pos c45] at H
         have c45b0 : decide (0 ≤ x75_2) = true := decide_eq_true c45
         clear c45
         by_cases c46 : x75_2 < (x5_1.length : Int)
         ·rw [if_pos c46] at H
          have c46b0 : decide (x75_2 < (x5_1.length : Int)) = true := decide_eq_true c46
          clear c46
          by_cases c47 : x75_2 = (rd x5_1 x75_2)
          ·rw [if_pos c47] at H
           have c47b0 : (x75_2 == (rd x5_1 x75_2)) = true := beq_iff_eq.mpr c47
           have c47b1 : (x75_2 != (rd x5_1 x75_2)) = false := bne_eq_false_iff_eq.mpr c47
           clear c47
           have H' := Aside0.mk H
           clear H
           have p114 : 0 ≤ (x75_2 : Int) := oT
           have q114 : x75_2 < (x5_1.length : Int) := oT
           obtain ⟨ad114, e114, hx114_0⟩ := Kd.at_int (Kd.R_reads' Q0a.out).2.2 x75_2 p114 q114
           cases e114
           replace p114 := eq_true p114
           replace q114 := eq_true q114
           iterate 3 (try (go_wp2_with (first | ((with_reducible refine gate_dst (N := 13) rfl ?_); refine box_event ?hg (N := 13) ?hd (cs := #[.slice none 0 0, .slice none 0 0]) (t := 64) ?hr ?_; (case hd => rfl); (case hg => rfl); (case hr => first | (go_simp; done) | (go_simp; rfl)); intro Q07 hg w48 hbox hb; replace Q01 := uR Q01 hb; replace Q09 := Aside0.mk (Kd.S_below (Kd.S_elderB (by (with_reducible repeat (first | apply Kd.S_alloc | apply Kd.S_drewN | apply Kd.S_drew)); exact Q09.out) Q07 (Nat.le_of_eq hg.symm)) hb); replace Q0a := uR Q0a hb; have Q05 := Aside0.mk (hbox); have Q31 := uS HB hg; have Q32 := uS HB hg; replace HB := uH HB hb; have Q0x := uL Q02 hg; have Q1l := uG Q02 hg; replace Q02 := uB Q02 hb; clear hb hbox hg))); try (go_quiet (fail)))
           go_loopg [85] k2 (fun kq v85 w' => ∃ (x85_3 : Int) (x116000_3 : List Int) (u116000 : Value), v85 = .int .i64 x85_3 ∧ Aside0 (graph_Components.l3 kq x5_1 x10_2 x75_2 x5_1 (x5_1.length : Int) x75_2 x5_1 (x5_1.length : Int) x85_3 l0_0 l0_1 x116000_3 = some (r1, r2)) ∧ Aside0 (kq ≤ k2) ∧ Aside0 (Kd.R (Kd.int .i64) 3 w' w.heap.size (fun k_ => some k_ ≠ (u116000 : Value).ownBlock) (.slice (some ad114) x5_1.length Q06) x5_1) ∧ Aside0 (Kd.S k64 64 w' w.heap.size (fun k_ => some k_ ≠ ((.slice (some ad114) x5_1.length Q06) : Value).ownBlock ∧ some k_ ≠ ((.slice (some ad114) x5_1.length Q06) : Value).ownBlock ∧ some k_ ≠ ((.slice (some ad114) x5_1.length Q06) : Value).ownBlock ∧ some k_ ≠ (u116000 : Value).ownBlock ∧ k_ ≠ Q07) u10 x10_2) ∧ Aside0 (Kd.R (Kd.int .i64) 3 w' w.heap.size (fun k_ => some k_ ≠ (u116000 : Value).ownBlock) (.slice (some ad114) x5_1.length Q06) x5_1) ∧ Aside0 (Kd.R (Kd.int .i64) 3 w' w.heap.size (fun k_ => some k_ ≠ (u116000 : Value).ownBlock) (.slice (some ad114) x5_1.length Q06) x5_1) ∧ Aside0 (Kd.R (Kd.int .i64) 3 w' w.heap.size (fun k_ => some k_ ≠ ((.slice (some ad114) x5_1.length Q06) : Value).ownBlock ∧ some k_ ≠ ((.slice (some ad114) x5_1.length Q06) : Value).ownBlock ∧ some k_ ≠ ((.slice (some ad114) x5_1.length Q06) : Value).ownBlock) u116000 x116000_3) ∧ Aside0 (w'.heap[Q0b]? = some (.cells #[(.slice A0_0 l0_0.length c0_0), (.slice A0_1 l0_1.length c0_1)] 25 (0, 0))) ∧ Aside0 (w'.heap[Q07]? = some (.cells #[u116000, (.slice none 0 0)] 64 (0, 0))) ∧ Aside0 (Below w.heap.size w w'))
           case atStart => exact ⟨(0), (([] : List Int)), (.slice none 0 0), rS, H', ⟨Nat.le_refl _⟩, ⟨by (with_reducible repeat (first | apply rA | apply rN | apply rD)); exact Kd.R_mono Q01.out (fun _ hk => (by simp [Value.ownBlock]))⟩, ⟨by (with_reducible repeat (first | apply Kd.S_alloc | apply Kd.S_drewN | apply Kd.S_drew)); exact Kd.S_mono Q09.out (fun _ hk => ⟨hk.1.1, ⟨hk.1.2, ⟨hk.1.1, ⟨(by simp [Value.ownBlock]), hk.2⟩⟩⟩⟩)⟩, ⟨by (with_reducible repeat (first | apply rA | apply rN | apply rD)); exact Kd.R_mono Q0a.out (fun _ hk => (by simp [Value.ownBlock]))⟩, ⟨by (with_reducible repeat (first | apply rA | apply rN | apply rD)); exact Kd.R_mono Q01.out (fun _ hk => (by simp [Value.ownBlock]))⟩, ⟨by first | exact Kd.R_nil _ _ _ _ _ | exact Kd.N_nil _ _ _ _ _ | exact Kd.V_nil _ _ _ _ _ | exact Kd.Q_nil _ _ _ _ _ | exact Kd.S_nil _ _ _ _ _⟩, ⟨pB Q02⟩, ⟨pB Q05⟩, ⟨pH HB⟩⟩
           case round =>
            clear H'
            try clear c1; try clear c2; try clear p2; try clear q2; try clear hx2; try clear c3; try clear c3b0; try clear c3b1; try clear p3; try clear q3; try clear hx3; try clear hf3; try clear c4; try clear p6; try clear c10; try clear c12; try clear c12b0; try clear c13; try clear c13b0; try clear c14; try clear c14b0; try clear c15; try clear c15b0; try clear c16; try clear c16b0; try clear c17; try clear c17b0; try clear c18; try clear c18b0; try clear c20; try clear p20; try clear q20; try clear hx20; try clear c22; try clear c25; try clear c25b0; try clear c25b1; try clear c26; try clear c28; try clear c30; try clear c31; try clear c31b0; try clear c32; try clear c32b0; try clear p33; try clear q33; try clear hx33; try clear hf33; try clear c34; try clear c34b0; try clear c35; try clear c35b0; try clear p36; try clear q36; try clear hx36; try clear hf36; try clear c37; try clear c44; try clear c44b0; try clear c45; try clear c45b0; try clear c46; try clear c46b0; try clear c47; try clear c47b0; try clear c47b1; try clear Q12; try clear Q13; try clear Q0r; try clear Q0s; try clear Q0t; try clear Q17; try clear Q18; try clear Q19; try clear Q1d; try clear Q1e; try clear Q1f; try clear Q1s; try clear Q1t; try clear Q1j; try clear Q0j; try clear Q0k; try clear Q0n; try clear Q0o; try clear Q14; try clear Q15; try clear Q0u; try clear Q0v; try clear Q0w; try clear Q1a; try clear Q1b; try clear Q1c; try clear Q1g; try clear Q1h; try clear Q1i; try clear Q1u; try clear Q1v; try clear Q1w; try clear Q0l; try clear Q0m; try clear Q0p; try clear Q0q; try clear hx106_0; try clear hx106_1; try clear hx106_2; try clear hx108_0; try clear hx109_0; try clear hx110_0; try clear hx111_0; try clear hx114_0; try clear hx33_0; try clear hx36_0; try clear p2; try clear p20; try clear p106; try clear p108; try clear p109; try clear p110; try clear p111; try clear p114; try clear p3; try clear p33; try clear p36; try clear p6; try clear q2; try clear q20; try clear q106; try clear q108; try clear q109; try clear q110; try clear q111; try clear q114; try clear q3; try clear q33; try clear q36
            obtain ⟨x85_3, x116000_3, u116000, rfl, HA, HK3, Q01, Q09, Q0a, Q0i, Q0c, Q02, Q05, HB⟩ := hrel
            cases gk with
            | zero => exact absurd HA.out (by simp [graph_Components.l3])
            | succ k3 =>
             have H := HA.out
             clear HA
             simp only [graph_Components.l3] at H
             by_cases c49 : x85_3 < (x5_1.length : Int)
             ·rw [if_pos c49] at H
              have c49b0 : decide (x85_3 < (x5_1.length : Int)) = true := decide_eq_true c49
              clear c49
              by_cases c50 : 0 ≤ x85_3
              ·rw [if_pos c50] at H
               have c50b0 : decide (0 ≤ x85_3) = true := decide_eq_true c50
               clear c50
               by_cases c51 : x85_3 < (x5_1.length : Int)
               ·rw [if_pos c51] at H
                have c51b0 : decide (x85_3 < (x5_1.length : Int)) = true := decide_eq_true c51
                clear c51
                by_cases c52 : (rd x5_1 x85_3) = x75_2
                ·rw [if_pos c52] at H
                 have c52b0 : ((rd x5_1 x85_3) == x75_2) = true := beq_iff_eq.mpr c52
                 have c52b1 : ((rd x5_1 x85_3) != x75_2) = false := bne_eq_false_iff_eq.mpr c52
                 clear c52
                 by_cases c53 : x116000_3.length < 17592186044416
                 ·rw [if_pos c53] at H
                  have LMc53 := Aside0.mk c53
                  clear c53
                  obtain ⟨y117, hy117⟩ : ∃ y_ : List Int, y_ = (x116000_3 ++ [x85_3]) := ⟨_, rfl⟩
                  replace H : (graph_Components.l3 k3 x5_1 x10_2 x75_2 x5_1 (x5_1.length : Int) x75_2 x5_1 (x5_1.length : Int) (wrap64 (x85_3 + 1)) l0_0 l0_1 y117) = some (r1, r2) := by first | (rw [hy117]; with_reducible exact H) | (have H2_ := (Option.bind_some _ _).symm.trans H; rw [hy117]; with_reducible exact H2_) | (have H2_ := (Option.bind_some _ _).symm.trans H; with_reducible exact H2_) | with_reducible exact H | (rw [hy117]; exact H) | exact H
                  have Ny117 := Aside0.mk hy117
                  clear hy117
                  have H' := Aside0.mk H
                  clear H
                  have p116 : 0 ≤ (x85_3 : Int) := oT
                  have q116 : x85_3 < (x5_1.length : Int) := oT
                  obtain ⟨ad116, e116, hx116_0⟩ := Kd.at_int (Kd.R_reads' Q0i.out).2.2 x85_3 p116 q116
                  obtain rfl : ad114 = ad116 := (by injection e116)
                  replace p116 := eq_true p116
                  replace q116 := eq_true q116
                  have Q33 := Q1l.out
                  have Q34 := Q0x.out
                  have Q2b : wr.cell? ⟨Q07, 0, none⟩ = some (u116000) := (blk_cell Q05.out 0).trans rfl
                  have Q2c : wr.cell? ⟨Q07, 1, none⟩ = some (.slice none 0 0) := (blk_cell Q05.out 1).trans rfl
                  have Q2d := blk_frozen Q05.out 0
                  have Q2e := blk_frozen Q05.out 1
                  iterate 3 (try (go_wp2_with (first | ((with_reducible refine gate_builtin (b := .append) (xs := #[.tmp 94, .tmp 96]) rfl ?_); at_builtin; refine Kd.R_append (Kd.int .i64) (w0 := w) w.heap.size rfl (.tmp 94) (.tmp 96) 22 3 (.int .i64 0) 8 rfl Try.underlying22 info3 rfl (by decide) (by omega) u116000 x116000_3 x85_3 [.int .i64 x85_3] (fun k_ => some k_ ≠ (.slice (some ad114) x5_1.length Q06 : Value).ownBlock ∧ some k_ ≠ (.slice (some ad114) x5_1.length Q06 : Value).ownBlock ∧ some k_ ≠ (.slice (some ad114) x5_1.length Q06 : Value).ownBlock) (fun _ => False) rfl rfl ?aP (fun _ hk => hk.elim) ?aF ?aO ?aB ?aS ?aL ?_; (case aP => exact rfl); (case aB => exact (pH HB)); (case aF => exact (fun k_ hk => ⟨Kd.fresh' (Kd.R_lt (pR Q01)) k_ hk, Kd.fresh' (Kd.R_lt (pR Q0a)) k_ hk, Kd.fresh' (Kd.R_lt (pR Q0i)) k_ hk⟩)); (case aO => exact (pR Q0c)); (case aS => exact (below_size (pH HB))); (case aL => have := LMc53.out; omega); intro v118 w56 ho hb hg hat; rw [← Ny117.out] at ho; replace Q01 := Aside0.mk (Kd.R_after (ok := (fun _ => True)) (by (with_reducible repeat (first | apply rA | apply rN | apply rD)); exact Kd.R_mono Q01.out (fun _ hk => ⟨trivial, hk⟩)) hg hat); replace Q09 := Aside0.mk (Kd.S_after (ok := (fun k_ => some k_ ≠ (.slice (some ad114) x5_1.length Q06 : Value).ownBlock ∧ some k_ ≠ (.slice (some ad114) x5_1.length Q06 : Value).ownBlock ∧ some k_ ≠ (.slice (some ad114) x5_1.length Q06 : Value).ownBlock ∧ k_ ≠ Q07)) (by (with_reducible repeat (first | apply Kd.S_alloc | apply Kd.S_drewN | apply Kd.S_drew)); exact Kd.S_mono Q09.out (fun _ hk => ⟨⟨hk.1, ⟨hk.2.1, ⟨hk.2.2.1, hk.2.2.2.2⟩⟩⟩, hk.2.2.2.1⟩)) hg hat); replace Q0a := Aside0.mk (Kd.R_after (ok := (fun _ => True)) (by (with_reducible repeat (first | apply rA | apply rN | apply rD)); exact Kd.R_mono Q0a.out (fun _ hk => ⟨trivial, hk⟩)) hg hat); replace Q0i := Aside0.mk (Kd.R_after (ok := (fun _ => True)) (by (with_reducible repeat (first | apply rA | apply rN | apply rD)); exact Kd.R_mono Q0i.out (fun _ hk => ⟨trivial, hk⟩)) hg hat); replace Q02 := Aside0.mk (bG (g := Q0b) (o := .cells #[.slice A0_0 l0_0.length c0_0, .slice A0_1 l0_1.length c0_1] 25 (0, 0)) (pB Q02) hg (Kd.R_ne Q0c.out Q02.out (by decide))); replace Q05 := Aside0.mk (bG (g := Q07) (o := .cells #[u116000, .slice none 0 0] 64 (0, 0)) (pB Q05) hg (Kd.R_ne Q0c.out Q05.out (by decide))); replace HB := Aside0.mk (hb); have Q26 := Aside0.mk (ho); clear Q0c; clear ho hb hg hat; obtain ⟨Q0y, Q0z, Q2f⟩ := Kd.R_slice Q26.out; subst Q2f; have Q2g : w56.cell? ⟨Q07, 0, none⟩ = some (u116000) := (blk_cell Q05.out 0).trans rfl; have Q2h : w56.cell? ⟨Q07, 1, none⟩ = some (.slice none 0 0) := (blk_cell Q05.out 1).trans rfl; have Q2i := blk_frozen Q05.out 0; have Q2j := blk_frozen Q05.out 1))); try (go_quiet (fail)))
                  go_roundg k3
                  case measure => have := HK1.out; have := HK2.out; have := HK3.out; omega
                  case rel => exact ⟨(wrap64 (x85_3 + 1)), (y117), (.slice Q0y y117.length Q0z), rS, H', ⟨by have := HK1.out; have := HK2.out; have := HK3.out; omega⟩, ⟨by (with_reducible repeat (first | apply rA | apply rN | apply rD)); exact Kd.R_mono (Kd.R_far (p := ⟨Q07, 0, none⟩) (Kd.R_types Q01.out Q05.out (by decide)) (fun _ hk => hk.2) (.slice Q0y y117.length Q0z)) (fun _ hk => hk.1.2)⟩, ⟨by (with_reducible repeat (first | apply Kd.S_alloc | apply Kd.S_drewN | apply Kd.S_drew)); exact Kd.S_mono (Kd.S_far (p := ⟨Q07, 0, none⟩) (Kd.S_mono Q09.out (fun k_ hk => (⟨hk, hk.1.2.2.2⟩ : _ ∧ k_ ≠ Q07))) (fun _ hk => hk.2) (.slice Q0y y117.length Q0z)) (fun _ hk => ⟨hk.1.1.1, ⟨hk.1.1.2.1, ⟨hk.1.1.2.2.1, ⟨hk.1.2, hk.1.1.2.2.2⟩⟩⟩⟩)⟩, ⟨by (with_reducible repeat (first | apply rA | apply rN | apply rD)); exact Kd.R_mono (Kd.R_far (p := ⟨Q07, 0, none⟩) (Kd.R_types Q0a.out Q05.out (by decide)) (fun _ hk => hk.2) (.slice Q0y y117.length Q0z)) (fun _ hk => hk.1.2)⟩, ⟨by (with_reducible repeat (first | apply rA | apply rN | apply rD)); exact Kd.R_mono (Kd.R_far (p := ⟨Q07, 0, none⟩) (Kd.R_types Q0i.out Q05.out (by decide)) (fun _ hk => hk.2) (.slice Q0y y117.length Q0z)) (fun _ hk => hk.1.2)⟩, ⟨by (with_reducible repeat (first | apply rA | apply rN | apply rD)); exact Kd.R_mono (Kd.R_far (p := ⟨Q07, 0, none⟩) (Kd.R_types Q26.out Q05.out (by decide)) (fun _ hk => hk.2) (.slice Q0y y117.length Q0z)) (fun _ hk => ⟨hk.1.1, ⟨hk.1.2.1, hk.1.2.2⟩⟩)⟩, ⟨by (with_reducible repeat (first | refine bN ?_ _ | refine bD ?_ | refine bA ?_ _)); refine blk_far ?_ Q0x.out _; (with_reducible repeat (first | refine bN ?_ _ | refine bD ?_ | refine bA ?_ _)); exact Q02.out⟩, ⟨by (with_reducible repeat (first | refine bN ?_ _ | refine bD ?_ | refine bA ?_ _)); refine blk_put (cs := #[u116000, .slice none 0 0]) ?_ 0 _ rfl; (with_reducible repeat (first | refine bN ?_ _ | refine bD ?_ | refine bA ?_ _)); exact Q05.out⟩, ⟨pH HB⟩⟩
                 ·rw [if_neg c53] at H
                  exact absurd H (by simp)
                ·rw [if_neg c52] at H
                 have c52b0 : ((rd x5_1 x85_3) == x75_2) = false := beq_eq_false_iff_ne.mpr c52
                 have c52b1 : ((rd x5_1 x85_3) != x75_2) = true := bne_iff_ne.mpr c52
                 have H' := Aside0.mk H
                 clear H
                 have p116 : 0 ≤ (x85_3 : Int) := oT
                 have q116 : x85_3 < (x5_1.length : Int) := oT
                 obtain ⟨ad116, e116, hx116_0⟩ := Kd.at_int (Kd.R_reads' Q0i.out).2.2 x85_3 p116 q116
                 obtain rfl : ad114 = ad116 := (by injection e116)
                 replace p116 := eq_true p116
                 replace q116 := eq_true q116
                 go_wp2
                 repeat (go_quiet (fail); try go_wp2)
                 go_roundg k3
                 case measure => have := HK1.out; have := HK2.out; have := HK3.out; omega
                 case rel => exact ⟨(wrap64 (x85_3 + 1)), (x116000_3), (u116000), rS, H', ⟨by have := HK1.out; have := HK2.out; have := HK3.out; omega⟩, ⟨pR Q01⟩, ⟨by (with_reducible repeat (first | apply Kd.S_alloc | apply Kd.S_drewN | apply Kd.S_drew)); exact Q09.out⟩, ⟨pR Q0a⟩, ⟨pR Q0i⟩, ⟨pR Q0c⟩, ⟨pB Q02⟩, ⟨pB Q05⟩, ⟨pH HB⟩⟩
               ·rw [if_neg c51] at H
                exact absurd H (by simp)
              ·rw [if_neg c50] at H
               exact absurd H (by simp)
             ·rw [if_neg c49] at H
              have c49b0 : decide (x85_3 < (x5_1.length : Int)) = false := decide_eq_false c49
              clear c49
              have H' := Aside0.mk H
              clear H
              have Q35 := Q0x.out
              have Q36 := Q1l.out
              have Q2k : wr.cell? ⟨Q0b, 0, none⟩ = some (.slice A0_0 l0_0.length c0_0) := (blk_cell Q02.out 0).trans rfl
              have Q2l : wr.cell? ⟨Q0b, 1, none⟩ = some (.slice A0_1 l0_1.length c0_1) := (blk_cell Q02.out 1).trans rfl
              have Q2m := blk_frozen Q02.out 0
              have Q2n := blk_frozen Q02.out 1
              go_wp2
              repeat (go_quiet (fail); try go_wp2)
              go_loopg [103] k3 (fun kq v103 w' => ∃ (x103_4 : Int) (x116001_4 : List Int) (u116001 : Value), v103 = .int .i64 x103_4 ∧ Aside0 (graph_Components.l4 kq x5_1 x10_2 x75_2 x5_1 (x5_1.length : Int) x75_2 l0_1 (l0_1.length : Int) x103_4 l0_0 l0_1 x116000_3 x116001_4 = some (r1, r2)) ∧ Aside0 (kq ≤ k3) ∧ Aside0 (Kd.R (Kd.int .i64) 3 w' w.heap.size (fun k_ => some k_ ≠ (u116000 : Value).ownBlock ∧ some k_ ≠ (u116001 : Value).ownBlock) (.slice (some ad114) x5_1.length Q06) x5_1) ∧ Aside0 (Kd.S k64 64 w' w.heap.size (fun k_ => some k_ ≠ ((.slice (some ad114) x5_1.length Q06) : Value).ownBlock ∧ some k_ ≠ ((.slice (some ad114) x5_1.length Q06) : Value).ownBlock ∧ some k_ ≠ (u116000 : Value).ownBlock ∧ some k_ ≠ (u116001 : Value).ownBlock ∧ k_ ≠ Q07) u10 x10_2) ∧ Aside0 (Kd.R (Kd.int .i64) 3 w' w.heap.size (fun k_ => some k_ ≠ (u116000 : Value).ownBlock ∧ some k_ ≠ (u116001 : Value).ownBlock) (.slice (some ad114) x5_1.length Q06) x5_1) ∧ Aside0 (Kd.R (Kd.int .i64) 3 w' w.heap.size (fun k_ => some k_ ≠ ((.slice (some ad114) x5_1.length Q06) : Value).ownBlock ∧ some k_ ≠ ((.slice (some ad114) x5_1.length Q06) : Value).ownBlock ∧ some k_ ≠ (u116001 : Value).ownBlock) u116000 x116000_3) ∧ Aside0 (Kd.R (Kd.int .i64) 3 w' w.heap.size (fun k_ => some k_ ≠ ((.slice (some ad114) x5_1.length Q06) : Value).ownBlock ∧ some k_ ≠ ((.slice (some ad114) x5_1.length Q06) : Value).ownBlock ∧ some k_ ≠ (u116000 : Value).ownBlock) u116001 x116001_4) ∧ Aside0 (w'.heap[Q0b]? = some (.cells #[(.slice A0_0 l0_0.length c0_0), (.slice A0_1 l0_1.length c0_1)] 25 (0, 0))) ∧ Aside0 (w'.heap[Q07]? = some (.cells #[u116000, u116001] 64 (0, 0))) ∧ Aside0 (Below w.heap.size w w'))
              case atStart => exact ⟨(0), (([] : List Int)), (.slice none 0 0), rS, H', ⟨Nat.le_refl _⟩, ⟨by (with_reducible repeat (first | apply rA | apply rN | apply rD)); exact Kd.R_mono Q01.out (fun _ hk => ⟨hk, (by simp [Value.ownBlock])⟩)⟩, ⟨by (with_reducible repeat (first | apply Kd.S_alloc | apply Kd.S_drewN | apply Kd.S_drew)); exact Kd.S_mono Q09.out (fun _ hk => ⟨hk.1, ⟨hk.2.1, ⟨hk.2.2.2.1, ⟨(by simp [Value.ownBlock]), hk.2.2.2.2⟩⟩⟩⟩)⟩, ⟨by (with_reducible repeat (first | apply rA | apply rN | apply rD)); exact Kd.R_mono Q0a.out (fun _ hk => ⟨hk, (by simp [Value.ownBlock])⟩)⟩, ⟨by (with_reducible repeat (first | apply rA | apply rN | apply rD)); exact Kd.R_mono Q0c.out (fun _ hk => ⟨hk.1, ⟨hk.2.1, (by simp [Value.ownBlock])⟩⟩)⟩, ⟨by first | exact Kd.R_nil _ _ _ _ _ | exact Kd.N_nil _ _ _ _ _ | exact Kd.V_nil _ _ _ _ _ | exact Kd.Q_nil _ _ _ _ _ | exact Kd.S_nil _ _ _ _ _⟩, ⟨pB Q02⟩, ⟨pB Q05⟩, ⟨pH HB⟩⟩
              case round =>
               clear H'
               try clear c1; try clear c2; try clear p2; try clear q2; try clear hx2; try clear c3; try clear c3b0; try clear c3b1; try clear p3; try clear q3; try clear hx3; try clear hf3; try clear c4; try clear c5; try clear p6; try clear c10; try clear c12; try clear c12b0; try clear c13; try clear c13b0; try clear c14; try clear c14b0; try clear c15; try clear c15b0; try clear c16; try clear c16b0; try clear c17; try clear c17b0; try clear c18; try clear c18b0; try clear c20; try clear p20; try clear q20; try clear hx20; try clear c22; try clear c25; try clear c25b0; try clear c25b1; try clear c26; try clear c28; try clear c30; try clear c31; try clear c31b0; try clear c32; try clear c32b0; try clear p33; try clear q33; try clear hx33; try clear hf33; try clear c34; try clear c34b0; try clear c35; try clear c35b0; try clear p36; try clear q36; try clear hx36; try clear hf36; try clear c37; try clear c44; try clear c44b0; try clear c45; try clear c45b0; try clear c46; try clear c46b0; try clear c47; try clear c47b0; try clear c47b1; try clear c49; try clear c49b0; try clear c50; try clear c50b0; try clear c51; try clear c51b0; try clear c52; try clear c52b0; try clear c52b1; try clear c53; try clear c54; try clear c59; try clear Q12; try clear Q13; try clear Q0r; try clear Q0s; try clear Q0t; try clear Q17; try clear Q18; try clear Q19; try clear Q1d; try clear Q1e; try clear Q1f; try clear Q1s; try clear Q1t; try clear Q1j; try clear Q2b; try clear Q2c; try clear Q2g; try clear Q2h; try clear Q2k; try clear Q2l; try clear Q0j; try clear Q0k; try clear Q0n; try clear Q0o; try clear Q14; try clear Q15; try clear Q0u; try clear Q0v; try clear Q0w; try clear Q1a; try clear Q1b; try clear Q1c; try clear Q1g; try clear Q1h; try clear Q1i; try clear Q1u; try clear Q1v; try clear Q1w; try clear Q2d; try clear Q2e; try clear Q2i; try clear Q2j; try clear Q2m; try clear Q2n; try clear Q0l; try clear Q0m; try clear Q0p; try clear Q0q; try clear hx106_0; try clear hx106_1; try clear hx106_2; try clear hx108_0; try clear hx109_0; try clear hx110_0; try clear hx111_0; try clear hx114_0; try clear hx116_0; try clear hx33_0; try clear hx36_0; try clear p2; try clear p20; try clear p106; try clear p108; try clear p109; try clear p110; try clear p111; try clear p114; try clear p116; try clear p3; try clear p33; try clear p36; try clear p6; try clear q2; try clear q20; try clear q106; try clear q108; try clear q109; try clear q110; try clear q111; try clear q114; try clear q116; try clear q3; try clear q33; try clear q36
               obtain ⟨x103_4, x116001_4, u116001, rfl, HA, HK4, Q01, Q09, Q0a, Q0c, Q0e, Q02, Q05, HB⟩ := hrel
               cases gk with
               | zero => exact absurd HA.out (by simp [graph_Components.l4])
               | succ k4 =>
                have H := HA.out
                clear HA
                simp only [graph_Components.l4] at H
                by_cases c61 : x103_4 < (l0_1.length : Int)
                ·rw [if_pos c61] at H
                 have c61b0 : decide (x103_4 < (l0_1.length : Int)) = true := decide_eq_true c61
                 clear c61
                 by_cases c62 : 0 ≤ x103_4
                 ·rw [if_pos c62] at H
                  have c62b0 : decide (0 ≤ x103_4) = true := decide_eq_true c62
                  clear c62
                  by_cases c63 : x103_4 < (l0_1.length : Int)
                  ·rw [if_pos c63] at H
                   have c63b0 : decide (x103_4 < (l0_1.length : Int)) = true := decide_eq_true c63
                   clear c63
                   by_cases c64 : 0 ≤ ((rd_T38 l0_1 x103_4).f1)
                   ·rw [if_pos c64] at H
                    have c64b0 : decide (0 ≤ ((rd_T38 l0_1 x103_4).f1)) = true := decide_eq_true c64
                    clear c64
                    by_cases c65 : ((rd_T38 l0_1 x103_4).f1) < (x5_1.length : Int)
                    ·rw [if_pos c65] at H
                     have c65b0 : decide (((rd_T38 l0_1 x103_4).f1) < (x5_1.length : Int)) = true := decide_eq_true c65
                     clear c65
                     by_cases c66 : (rd x5_1 ((rd_T38 l0_1 x103_4).f1)) = x75_2
                     ·rw [if_pos c66] at H
                      have c66b0 : ((rd x5_1 ((rd_T38 l0_1 x103_4).f1)) == x75_2) = true := beq_iff_eq.mpr c66
                      have c66b1 : ((rd x5_1 ((rd_T38 l0_1 x103_4).f1)) != x75_2) = false := bne_eq_false_iff_eq.mpr c66
                      clear c66
                      by_cases c67 : x116001_4.length < 17592186044416
                      ·rw [if_pos c67] at H
                       have LMc67 := Aside0.mk c67
                       clear c67
                       obtain ⟨y126, hy126⟩ : ∃ y_ : List Int, y_ = (x116001_4 ++ [x103_4]) := ⟨_, rfl⟩
                       replace H : (graph_Components.l4 k4 x5_1 x10_2 x75_2 x5_1 (x5_1.length : Int) x75_2 l0_1 (l0_1.length : Int) (wrap64 (x103_4 + 1)) l0_0 l0_1 x116000_3 y126) = some (r1, r2) := by first | (rw [hy126]; with_reducible exact H) | (have H2_ := (Option.bind_some _ _).symm.trans H; rw [hy126]; with_reducible exact H2_) | (have H2_ := (Option.bind_some _ _).symm.trans H; with_reducible exact H2_) | with_reducible exact H | (rw [hy126]; exact H) | exact H
                       have Ny126 := Aside0.mk hy126
                       clear hy126
                       have H' := Aside0.mk H
                       clear H
                       have p123 : 0 ≤ (x103_4 : Int) := oT
                       have q123 : x103_4 < (l0_1.length : Int) := oT
                       obtain ⟨ad123, e123, hx123_0, hx123_1, hx123_2⟩ := at_T38 HR0_1.out x103_4 p123 q123
                       cases e123
                       replace hx123_0 := (HB.out.cell (World.block_lt_of_cell? w _ hx123_0)).trans hx123_0
                       replace hx123_1 := (HB.out.cell (World.block_lt_of_cell? w _ hx123_1)).trans hx123_1
                       replace hx123_2 := (HB.out.cell (World.block_lt_of_cell? w _ hx123_2)).trans hx123_2
                       replace p123 := eq_true p123
                       replace q123 := eq_true q123
                       iterate 3 (try (go_wp2_with (first | ((with_reducible refine gate_dst (N := 17) rfl ?_); refine box_event ?hg (N := 17) ?hd (cs := #[.int .i64 0, .int .i64 0, .int .i64 0]) (t := 38) ?hr ?_; (case hd => rfl); (case hg => rfl); (case hr => first | (go_simp; done) | (go_simp; rfl)); intro Q04 hg w68 hbox hb; replace Q01 := uR Q01 hb; replace Q09 := Aside0.mk (Kd.S_below (by (with_reducible repeat (first | apply Kd.S_alloc | apply Kd.S_drewN | apply Kd.S_drew)); exact Q09.out) hb); replace Q0a := uR Q0a hb; replace Q0c := uR Q0c hb; replace Q0e := uR Q0e hb; have Q08 := Aside0.mk (hbox); have Q2o := uS HB hg; have Q2p := uS HB hg; replace HB := uH HB hb; have Q0f := uL Q02 hg; have Q1x := uG Q02 hg; replace Q02 := uB Q02 hb; have Q0g := uL Q05 hg; have Q1y := uG Q05 hg; replace Q05 := uB Q05 hb; clear hb hbox hg; have Q37 := Q1x.out; have Q38 := Q0f.out; have Q39 := Q1y.out; have Q3a := Q0g.out; have Q3b : w68.cell? ⟨Q04, 0, none⟩ = some (.int .i64 0) := (blk_cell Q08.out 0).trans rfl; have Q3c : w68.cell? ⟨Q04, 1, none⟩ = some (.int .i64 0) := (blk_cell Q08.out 1).trans rfl; have Q3d : w68.cell? ⟨Q04, 2, none⟩ = some (.int .i64 0) := (blk_cell Q08.out 2).trans rfl; have Q3e := blk_frozen Q08.out 0; have Q3f := blk_frozen Q08.out 1; have Q3g := blk_frozen Q08.out 2; have p125 : 0 ≤ (((rd_T38 l0_1 x103_4).f1) : Int) := oT; have q125 : ((rd_T38 l0_1 x103_4).f1) < (x5_1.length : Int) := oT; obtain ⟨ad125, e125, hx125_0⟩ := Kd.at_int (Kd.R_reads' Q01.out).2.2 ((rd_T38 l0_1 x103_4).f1) p125 q125; obtain rfl : ad114 = ad125 := (by injection e125); have hn125_0 : ad114.block ≠ Q04 := Kd.own_blk (Kd.R_ne Q01.out Q08.out (by decide)); have hn125_1 : ad114.block ≠ Q04 := Kd.own_blk (Kd.R_ne Q01.out Q08.out (by decide)); have hn125_2 : ad114.block ≠ Q04 := Kd.own_blk (Kd.R_ne Q01.out Q08.out (by decide)); replace hx125_0 := (cell_far (p := ⟨Q04, 0, none⟩) (by first | (rw [add_block]; exact hn125_0) | (show (Addr.add _ _).block ≠ _; rw [add_block]; exact hn125_0) | exact hn125_0) (.int .i64 ((rd_T38 l0_1 x103_4).f0))).trans hx125_0; replace hx125_0 := (cell_far (p := ⟨Q04, 1, none⟩) (by first | (rw [add_block]; exact hn125_1) | (show (Addr.add _ _).block ≠ _; rw [add_block]; exact hn125_1) | exact hn125_1) (.int .i64 ((rd_T38 l0_1 x103_4).f1))).trans hx125_0; replace hx125_0 := (cell_far (p := ⟨Q04, 2, none⟩) (by first | (rw [add_block]; exact hn125_2) | (show (Addr.add _ _).block ≠ _; rw [add_block]; exact hn125_2) | exact hn125_2) (.int .i64 ((rd_T38 l0_1 x103_4).f2))).trans hx125_0; (try have hy125_0 := fun (n_ : Nat) => (show (((((w68.drewN n_).setCell ⟨Q04, 0, none⟩ (.int .i64 ((rd_T38 l0_1 x103_4).f0))).setCell ⟨Q04, 1, none⟩ (.int .i64 ((rd_T38 l0_1 x103_4).f1))).setCell ⟨Q04, 2, none⟩ (.int .i64 ((rd_T38 l0_1 x103_4).f2)))).cell? _ = some _ from hx125_0)); clear hn125_0; clear hn125_1; clear hn125_2; replace p125 := eq_true p125; replace q125 := eq_true q125; have Q3h := Q1l.out; have Q3i := Q0x.out; have Q3j : w68.cell? ⟨Q07, 0, none⟩ = some (u116000) := (blk_cell Q05.out 0).trans rfl; have Q3k : w68.cell? ⟨Q07, 1, none⟩ = some (u116001) := (blk_cell Q05.out 1).trans rfl; have Q3l := blk_frozen Q05.out 0; have Q3m := blk_frozen Q05.out 1) | ((with_reducible refine gate_builtin (b := .append) (xs := #[.tmp 116, .tmp 118]) rfl ?_); at_builtin; refine Kd.R_append (Kd.int .i64) (w0 := w) w.heap.size rfl (.tmp 116) (.tmp 118) 22 3 (.int .i64 0) 8 rfl Try.underlying22 info3 rfl (by decide) (by omega) u116001 x116001_4 x103_4 [.int .i64 x103_4] (fun k_ => some k_ ≠ (.slice (some ad114) x5_1.length Q06 : Value).ownBlock ∧ some k_ ≠ (.slice (some ad114) x5_1.length Q06 : Value).ownBlock ∧ some k_ ≠ (u116000 : Value).ownBlock) (fun _ => False) rfl (by first | (go_simp; done) | (go_simp; rfl)) ?aP (fun _ hk => hk.elim) ?aF ?aO ?aB ?aS ?aL ?_; (case aP => exact rfl); (case aB => exact (pH HB)); (case aF => exact (fun k_ hk => ⟨Kd.fresh' (Kd.R_lt (by (with_reducible repeat (first | apply rA | apply rN | apply rD)); exact (Kd.R_mono (Kd.R_far (p := ⟨Q04, 2, none⟩) (Kd.R_far (p := ⟨Q04, 1, none⟩) (Kd.R_far (p := ⟨Q04, 0, none⟩) (Kd.R_types Q01.out Q08.out (by decide)) (fun _ hk => hk.2) (.int .i64 ((rd_T38 l0_1 x103_4).f0))) (fun _ hk => hk.2) (.int .i64 ((rd_T38 l0_1 x103_4).f1))) (fun _ hk => hk.2) (.int .i64 ((rd_T38 l0_1 x103_4).f2))) (fun _ h_ => h_.1)))) k_ hk, Kd.fresh' (Kd.R_lt (by (with_reducible repeat (first | apply rA | apply rN | apply rD)); exact (Kd.R_mono (Kd.R_far (p := ⟨Q04, 2, none⟩) (Kd.R_far (p := ⟨Q04, 1, none⟩) (Kd.R_far (p := ⟨Q04, 0, none⟩) (Kd.R_types Q0a.out Q08.out (by decide)) (fun _ hk => hk.2) (.int .i64 ((rd_T38 l0_1 x103_4).f0))) (fun _ hk => hk.2) (.int .i64 ((rd_T38 l0_1 x103_4).f1))) (fun _ hk => hk.2) (.int .i64 ((rd_T38 l0_1 x103_4).f2))) (fun _ h_ => h_.1)))) k_ hk, Kd.fresh' (Kd.R_lt (by (with_reducible repeat (first | apply rA | apply rN | apply rD)); exact (Kd.R_mono (Kd.R_far (p := ⟨Q04, 2, none⟩) (Kd.R_far (p := ⟨Q04, 1, none⟩) (Kd.R_far (p := ⟨Q04, 0, none⟩) (Kd.R_types Q0c.out Q08.out (by decide)) (fun _ hk => hk.2) (.int .i64 ((rd_T38 l0_1 x103_4).f0))) (fun _ hk => hk.2) (.int .i64 ((rd_T38 l0_1 x103_4).f1))) (fun _ hk => hk.2) (.int .i64 ((rd_T38 l0_1 x103_4).f2))) (fun _ h_ => h_.1)))) k_ hk⟩)); (case aO => exact (by (with_reducible repeat (first | apply rA | apply rN | apply rD)); exact Kd.R_mono (Kd.R_far (p := ⟨Q04, 2, none⟩) (Kd.R_far (p := ⟨Q04, 1, none⟩) (Kd.R_far (p := ⟨Q04, 0, none⟩) (Kd.R_types Q0e.out Q08.out (by decide)) (fun _ hk => hk.2) (.int .i64 ((rd_T38 l0_1 x103_4).f0))) (fun _ hk => hk.2) (.int .i64 ((rd_T38 l0_1 x103_4).f1))) (fun _ hk => hk.2) (.int .i64 ((rd_T38 l0_1 x103_4).f2))) (fun _ hk => ⟨hk.1.1, ⟨hk.1.2.1, hk.1.2.2⟩⟩))); (case aS => exact (below_size (pH HB))); (case aL => have := LMc67.out; omega); intro v127 w74 ho hb hg hat; rw [← Ny126.out] at ho; replace Q01 := Aside0.mk (Kd.R_after (ok := (fun k_ => some k_ ≠ (u116000 : Value).ownBlock)) (by (with_reducible repeat (first | apply rA | apply rN | apply rD)); exact Kd.R_mono (Kd.R_far (p := ⟨Q04, 2, none⟩) (Kd.R_far (p := ⟨Q04, 1, none⟩) (Kd.R_far (p := ⟨Q04, 0, none⟩) (Kd.R_types Q01.out Q08.out (by decide)) (fun _ hk => hk.2) (.int .i64 ((rd_T38 l0_1 x103_4).f0))) (fun _ hk => hk.2) (.int .i64 ((rd_T38 l0_1 x103_4).f1))) (fun _ hk => hk.2) (.int .i64 ((rd_T38 l0_1 x103_4).f2))) (fun _ hk => ⟨hk.1.1, hk.1.2⟩)) hg hat); replace Q09 := Aside0.mk (Kd.S_after (ok := (fun k_ => some k_ ≠ (.slice (some ad114) x5_1.length Q06 : Value).ownBlock ∧ some k_ ≠ (.slice (some ad114) x5_1.length Q06 : Value).ownBlock ∧ some k_ ≠ (u116000 : Value).ownBlock ∧ k_ ≠ Q07)) (by (with_reducible repeat (first | apply Kd.S_alloc | apply Kd.S_drewN | apply Kd.S_drew)); exact Kd.S_mono (Kd.S_far (p := ⟨Q04, 2, none⟩) (Kd.S_far (p := ⟨Q04, 1, none⟩) (Kd.S_far (p := ⟨Q04, 0, none⟩) (Kd.S_types Q09.out Q08.out (by decide)) (fun _ hk => hk.2) (.int .i64 ((rd_T38 l0_1 x103_4).f0))) (fun _ hk => hk.2) (.int .i64 ((rd_T38 l0_1 x103_4).f1))) (fun _ hk => hk.2) (.int .i64 ((rd_T38 l0_1 x103_4).f2))) (fun _ hk => ⟨⟨hk.1.1, ⟨hk.1.2.1, ⟨hk.1.2.2.1, hk.1.2.2.2.2⟩⟩⟩, hk.1.2.2.2.1⟩)) hg hat); replace Q0a := Aside0.mk (Kd.R_after (ok := (fun k_ => some k_ ≠ (u116000 : Value).ownBlock)) (by (with_reducible repeat (first | apply rA | apply rN | apply rD)); exact Kd.R_mono (Kd.R_far (p := ⟨Q04, 2, none⟩) (Kd.R_far (p := ⟨Q04, 1, none⟩) (Kd.R_far (p := ⟨Q04, 0, none⟩) (Kd.R_types Q0a.out Q08.out (by decide)) (fun _ hk => hk.2) (.int .i64 ((rd_T38 l0_1 x103_4).f0))) (fun _ hk => hk.2) (.int .i64 ((rd_T38 l0_1 x103_4).f1))) (fun _ hk => hk.2) (.int .i64 ((rd_T38 l0_1 x103_4).f2))) (fun _ hk => ⟨hk.1.1, hk.1.2⟩)) hg hat); replace Q0c := Aside0.mk (Kd.R_after (ok := (fun k_ => some k_ ≠ (.slice (some ad114) x5_1.length Q06 : Value).ownBlock ∧ some k_ ≠ (.slice (some ad114) x5_1.length Q06 : Value).ownBlock)) (by (with_reducible repeat (first | apply rA | apply rN | apply rD)); exact Kd.R_mono (Kd.R_far (p := ⟨Q04, 2, none⟩) (Kd.R_far (p := ⟨Q04, 1, none⟩) (Kd.R_far (p := ⟨Q04, 0, none⟩) (Kd.R_types Q0c.out Q08.out (by decide)) (fun _ hk => hk.2) (.int .i64 ((rd_T38 l0_1 x103_4).f0))) (fun _ hk => hk.2) (.int .i64 ((rd_T38 l0_1 x103_4).f1))) (fun _ hk => hk.2) (.int .i64 ((rd_T38 l0_1 x103_4).f2))) (fun _ hk => ⟨⟨hk.1.1, hk.1.2.1⟩, hk.1.2.2⟩)) hg hat); replace Q02 := Aside0.mk (bG (g := Q0b) (o := .cells #[.slice A0_0 l0_0.length c0_0, .slice (some ad123) l0_1.length c0_1] 25 (0, 0)) (by (with_reducible repeat (first | refine bN ?_ _ | refine bD ?_ | refine bA ?_ _)); refine blk_far ?_ Q0f.out _; (with_reducible repeat (first | refine bN ?_ _ | refine bD ?_ | refine bA ?_ _)); refine blk_far ?_ Q0f.out _; (with_reducible repeat (first | refine bN ?_ _ | refine bD ?_ | refine bA ?_ _)); refine blk_far ?_ Q0f.out _; (with_reducible repeat (first | refine bN ?_ _ | refine bD ?_ | refine bA ?_ _)); exact Q02.out) hg (Kd.R_ne Q0e.out Q02.out (by decide))); replace Q05 := Aside0.mk (bG (g := Q07) (o := .cells #[u116000, u116001] 64 (0, 0)) (by (with_reducible repeat (first | refine bN ?_ _ | refine bD ?_ | refine bA ?_ _)); refine blk_far ?_ Q0g.out _; (with_reducible repeat (first | refine bN ?_ _ | refine bD ?_ | refine bA ?_ _)); refine blk_far ?_ Q0g.out _; (with_reducible repeat (first | refine bN ?_ _ | refine bD ?_ | refine bA ?_ _)); refine blk_far ?_ Q0g.out _; (with_reducible repeat (first | refine bN ?_ _ | refine bD ?_ | refine bA ?_ _)); exact Q05.out) hg (Kd.R_ne Q0e.out Q05.out (by decide))); replace Q08 := Aside0.mk (bG (g := Q04) (o := .cells #[.int .i64 ((rd_T38 l0_1 x103_4).f0), .int .i64 ((rd_T38 l0_1 x103_4).f1), .int .i64 ((rd_T38 l0_1 x103_4).f2)] 38 (0, 0)) (by (with_reducible repeat (first | refine bN ?_ _ | refine bD ?_ | refine bA ?_ _)); refine blk_put (cs := #[.int .i64 ((rd_T38 l0_1 x103_4).f0), .int .i64 ((rd_T38 l0_1 x103_4).f1), .int .i64 0]) ?_ 2 _ rfl; (with_reducible repeat (first | refine bN ?_ _ | refine bD ?_ | refine bA ?_ _)); refine blk_put (cs := #[.int .i64 ((rd_T38 l0_1 x103_4).f0), .int .i64 0, .int .i64 0]) ?_ 1 _ rfl; (with_reducible repeat (first | refine bN ?_ _ | refine bD ?_ | refine bA ?_ _)); refine blk_put (cs := #[.int .i64 0, .int .i64 0, .int .i64 0]) ?_ 0 _ rfl; (with_reducible repeat (first | refine bN ?_ _ | refine bD ?_ | refine bA ?_ _)); exact Q08.out) hg (Kd.R_ne Q0e.out Q08.out (by decide))); replace HB := Aside0.mk (hb); have Q27 := Aside0.mk (ho); clear Q0e; clear ho hb hg hat; obtain ⟨Q10, Q11, Q2q⟩ := Kd.R_slice Q27.out; subst Q2q; have Q3n : w74.cell? ⟨Q07, 0, none⟩ = some (u116000) := (blk_cell Q05.out 0).trans rfl; have Q3o : w74.cell? ⟨Q07, 1, none⟩ = some (u116001) := (blk_cell Q05.out 1).trans rfl; have Q3p := blk_frozen Q05.out 0; have Q3q := blk_frozen Q05.out 1))); try (go_quiet (fail)))
                       go_roundg k4
                       case measure => have := HK1.out; have := HK2.out; have := HK3.out; have := HK4.out; omega
                       case rel => exact ⟨(wrap64 (x103_4 + 1)), (y126), (.slice Q10 y126.length Q11), rS, H', ⟨by have := HK1.out; have := HK2.out; have := HK3.out; have := HK4.out; omega⟩, ⟨by (with_reducible repeat (first | apply rA | apply rN | apply rD)); exact Kd.R_mono (Kd.R_far (p := ⟨Q07, 1, none⟩) (Kd.R_types Q01.out Q05.out (by decide)) (fun _ hk => hk.2) (.slice Q10 y126.length Q11)) (fun _ hk => ⟨hk.1.1, hk.1.2⟩)⟩, ⟨by (with_reducible repeat (first | apply Kd.S_alloc | apply Kd.S_drewN | apply Kd.S_drew)); exact Kd.S_mono (Kd.S_far (p := ⟨Q07, 1, none⟩) (Kd.S_mono Q09.out (fun k_ hk => (⟨hk, hk.1.2.2.2⟩ : _ ∧ k_ ≠ Q07))) (fun _ hk => hk.2) (.slice Q10 y126.length Q11)) (fun _ hk => ⟨hk.1.1.1, ⟨hk.1.1.2.1, ⟨hk.1.1.2.2.1, ⟨hk.1.2, hk.1.1.2.2.2⟩⟩⟩⟩)⟩, ⟨by (with_reducible repeat (first | apply rA | apply rN | apply rD)); exact Kd.R_mono (Kd.R_far (p := ⟨Q07, 1, none⟩) (Kd.R_types Q0a.out Q05.out (by decide)) (fun _ hk => hk.2) (.slice Q10 y126.length Q11)) (fun _ hk => ⟨hk.1.1, hk.1.2⟩)⟩, ⟨by (with_reducible repeat (first | apply rA | apply rN | apply rD)); exact Kd.R_mono (Kd.R_far (p := ⟨Q07, 1, none⟩) (Kd.R_types Q0c.out Q05.out (by decide)) (fun _ hk => hk.2) (.slice Q10 y126.length Q11)) (fun _ hk => ⟨hk.1.1.1, ⟨hk.1.1.2, hk.1.2⟩⟩)⟩, ⟨by (with_reducible repeat (first | apply rA | apply rN | apply rD)); exact Kd.R_mono (Kd.R_far (p := ⟨Q07, 1, none⟩) (Kd.R_types Q27.out Q05.out (by decide)) (fun _ hk => hk.2) (.slice Q10 y126.length Q11)) (fun _ hk => ⟨hk.1.1, ⟨hk.1.2.1, hk.1.2.2⟩⟩)⟩, ⟨by (with_reducible repeat (first | refine bN ?_ _ | refine bD ?_ | refine bA ?_ _)); refine blk_far ?_ Q0x.out _; (with_reducible repeat (first | refine bN ?_ _ | refine bD ?_ | refine bA ?_ _)); exact Q02.out⟩, ⟨by (with_reducible repeat (first | refine bN ?_ _ | refine bD ?_ | refine bA ?_ _)); refine blk_put (cs := #[u116000, u116001]) ?_ 1 _ rfl; (with_reducible repeat (first | refine bN ?_ _ | refine bD ?_ | refine bA ?_ _)); exact Q05.out⟩, ⟨pH HB⟩⟩
                      ·rw [if_neg c67] at H
                       exact absurd H (by simp)
                     ·rw [if_neg c66] at H
                      have c66b0 : ((rd x5_1 ((rd_T38 l0_1 x103_4).f1)) == x75_2) = false := beq_eq_false_iff_ne.mpr c66
                      have c66b1 : ((rd x5_1 ((rd_T38 l0_1 x103_4).f1)) != x75_2) = true := bne_iff_ne.mpr c66
                      have H' := Aside0.mk H
                      clear H
                      have p123 : 0 ≤ (x103_4 : Int) := oT
                      have q123 : x103_4 < (l0_1.length : Int) := oT
                      obtain ⟨ad123, e123, hx123_0, hx123_1, hx123_2⟩ := at_T38 HR0_1.out x103_4 p123 q123
                      cases e123
                      replace hx123_0 := (HB.out.cell (World.block_lt_of_cell? w _ hx123_0)).trans hx123_0
                      replace hx123_1 := (HB.out.cell (World.block_lt_of_cell? w _ hx123_1)).trans hx123_1
                      replace hx123_2 := (HB.out.cell (World.block_lt_of_cell? w _ hx123_2)).trans hx123_2
                      replace p123 := eq_true p123
                      replace q123 := eq_true q123
                      iterate 3 (try (go_wp2_with (first | ((with_reducible refine gate_dst (N := 17) rfl ?_); refine box_event ?hg (N := 17) ?hd (cs := #[.int .i64 0, .int .i64 0, .int .i64 0]) (t := 38) ?hr ?_; (case hd => rfl); (case hg => rfl); (case hr => first | (go_simp; done) | (go_simp; rfl)); intro Q04 hg w77 hbox hb; replace Q01 := uR Q01 hb; replace Q09 := Aside0.mk (Kd.S_below (by (with_reducible repeat (first | apply Kd.S_alloc | apply Kd.S_drewN | apply Kd.S_drew)); exact Q09.out) hb); replace Q0a := uR Q0a hb; replace Q0c := uR Q0c hb; replace Q0e := uR Q0e hb; have Q08 := Aside0.mk (hbox); have Q2o := uS HB hg; have Q2p := uS HB hg; replace HB := uH HB hb; have Q0f := uL Q02 hg; have Q1x := uG Q02 hg; replace Q02 := uB Q02 hb; have Q0g := uL Q05 hg; have Q1y := uG Q05 hg; replace Q05 := uB Q05 hb; clear hb hbox hg; have Q3r := Q1x.out; have Q3s := Q0f.out; have Q3t := Q1y.out; have Q3u := Q0g.out; have Q3v : w77.cell? ⟨Q04, 0, none⟩ = some (.int .i64 0) := (blk_cell Q08.out 0).trans rfl; have Q3w : w77.cell? ⟨Q04, 1, none⟩ = some (.int .i64 0) := (blk_cell Q08.out 1).trans rfl; have Q3x : w77.cell? ⟨Q04, 2, none⟩ = some (.int .i64 0) := (blk_cell Q08.out 2).trans rfl; have Q3y := blk_frozen Q08.out 0; have Q3z := blk_frozen Q08.out 1; have Q40 := blk_frozen Q08.out 2; have p125 : 0 ≤ (((rd_T38 l0_1 x103_4).f1) : Int) := oT; have q125 : ((rd_T38 l0_1 x103_4).f1) < (x5_1.length : Int) := oT; obtain ⟨ad125, e125, hx125_0⟩ := Kd.at_int (Kd.R_reads' Q01.out).2.2 ((rd_T38 l0_1 x103_4).f1) p125 q125; obtain rfl : ad114 = ad125 := (by injection e125); have hn125_0 : ad114.block ≠ Q04 := Kd.own_blk (Kd.R_ne Q01.out Q08.out (by decide)); have hn125_1 : ad114.block ≠ Q04 := Kd.own_blk (Kd.R_ne Q01.out Q08.out (by decide)); have hn125_2 : ad114.block ≠ Q04 := Kd.own_blk (Kd.R_ne Q01.out Q08.out (by decide)); replace hx125_0 := (cell_far (p := ⟨Q04, 0, none⟩) (by first | (rw [add_block]; exact hn125_0) | (show (Addr.add _ _).block ≠ _; rw [add_block]; exact hn125_0) | exact hn125_0) (.int .i64 ((rd_T38 l0_1 x103_4).f0))).trans hx125_0; replace hx125_0 := (cell_far (p := ⟨Q04, 1, none⟩) (by first | (rw [add_block]; exact hn125_1) | (show (Addr.add _ _).block ≠ _; rw [add_block]; exact hn125_1) | exact hn125_1) (.int .i64 ((rd_T38 l0_1 x103_4).f1))).trans hx125_0; replace hx125_0 := (cell_far (p := ⟨Q04, 2, none⟩) (by first | (rw [add_block]; exact hn125_2) | (show (Addr.add _ _).block ≠ _; rw [add_block]; exact hn125_2) | exact hn125_2) (.int .i64 ((rd_T38 l0_1 x103_4).f2))).trans hx125_0; (try have hy125_0 := fun (n_ : Nat) => (show (((((w77.drewN n_).setCell ⟨Q04, 0, none⟩ (.int .i64 ((rd_T38 l0_1 x103_4).f0))).setCell ⟨Q04, 1, none⟩ (.int .i64 ((rd_T38 l0_1 x103_4).f1))).setCell ⟨Q04, 2, none⟩ (.int .i64 ((rd_T38 l0_1 x103_4).f2)))).cell? _ = some _ from hx125_0)); clear hn125_0; clear hn125_1; clear hn125_2; replace p125 := eq_true p125; replace q125 := eq_true q125))); try (go_quiet (fail)))
                      go_roundg k4
                      case measure => have := HK1.out; have := HK2.out; have := HK3.out; have := HK4.out; omega
                      case rel => exact ⟨(wrap64 (x103_4 + 1)), (x116001_4), (u116001), rS, H', ⟨by have := HK1.out; have := HK2.out; have := HK3.out; have := HK4.out; omega⟩, ⟨by (with_reducible repeat (first | apply rA | apply rN | apply rD)); exact Kd.R_mono (Kd.R_far (p := ⟨Q04, 2, none⟩) (Kd.R_far (p := ⟨Q04, 1, none⟩) (Kd.R_far (p := ⟨Q04, 0, none⟩) (Kd.R_types Q01.out Q08.out (by decide)) (fun _ hk => hk.2) (.int .i64 ((rd_T38 l0_1 x103_4).f0))) (fun _ hk => hk.2) (.int .i64 ((rd_T38 l0_1 x103_4).f1))) (fun _ hk => hk.2) (.int .i64 ((rd_T38 l0_1 x103_4).f2))) (fun _ hk => ⟨hk.1.1, hk.1.2⟩)⟩, ⟨by (with_reducible repeat (first | apply Kd.S_alloc | apply Kd.S_drewN | apply Kd.S_drew)); exact Kd.S_mono (Kd.S_far (p := ⟨Q04, 2, none⟩) (Kd.S_far (p := ⟨Q04, 1, none⟩) (Kd.S_far (p := ⟨Q04, 0, none⟩) (Kd.S_types Q09.out Q08.out (by decide)) (fun _ hk => hk.2) (.int .i64 ((rd_T38 l0_1 x103_4).f0))) (fun _ hk => hk.2) (.int .i64 ((rd_T38 l0_1 x103_4).f1))) (fun _ hk => hk.2) (.int .i64 ((rd_T38 l0_1 x103_4).f2))) (fun _ hk => ⟨hk.1.1, ⟨hk.1.2.1, ⟨hk.1.2.2.1, ⟨hk.1.2.2.2.1, hk.1.2.2.2.2⟩⟩⟩⟩)⟩, ⟨by (with_reducible repeat (first | apply rA | apply rN | apply rD)); exact Kd.R_mono (Kd.R_far (p := ⟨Q04, 2, none⟩) (Kd.R_far (p := ⟨Q04, 1, none⟩) (Kd.R_far (p := ⟨Q04, 0, none⟩) (Kd.R_types Q0a.out Q08.out (by decide)) (fun _ hk => hk.2) (.int .i64 ((rd_T38 l0_1 x103_4).f0))) (fun _ hk => hk.2) (.int .i64 ((rd_T38 l0_1 x103_4).f1))) (fun _ hk => hk.2) (.int .i64 ((rd_T38 l0_1 x103_4).f2))) (fun _ hk => ⟨hk.1.1, hk.1.2⟩)⟩, ⟨by (with_reducible repeat (first | apply rA | apply rN | apply rD)); exact Kd.R_mono (Kd.R_far (p := ⟨Q04, 2, none⟩) (Kd.R_far (p := ⟨Q04, 1, none⟩) (Kd.R_far (p := ⟨Q04, 0, none⟩) (Kd.R_types Q0c.out Q08.out (by decide)) (fun _ hk => hk.2) (.int .i64 ((rd_T38 l0_1 x103_4).f0))) (fun _ hk => hk.2) (.int .i64 ((rd_T38 l0_1 x103_4).f1))) (fun _ hk => hk.2) (.int .i64 ((rd_T38 l0_1 x103_4).f2))) (fun _ hk => ⟨hk.1.1, ⟨hk.1.2.1, hk.1.2.2⟩⟩)⟩, ⟨by (with_reducible repeat (first | apply rA | apply rN | apply rD)); exact Kd.R_mono (Kd.R_far (p := ⟨Q04, 2, none⟩) (Kd.R_far (p := ⟨Q04, 1, none⟩) (Kd.R_far (p := ⟨Q04, 0, none⟩) (Kd.R_types Q0e.out Q08.out (by decide)) (fun _ hk => hk.2) (.int .i64 ((rd_T38 l0_1 x103_4).f0))) (fun _ hk => hk.2) (.int .i64 ((rd_T38 l0_1 x103_4).f1))) (fun _ hk => hk.2) (.int .i64 ((rd_T38 l0_1 x103_4).f2))) (fun _ hk => ⟨hk.1.1, ⟨hk.1.2.1, hk.1.2.2⟩⟩)⟩, ⟨by (with_reducible repeat (first | refine bN ?_ _ | refine bD ?_ | refine bA ?_ _)); refine blk_far ?_ Q0f.out _; (with_reducible repeat (first | refine bN ?_ _ | refine bD ?_ | refine bA ?_ _)); refine blk_far ?_ Q0f.out _; (with_reducible repeat (first | refine bN ?_ _ | refine bD ?_ | refine bA ?_ _)); refine blk_far ?_ Q0f.out _; (with_reducible repeat (first | refine bN ?_ _ | refine bD ?_ | refine bA ?_ _)); exact Q02.out⟩, ⟨by (with_reducible repeat (first | refine bN ?_ _ | refine bD ?_ | refine bA ?_ _)); refine blk_far ?_ Q0g.out _; (with_reducible repeat (first | refine bN ?_ _ | refine bD ?_ | refine bA ?_ _)); refine blk_far ?_ Q0g.out _; (with_reducible repeat (first | refine bN ?_ _ | refine bD ?_ | refine bA ?_ _)); refine blk_far ?_ Q0g.out _; (with_reducible repeat (first | refine bN ?_ _ | refine bD ?_ | refine bA ?_ _)); exact Q05.out⟩, ⟨pH HB⟩⟩
                    ·rw [if_neg c65] at H
                     exact absurd H (by simp)
                   ·rw [if_neg c64] at H
                    exact absurd H (by simp)
                  ·rw [if_neg c63] at H
                   exact absurd H (by simp)
                 ·rw [if_neg c62] at H
                  exact absurd H (by simp)
                ·rw [if_neg c61] at H
                 have c61b0 : decide (x103_4 < (l0_1.length : Int)) = false := decide_eq_false c61
                 clear c61
                 by_cases c81 : x10_2.length < 2932031007402
                 ·rw [if_pos c81] at H
                  have LMc81 := Aside0.mk c81
                  clear c81
                  obtain ⟨y120, hy120⟩ : ∃ y_ : List (S64), y_ = (x10_2 ++ [(⟨x116000_3, x116001_4⟩ : S64)]) := ⟨_, rfl⟩
                  replace H : (graph_Components.l2 k4 x5_1 y120 x5_1 (x5_1.length : Int) (wrap64 (x75_2 + 1)) l0_0 l0_1) = some (r1, r2) := by first | (rw [hy120]; with_reducible exact H) | (have H2_ := (Option.bind_some _ _).symm.trans H; rw [hy120]; with_reducible exact H2_) | (have H2_ := (Option.bind_some _ _).symm.trans H; with_reducible exact H2_) | with_reducible exact H | (rw [hy120]; exact H) | exact H
                  have Ny120 := Aside0.mk hy120
                  clear hy120
                  have H' := Aside0.mk H
                  clear H
                  have Q41 := Q1l.out
                  have Q42 := Q0x.out
                  have Q43 : wr.cell? ⟨Q07, 0, none⟩ = some (u116000) := (blk_cell Q05.out 0).trans rfl
                  have Q44 : wr.cell? ⟨Q07, 1, none⟩ = some (u116001) := (blk_cell Q05.out 1).trans rfl
                  have Q45 := blk_frozen Q05.out 0
                  have Q46 := blk_frozen Q05.out 1
                  obtain ⟨Q1m, Q1n, Q2r⟩ := Kd.R_slice Q0c.out
                  subst Q2r
                  obtain ⟨Q1o, Q1p, Q2s⟩ := Kd.R_slice Q0e.out
                  subst Q2s
                  iterate 3 (try (go_wp2_with (first | ((with_reducible refine gate_builtin (b := .append) (xs := #[.tmp 122, .tmp 124]) rfl ?_); at_builtin; refine Kd.S_append k64 (w0 := w) w.heap.size rfl (.tmp 122) (.tmp 124) 42 64 (.agg #[(.slice none 0 0), (.slice none 0 0)]) 48 rfl Try.underlying42 info64 rfl (by decide) (by omega) u10 x10_2 (⟨x116000_3, x116001_4⟩ : S64) [.slice Q1m x116000_3.length Q1n, .slice Q1o x116001_4.length Q1p] (fun k_ => some k_ ≠ (.slice (some ad114) x5_1.length Q06 : Value).ownBlock ∧ some k_ ≠ (.slice (some ad114) x5_1.length Q06 : Value).ownBlock ∧ k_ ≠ Q07) (fun k_ => some k_ = (.slice Q1m x116000_3.length Q1n : Value).ownBlock ∨ some k_ = (.slice Q1o x116001_4.length Q1p : Value).ownBlock) rfl rfl ?aP (fun k_ hk_ => hk_.elim (fun h_ => ((Kd.R_mono (ok' := fun k_ => ((fun k_ => some k_ ≠ (.slice (some ad114) x5_1.length Q06 : Value).ownBlock ∧ some k_ ≠ (.slice (some ad114) x5_1.length Q06 : Value).ownBlock ∧ k_ ≠ Q07)) k_ ∧ some k_ ≠ (u10 : Value).ownBlock) (Kd.R_types (Kd.R_apart' (Q0c.out) (Kd.S_typed Q09.out) (by decide)) Q05.out (by decide)) (fun k_ hk => ⟨⟨hk.1.1.1, ⟨hk.1.1.2.1, hk.2⟩⟩, hk.1.2⟩))).1 k_ h_.symm) (fun h_ => ((Kd.R_mono (ok' := fun k_ => ((fun k_ => some k_ ≠ (.slice (some ad114) x5_1.length Q06 : Value).ownBlock ∧ some k_ ≠ (.slice (some ad114) x5_1.length Q06 : Value).ownBlock ∧ k_ ≠ Q07)) k_ ∧ some k_ ≠ (u10 : Value).ownBlock) (Kd.R_types (Kd.R_apart' (Q0e.out) (Kd.S_typed Q09.out) (by decide)) Q05.out (by decide)) (fun k_ hk => ⟨⟨hk.1.1.1, ⟨hk.1.1.2.1, hk.2⟩⟩, hk.1.2⟩))).1 k_ h_.symm)) ?aF ?aO ?aB ?aS ?aL ?_; (case aP => exact k64_mkM _ _ _ (⟨x116000_3, x116001_4⟩ : S64) (Kd.R_mono (Kd.R_tight rfl (Kd.R_mono (ok' := fun k_ => ((fun k_ => some k_ ≠ (.slice (some ad114) x5_1.length Q06 : Value).ownBlock ∧ some k_ ≠ (.slice (some ad114) x5_1.length Q06 : Value).ownBlock ∧ k_ ≠ Q07)) k_ ∧ some k_ ≠ (u10 : Value).ownBlock) (Kd.R_types (Kd.R_apart' (Q0c.out) (Kd.S_typed Q09.out) (by decide)) Q05.out (by decide)) (fun k_ hk => ⟨⟨hk.1.1.1, ⟨hk.1.1.2.1, hk.2⟩⟩, hk.1.2⟩))) (fun _ h_ => Or.inl h_)) (Kd.R_mono (Kd.R_tight rfl (Kd.R_mono (ok' := fun k_ => ((fun k_ => some k_ ≠ (.slice (some ad114) x5_1.length Q06 : Value).ownBlock ∧ some k_ ≠ (.slice (some ad114) x5_1.length Q06 : Value).ownBlock ∧ k_ ≠ Q07)) k_ ∧ some k_ ≠ (u10 : Value).ownBlock) (Kd.R_types (Kd.R_apart' (Q0e.out) (Kd.S_typed Q09.out) (by decide)) Q05.out (by decide)) (fun k_ hk => ⟨⟨hk.1.1.1, ⟨hk.1.1.2.1, hk.2⟩⟩, hk.1.2⟩))) (fun _ h_ => Or.inr (h_)))); (case aB => exact (pH HB)); (case aF => exact (fun k_ hk => ⟨Kd.fresh' (Kd.R_lt (pR Q01)) k_ hk, Kd.fresh' (Kd.R_lt (pR Q0a)) k_ hk, Kd.freshB (g := Q07) (o := .cells #[.slice Q1m x116000_3.length Q1n, .slice Q1o x116001_4.length Q1p] 64 (0, 0)) (pB Q05) k_ hk⟩)); (case aO => exact (by (with_reducible repeat (first | apply Kd.S_alloc | apply Kd.S_drewN | apply Kd.S_drew)); exact Kd.S_mono Q09.out (fun k_ hk => ⟨⟨hk.1, ⟨hk.2.1, hk.2.2.2.2⟩⟩, fun e_ => e_.elim (fun h_ => hk.2.2.1 h_) (fun h_ => hk.2.2.2.1 h_)⟩))); (case aS => exact (below_size (pH HB))); (case aL => have := LMc81.out; omega); intro v121 w84 ho hb hg hat; rw [← Ny120.out] at ho; replace Q01 := Aside0.mk (Kd.R_over' (pR Q01) (Kd.S_typed (by (with_reducible repeat (first | apply Kd.S_alloc | apply Kd.S_drewN | apply Kd.S_drew)); exact Q09.out)) (by decide) hg); replace Q0a := Aside0.mk (Kd.R_over' (pR Q0a) (Kd.S_typed (by (with_reducible repeat (first | apply Kd.S_alloc | apply Kd.S_drewN | apply Kd.S_drew)); exact Q09.out)) (by decide) hg); replace Q02 := Aside0.mk (bG (g := Q0b) (o := .cells #[.slice A0_0 l0_0.length c0_0, .slice A0_1 l0_1.length c0_1] 25 (0, 0)) (pB Q02) hg (Kd.S_ne Q09.out Q02.out (by decide))); replace Q05 := Aside0.mk (bG (g := Q07) (o := .cells #[.slice Q1m x116000_3.length Q1n, .slice Q1o x116001_4.length Q1p] 64 (0, 0)) (pB Q05) hg (Kd.S_away Q09.out (fun _ hk => hk.2.2.2.2))); replace HB := Aside0.mk (hb); have Q2t := Aside0.mk (ho); clear Q09 Q0c Q0e; clear ho hb hg hat))); try (go_quiet (fail)))
                  go_roundg k4
                  case measure => have := HK1.out; have := HK2.out; have := HK3.out; have := HK4.out; omega
                  case rel => exact ⟨(y120), (wrap64 (x75_2 + 1)), rS, H', ⟨by have := HK1.out; have := HK2.out; have := HK3.out; have := HK4.out; omega⟩, ⟨by (with_reducible repeat (first | apply rA | apply rN | apply rD)); exact Kd.R_mono Q01.out (fun _ hk => trivial)⟩, ⟨by (with_reducible repeat (first | apply Kd.S_alloc | apply Kd.S_drewN | apply Kd.S_drew)); exact Kd.S_mono Q2t.out (fun _ hk => ⟨hk.1, hk.2.1⟩)⟩, ⟨by (with_reducible repeat (first | apply rA | apply rN | apply rD)); exact Kd.R_mono Q0a.out (fun _ hk => trivial)⟩, ⟨pB Q02⟩, ⟨pH HB⟩⟩
                 ·rw [if_neg c81] at H
                  exact absurd H (by simp)
          ·rw [if_neg c47] at H
           have c47b0 : (x75_2 == (rd x5_1 x75_2)) = false := beq_eq_false_iff_ne.mpr c47
           have c47b1 : (x75_2 != (rd x5_1 x75_2)) = true := bne_iff_ne.mpr c47
           have H' := Aside0.mk H
           clear H
           have p114 : 0 ≤ (x75_2 : Int) := oT
           have q114 : x75_2 < (x5_1.length : Int) := oT
           obtain ⟨ad114, e114, hx114_0⟩ := Kd.at_int (Kd.R_reads' Q0a.out).2.2 x75_2 p114 q114
           cases e114
           replace p114 := eq_true p114
           replace q114 := eq_true q114
           go_wp2
           repeat (go_quiet (fail); try go_wp2)
           go_roundg k2
           case measure => have := HK1.out; have := HK2.out; omega
           case rel => exact ⟨(x10_2), (wrap64 (x75_2 + 1)), rS, H', ⟨by have := HK1.out; have := HK2.out; omega⟩, ⟨pR Q01⟩, ⟨by (with_reducible repeat (first | apply Kd.S_alloc | apply Kd.S_drewN | apply Kd.S_drew)); exact Q09.out⟩, ⟨pR Q0a⟩, ⟨pB Q02⟩, ⟨pH HB⟩⟩
         ·rw [if_neg c46] at H
          exact absurd H (by simp)
        ·rw [if_neg c45] at H
         exact absurd H (by simp)
       ·rw [if_neg c44] at H
        have c44b0 : decide (x75_2 < (x5_1.length : Int)) = false := decide_eq_false c44
        clear c44
        simp only [Option.some.injEq, Prod.mk.injEq] at H
        obtain ⟨rfl, rfl⟩ := H
        go_wp2
        repeat (go_quiet (fail); try go_wp2)
        go_ret2
        exact ⟨_, by first | rfl | (simp [errW_none, errW_some] <;> rfl) | (simp [*, errW_none, errW_some] <;> rfl), by (with_reducible repeat (first | apply Kd.S_alloc | apply Kd.S_drewN | apply Kd.S_drew)); exact Kd.S_mono Q09.out (fun _ hk => trivial), by repeat (first | (with_reducible first | exact HB.out | apply wA | apply wN | apply wD | refine below_set ?_ Q1q.out) | exact HB.out)⟩
 ·rw [if_neg c3] at H
  have c3b0 : (t102 == 0) = false := beq_eq_false_iff_ne.mpr c3
  have c3b1 : (t102 != 0) = true := bne_iff_ne.mpr c3
  simp only [Option.some.injEq, Prod.mk.injEq] at H
  obtain ⟨rfl, rfl⟩ := H
  go_enter Try.func20, Try.ntmps20
  iterate 3 (try (go_wp2_with (first | ((with_reducible refine gate_dst (N := 1) rfl ?_); refine box_event ?hg (N := 1) ?hd (cs := #[.slice A0_0 l0_0.length c0_0, .slice A0_1 l0_1.length c0_1]) (t := 25) ?hr ?_; (case hd => rfl); (case hg => rfl); (case hr => first | (go_simp; done) | (go_simp; rfl)); intro Q0b hg w87 hbox hb; have Q02 := Aside0.mk (hbox); have Q28 := Aside0.mk ((by rw [hg]; exact (below_size hB) : w.heap.size ≤ Q0b)); have Q1q := Aside0.mk ((by rw [hg]; exact (below_size hB) : w.heap.size ≤ Q0b)); replace HB := uH HB hb; clear hb hbox hg; have Q47 : w87.cell? ⟨Q0b, 0, none⟩ = some (.slice A0_0 l0_0.length c0_0) := (blk_cell Q02.out 0).trans rfl; have Q48 : w87.cell? ⟨Q0b, 1, none⟩ = some (.slice A0_1 l0_1.length c0_1) := (blk_cell Q02.out 1).trans rfl; have Q49 := blk_frozen Q02.out 0; have Q4a := blk_frozen Q02.out 1) | (go_at_call 26; (with_reducible refine (graph_Valid.calls _ _ l0_0 _ _ l0_1 t102 _ ?side1 ?side2 ?side3 ?side4 A2.out).mono ?_); (case side1 => repeat (first | exact (cB HR0_0.out HB.out) | (with_reducible refine cA ?_ _) | (with_reducible refine cN ?_ _) | (with_reducible refine cD ?_))); (case side2 => exact HC0_0.out); (case side3 => repeat (first | exact (cB HR0_1.out HB.out) | (with_reducible refine cA ?_ _) | (with_reducible refine cN ?_ _) | (with_reducible refine cD ?_))); (case side4 => exact HC0_1.out); rintro e w89 ⟨rfl, hb⟩; replace Q02 := uB Q02 hb; replace HB := uH HB hb; (try clear hb); (try clear hb2); (try clear hk); (try clear hi)))); try (go_quiet (fail)))
  go_ret2
  exact ⟨_, by first | rfl | (simp [errW_none, errW_some] <;> rfl) | (simp [*, errW_none, errW_some] <;> rfl), by first | exact Kd.S_nil _ _ _ _ _ | exact Kd.N_nil _ _ _ _ _ | exact Kd.V_nil _ _ _ _ _ | exact Kd.Q_nil _ _ _ _ _ | exact Kd.R_nil _ _ _ _ _, by repeat (first | (with_reducible first | exact HB.out | apply wA | apply wN | apply wD | refine below_set ?_ Q1q.out) | exact HB.out)⟩
end Go.Proofs.Ytmbnibonggbjgaa.X

namespace Go.Proofs.Ytmbnibonggbjgaa.X
open Go.RowKit Go.Proofs.YtmbnibonggbjgaaW.PrintWords Go.Proofs.YtmbnibonggbjgaaW.PrintLast Go.Proofs.YtmbnibonggbjgaaW.PrintMore
open Go.Proofs.YtmbnibonggbjgaaW.PrintWords renaming blk_drewN → bN, blk_drew → bD, blk_alloc → bA, below_alloc → wA, pw_below_drewN → wN, below_drew1 → wD, blk_below → bB, below_step → wS, blk_at → bT, blk_grown → bG
open Go.Proofs.YtmbnibonggbjgaaW.PrintWords.Kd renaming R_alloc → rA, R_drewN → rN, R_drew → rD, R_below → rB, R_grown → rG, C_below → cB, C_alloc → cA, C_drewN → cN, C_drew → cD
attribute [local go_sem] max2_int min2_int max_two min_two max_three min_three max_four min_four
set_option linter.unusedVariables false
set_option linter.unusedSimpArgs false
/-! ### slices_Equal_int_int: function 22 -/
def slices_Equal_int_int.l0 : Nat → List Int → List Int → Int → Int → Option (Bool)
 | 0, _, _, _, _ => none
 | k + 1, x0, x1, x12, x13 => if x13 < x12 then (if 0 ≤ x13 then (if x13 < (x0.length : Int) then (if x13 < (x1.length : Int) then (if (rd x0 x13) = (rd x1 x13) then (slices_Equal_int_int.l0 k x0 x1 x12 (wrap64 (x13 + 1))) else (some false)) else (none)) else (none)) else (none)) else (some true)
def slices_Equal_int_int.f (k : Nat) (l0 : List Int) (l1 : List Int) : Option (Bool) := if (l0.length : Int) = (l1.length : Int) then (slices_Equal_int_int.l0 k l0 l1 (l0.length : Int) 0) else (some false)
theorem slices_Equal_int_int.mono_l : ∀ k, (∀ y0 y1 y2 y3, LeO (slices_Equal_int_int.l0 k y0 y1 y2 y3) (slices_Equal_int_int.l0 (k + 1) y0 y1 y2 y3))
 | 0 => fun _ _ _ _ r h => by simp [slices_Equal_int_int.l0] at h
 | k + 1 => by
  have ih0 := slices_Equal_int_int.mono_l k
  ·intro y0 y1 y2 y3
   unfold slices_Equal_int_int.l0
   repeat' first
   | (with_reducible exact ih0 _ _ _ _)
   | (with_reducible exact LeO.refl _)
   | (with_reducible exact LeO.none _)
   | (with_reducible refine LeO.ite ?_ ?_)
   | (with_reducible refine LeO.bind ?_ (fun _ => ?_))
   | exact ih0 _ _ _ _
   | exact LeO.none _
   | refine LeO.ite ?_ ?_
   | refine LeO.bind ?_ (fun _ => ?_)
theorem slices_Equal_int_int.mono : ∀ a0 a1 k, LeO (slices_Equal_int_int.f k a0 a1) (slices_Equal_int_int.f (k + 1) a0 a1) := by
 intro a0 a1 k
 have ih0 := slices_Equal_int_int.mono_l k
 unfold slices_Equal_int_int.f
 repeat' first
   | (with_reducible exact ih0 _ _ _ _)
   | (with_reducible exact LeO.refl _)
   | (with_reducible exact LeO.none _)
   | (with_reducible refine LeO.ite ?_ ?_)
   | (with_reducible refine LeO.bind ?_ (fun _ => ?_))
   | exact ih0 _ _ _ _
   | exact LeO.none _
   | refine LeO.ite ?_ ?_
   | refine LeO.bind ?_ (fun _ => ?_)
set_option maxHeartbeats 8000000 in
set_option maxRecDepth 100000 in
theorem slices_Equal_int_int.calls (k : Nat) (A0 : Option Addr) (c0 : Nat) (l0 : List Int) (A1 : Option Addr) (c1 : Nat) (l1 : List Int) (r : Bool) (w : World) (hr0 : Kd.C (Kd.int .i64) w A0 l0.length l0) (hc0 : l0.length ≤ c0) (hr1 : Kd.C (Kd.int .i64) w A1 l1.length l1) (hc1 : l1.length ≤ c1) (h : slices_Equal_int_int.f k l0 l1 = some r) :
  Calls Try.prog 22 #[.slice A0 l0.length c0, .slice A1 l1.length c1] w fun e w' => e = .returned (.bool r) ∧ Drawn0 w w' := by
 have HR0 := Aside0.mk hr0
 have HC0 := Aside0.mk hc0
 clear hr0 hc0
 have HR1 := Aside0.mk hr1
 have HC1 := Aside0.mk hc1
 clear hr1 hc1
 have H : (if (l0.length : Int) = (l1.length : Int) then (slices_Equal_int_int.l0 k l0 l1 (l0.length : Int) 0) else (some false)) = some r := h
 clear h
 by_cases c3 : (l0.length : Int) = (l1.length : Int)
 ·rw [if_pos c3] at H
  have c3b0 : ((l0.length : Int) == (l1.length : Int)) = true := beq_iff_eq.mpr c3
  have c3b1 : ((l0.length : Int) != (l1.length : Int)) = false := bne_eq_false_iff_eq.mpr c3
  have c3b2 : (l0.length == l1.length) = true := by first | simpa using c3 | (simp at c3 ⊢; omega)
  clear c3
  have H' := Aside0.mk H
  clear H
  go_enter Try.func22, Try.ntmps22
  go_wp2
  repeat (go_quiet (fail); try go_wp2)
  go_loopg [13] k (fun kq v13 w' => ∃ (x13_1 : Int), v13 = .int .i64 x13_1 ∧ Aside0 (slices_Equal_int_int.l0 kq l0 l1 (l0.length : Int) x13_1 = some r) ∧ Aside0 (kq ≤ k) ∧ Drawn0 w w')
  case atStart => exact ⟨(0), rS, H', ⟨Nat.le_refl _⟩, by repeat (first | exact Drawn0.refl _ | apply Drawn0.step)⟩
  case round =>
   clear H'
   try clear c1; try clear c2; try clear p2; try clear c3; try clear c3b0; try clear c3b1; try clear c3b2
   obtain ⟨x13_1, rfl, HA, HK1, ⟨m1, rfl⟩⟩ := hrel
   cases gk with
   | zero => exact absurd HA.out (by simp [slices_Equal_int_int.l0])
   | succ k1 =>
    have H := HA.out
    clear HA
    simp only [slices_Equal_int_int.l0] at H
    by_cases c4 : x13_1 < (l0.length : Int)
    ·rw [if_pos c4] at H
     have c4b0 : decide (x13_1 < (l0.length : Int)) = true := decide_eq_true c4
     clear c4
     by_cases c5 : 0 ≤ x13_1
     ·rw [if_pos c5] at H
      have c5b0 : decide (0 ≤ x13_1) = true := decide_eq_true c5
      clear c5
      by_cases c6 : x13_1 < (l0.length : Int)
      ·rw [if_pos c6] at H
       have c6b0 : decide (x13_1 < (l0.length : Int)) = true := decide_eq_true c6
       clear c6
       by_cases c7 : x13_1 < (l1.length : Int)
       ·rw [if_pos c7] at H
        have c7b0 : decide (x13_1 < (l1.length : Int)) = true := decide_eq_true c7
        clear c7
        by_cases c8 : (rd l0 x13_1) = (rd l1 x13_1)
        ·rw [if_pos c8] at H
         have c8b0 : ((rd l0 x13_1) == (rd l1 x13_1)) = true := beq_iff_eq.mpr c8
         have c8b1 : ((rd l0 x13_1) != (rd l1 x13_1)) = false := bne_eq_false_iff_eq.mpr c8
         clear c8
         have H' := Aside0.mk H
         clear H
         have p101 : 0 ≤ (x13_1 : Int) := oT
         have q101 : x13_1 < (l0.length : Int) := oT
         obtain ⟨ad101, e101, hx101_0⟩ := Kd.at_int HR0.out x13_1 p101 q101
         cases e101
         replace p101 := eq_true p101
         replace q101 := eq_true q101
         have p102 : 0 ≤ (x13_1 : Int) := oT
         have q102 : x13_1 < (l1.length : Int) := oT
         obtain ⟨ad102, e102, hx102_0⟩ := Kd.at_int HR1.out x13_1 p102 q102
         cases e102
         replace p102 := eq_true p102
         replace q102 := eq_true q102
         go_wp2
         repeat (go_quiet (fail); try go_wp2)
         go_roundg k1
         case measure => have := HK1.out; omega
         case rel => exact ⟨(wrap64 (x13_1 + 1)), rS, H', ⟨by have := HK1.out; omega⟩, by repeat (first | exact Drawn0.refl _ | apply Drawn0.step)⟩
        ·rw [if_neg c8] at H
         have c8b0 : ((rd l0 x13_1) == (rd l1 x13_1)) = false := beq_eq_false_iff_ne.mpr c8
         have c8b1 : ((rd l0 x13_1) != (rd l1 x13_1)) = true := bne_iff_ne.mpr c8
         obtain rfl := Option.some.inj H
         have p101 : 0 ≤ (x13_1 : Int) := oT
         have q101 : x13_1 < (l0.length : Int) := oT
         obtain ⟨ad101, e101, hx101_0⟩ := Kd.at_int HR0.out x13_1 p101 q101
         cases e101
         replace p101 := eq_true p101
         replace q101 := eq_true q101
         have p102 : 0 ≤ (x13_1 : Int) := oT
         have q102 : x13_1 < (l1.length : Int) := oT
         obtain ⟨ad102, e102, hx102_0⟩ := Kd.at_int HR1.out x13_1 p102 q102
         cases e102
         replace p102 := eq_true p102
         replace q102 := eq_true q102
         go_wp2
         repeat (go_quiet (fail); try go_wp2)
         go_ret
         exact ⟨by first | rfl | (simp; done) | (simp [*]; done), by repeat (first | exact Drawn0.refl _ | apply Drawn0.step)⟩
       ·rw [if_neg c7] at H
        exact absurd H (by simp)
      ·rw [if_neg c6] at H
       exact absurd H (by simp)
     ·rw [if_neg c5] at H
      exact absurd H (by simp)
    ·rw [if_neg c4] at H
     have c4b0 : decide (x13_1 < (l0.length : Int)) = false := decide_eq_false c4
     clear c4
     obtain rfl := Option.some.inj H
     go_wp2
     repeat (go_quiet (fail); try go_wp2)
     go_ret
     exact ⟨by first | rfl | (simp; done) | (simp [*]; done), by repeat (first | exact Drawn0.refl _ | apply Drawn0.step)⟩
 ·rw [if_neg c3] at H
  have c3b0 : ((l0.length : Int) == (l1.length : Int)) = false := beq_eq_false_iff_ne.mpr c3
  have c3b1 : ((l0.length : Int) != (l1.length : Int)) = true := bne_iff_ne.mpr c3
  have c3b2 : (l0.length == l1.length) = false := by first | simpa using c3 | (simp at c3 ⊢; omega)
  obtain rfl := Option.some.inj H
  go_enter Try.func22, Try.ntmps22
  go_wp2
  repeat (go_quiet (fail); try go_wp2)
  go_ret
  exact ⟨by first | rfl | (simp; done) | (simp [*]; done), by repeat (first | exact Drawn0.refl _ | apply Drawn0.step)⟩
end Go.Proofs.Ytmbnibonggbjgaa.X

namespace Go.Proofs.Ytmbnibonggbjgaa.X
open Go.RowKit Go.Proofs.YtmbnibonggbjgaaW.PrintWords Go.Proofs.YtmbnibonggbjgaaW.PrintLast Go.Proofs.YtmbnibonggbjgaaW.PrintMore
open Go.Proofs.YtmbnibonggbjgaaW.PrintWords renaming blk_drewN → bN, blk_drew → bD, blk_alloc → bA, below_alloc → wA, pw_below_drewN → wN, below_drew1 → wD, blk_below → bB, below_step → wS, blk_at → bT, blk_grown → bG
open Go.Proofs.YtmbnibonggbjgaaW.PrintWords.Kd renaming R_alloc → rA, R_drewN → rN, R_drew → rD, R_below → rB, R_grown → rG, C_below → cB, C_alloc → cA, C_drewN → cN, C_drew → cD
attribute [local go_sem] max2_int min2_int max_two min_two max_three min_three max_four min_four
set_option linter.unusedVariables false
set_option linter.unusedSimpArgs false
/-! ### scarfjointlaw05_example: function 38 -/
def scarfjointlaw05_example.f  : Option (List Int × (List (S38))) := some ((([3, 1, 1] : List Int)), (([(⟨0, 0, 1⟩ : S38), (⟨0, 0, 2⟩ : S38)] : List (S38))))
set_option maxHeartbeats 8000000 in
set_option maxRecDepth 100000 in
theorem scarfjointlaw05_example.calls  (r1 : List Int) (r2 : List (S38)) (w : World) (h : scarfjointlaw05_example.f  = some (r1, r2)) :
  Calls Try.prog 38 #[] w fun e w' => ∃ v0_ v1_ : Value, e = .returned (.agg #[v0_, v1_]) ∧ Kd.R (Kd.int .i64) 3 w' w.heap.size (fun _ => True) v0_ r1 ∧ Kd.R k38 38 w' w.heap.size (fun _ => True) v1_ r2 ∧ Below w.heap.size w w' := by
 have hu25 := Try.underlying25
 have hu38 := Try.underlying38
 have HB := Aside0.mk (Below.refl w.heap.size w)
 have H : (some ((([3, 1, 1] : List Int)), (([(⟨0, 0, 1⟩ : S38), (⟨0, 0, 2⟩ : S38)] : List (S38))))) = some (r1, r2) := h
 clear h
 obtain ⟨y102, hy102⟩ : ∃ y_ : List Int, y_ = (([3, 1, 1] : List Int)) := ⟨_, rfl⟩
 replace H : (some (y102, (([(⟨0, 0, 1⟩ : S38), (⟨0, 0, 2⟩ : S38)] : List (S38))))) = some (r1, r2) := by first | (rw [hy102]; with_reducible exact H) | (have H2_ := (Option.bind_some _ _).symm.trans H; rw [hy102]; with_reducible exact H2_) | (have H2_ := (Option.bind_some _ _).symm.trans H; with_reducible exact H2_) | with_reducible exact H | (rw [hy102]; exact H) | exact H
 have Ny102 := Aside0.mk hy102
 clear hy102
 obtain ⟨y105, hy105⟩ : ∃ y_ : List (S38), y_ = (([(⟨0, 0, 1⟩ : S38), (⟨0, 0, 2⟩ : S38)] : List (S38))) := ⟨_, rfl⟩
 replace H : (some (y102, y105)) = some (r1, r2) := by first | (rw [hy105]; with_reducible exact H) | (have H2_ := (Option.bind_some _ _).symm.trans H; rw [hy105]; with_reducible exact H2_) | (have H2_ := (Option.bind_some _ _).symm.trans H; with_reducible exact H2_) | with_reducible exact H | (rw [hy105]; exact H) | exact H
 have Ny105 := Aside0.mk hy105
 clear hy105
 simp only [Option.some.injEq, Prod.mk.injEq] at H
 obtain ⟨rfl, rfl⟩ := H
 go_enter Try.func38, Try.ntmps38
 go_wp2_with (first | ((with_reducible refine gate_dst (N := 0) rfl ?_); refine box_event ?hg (N := 0) ?hd (cs := #[.slice none 0 0, .slice none 0 0]) (t := 25) ?hr ?_; (case hd => rfl); (case hg => rfl); (case hr => first | (go_simp; done) | (go_simp; rfl)); intro Q01 hg w1 hbox hb; have Q00 := Aside0.mk (hbox); have Q05 := Aside0.mk ((by rw [hg]; exact (below_size hB) : w.heap.size ≤ Q01)); have Q04 := Aside0.mk ((by rw [hg]; exact (below_size hB) : w.heap.size ≤ Q01)); replace HB := uH HB hb; clear hb hbox hg) | ((with_reducible refine gate_dst (N := 1) rfl ?_); refine Kd.R_lit (Kd.int .i64) _ 3 ?hg (N := 1) ?hd (xs := ([3, 1, 1] : List Int)) (inner := [.int .i64 3, .int .i64 1, .int .i64 1]) (ok := fun _ => True) (okp := fun _ => True) ?hr ?hp (fun _ hk => hk) trivial (Below.refl _ _) (Nat.le_refl _) (by simp) ?_; (case hd => rfl); (case hg => rfl); (case hr => first | (go_simp; done) | (go_simp; rfl)); (case hp => exact (Reps.one (show Kd.M (Kd.int .i64) _ _ _ 3 [.int .i64 3] from rfl) (Reps.one (show Kd.M (Kd.int .i64) _ _ _ 1 [.int .i64 1] from rfl) (Reps.one (show Kd.M (Kd.int .i64) _ _ _ 1 [.int .i64 1] from rfl) (Reps.none _ _))))); intro v103 w2 ho3 hb hg_ hnew_; clear hg_ hnew_; (first | rw [← Ny102.out] at ho3 | (simp only [Int.reduceToNat] at ho3; rw [← Ny102.out] at ho3)); have Q02 := Aside0.mk (Kd.R_lower ho3 (below_size (pH HB))); replace Q00 := uB Q00 hb; replace HB := uH HB hb; clear hb ho3) | ((with_reducible refine gate_dst (N := 4) rfl ?_); refine Kd.R_lit k38 _ 38 ?hg (N := 4) ?hd (xs := ([(⟨0, 0, 1⟩ : S38), (⟨0, 0, 2⟩ : S38)] : List (S38))) (inner := [.int .i64 0, .int .i64 0, .int .i64 1, .int .i64 0, .int .i64 0, .int .i64 2]) (ok := fun _ => True) (okp := fun _ => True) ?hr ?hp (fun _ hk => hk) trivial (Below.refl _ _) (Nat.le_refl _) (by simp) ?_; (case hd => rfl); (case hg => rfl); (case hr => first | (go_simp; done) | (go_simp; rfl)); (case hp => exact (Reps.c3 (show Kd.M k38 _ _ _ (⟨0, 0, 1⟩ : S38) [.int .i64 0, .int .i64 0, .int .i64 1] from (k38_mkM _ _ _ (⟨0, 0, 1⟩ : S38) )) (Reps.c3 (show Kd.M k38 _ _ _ (⟨0, 0, 2⟩ : S38) [.int .i64 0, .int .i64 0, .int .i64 2] from (k38_mkM _ _ _ (⟨0, 0, 2⟩ : S38) )) (Reps.none _ _)))); intro v106 w4 ho5 hb hg_ hnew_; clear hg_ hnew_; (first | rw [← Ny105.out] at ho5 | (simp only [Int.reduceToNat] at ho5; rw [← Ny105.out] at ho5)); replace Q02 := uR Q02 hb; have Q03 := Aside0.mk (Kd.R_lower ho5 (below_size (pH HB))); replace Q00 := uB Q00 hb; replace HB := uH HB hb; clear hb ho5; obtain ⟨Ao6, co6, eo6⟩ := Kd.R_slice Q03.out; subst eo6; obtain ⟨Ao7, co7, eo7⟩ := Kd.R_slice Q02.out; subst eo7; have Q06 : w4.cell? ⟨Q01, 0, none⟩ = some (.slice none 0 0) := (blk_cell Q00.out 0).trans rfl; have Q07 : w4.cell? ⟨Q01, 1, none⟩ = some (.slice none 0 0) := (blk_cell Q00.out 1).trans rfl; have Q08 := blk_frozen Q00.out 0; have Q09 := blk_frozen Q00.out 1))
 refine bodyPost_ret (results_cell_row rfl _ _ Q01 25 #[.slice Ao7 y102.length co7, .slice Ao6 y105.length co6] (0, 0) _ rfl (by (with_reducible repeat (first | refine bN ?_ _ | refine bD ?_ | refine bA ?_ _)); refine blk_put (cs := #[.slice Ao7 y102.length co7, .slice none 0 0]) ?_ 1 _ rfl; (with_reducible repeat (first | refine bN ?_ _ | refine bD ?_ | refine bA ?_ _)); refine blk_put (cs := #[.slice none 0 0, .slice none 0 0]) ?_ 0 _ rfl; (with_reducible repeat (first | refine bN ?_ _ | refine bD ?_ | refine bA ?_ _)); exact Q00.out) Try.underlying25 rfl (by kernel_rfl)) rfl ?_
 exact ⟨_, _, by first | rfl | (simp [errW_none, errW_some] <;> rfl) | (simp [*, errW_none, errW_some] <;> rfl), by (with_reducible repeat (first | apply rA | apply rN | apply rD)); exact Kd.R_mono (Kd.R_far (p := ⟨Q01, 1, none⟩) (Kd.R_far (p := ⟨Q01, 0, none⟩) (Kd.R_types Q02.out Q00.out (by decide)) (fun _ hk => hk.2) (.slice Ao7 y102.length co7)) (fun _ hk => hk.2) (.slice Ao6 y105.length co6)) (fun _ hk => trivial), by (with_reducible repeat (first | apply rA | apply rN | apply rD)); exact Kd.R_mono (Kd.R_far (p := ⟨Q01, 1, none⟩) (Kd.R_far (p := ⟨Q01, 0, none⟩) (Kd.R_types Q03.out Q00.out (by decide)) (fun _ hk => hk.2) (.slice Ao7 y102.length co7)) (fun _ hk => hk.2) (.slice Ao6 y105.length co6)) (fun _ hk => trivial), by repeat (first | (with_reducible first | exact HB.out | apply wA | apply wN | apply wD | refine below_set ?_ Q04.out) | exact HB.out)⟩
end Go.Proofs.Ytmbnibonggbjgaa.X

namespace Go.Proofs.Ytmbnibonggbjgaa.X
open Go.RowKit Go.Proofs.YtmbnibonggbjgaaW.PrintWords Go.Proofs.YtmbnibonggbjgaaW.PrintLast Go.Proofs.YtmbnibonggbjgaaW.PrintMore
open Go.Proofs.YtmbnibonggbjgaaW.PrintWords renaming blk_drewN → bN, blk_drew → bD, blk_alloc → bA, below_alloc → wA, pw_below_drewN → wN, below_drew1 → wD, blk_below → bB, below_step → wS, blk_at → bT, blk_grown → bG
open Go.Proofs.YtmbnibonggbjgaaW.PrintWords.Kd renaming R_alloc → rA, R_drewN → rN, R_drew → rD, R_below → rB, R_grown → rG, C_below → cB, C_alloc → cA, C_drewN → cN, C_drew → cD
attribute [local go_sem] max2_int min2_int max_two min_two max_three min_three max_four min_four
set_option linter.unusedVariables false
set_option linter.unusedSimpArgs false
/-! ### scarfjointlaw05_awake: function 10 -/
def scarfjointlaw05_awake.f (k : Nat)  : Option (Bool) := (scarfjointlaw05_example.f).bind fun bt101 => ((graph_Remove.f k bt101.1 bt101.2 (([1] : List Int)) (([0] : List Int))).bind fun bt113 => ((scarfjointlaw05_example.f).bind fun bt128 => ((graph_Remove.f k bt128.1 bt128.2 (([1] : List Int)) ([] : List Int)).bind fun bt137 => ((scarfjointlaw05_example.f).bind fun bt152 => ((graph_Components.f k bt152.1 bt152.2).bind fun bt158 => (if bt113.2.2.2.2 = 0 then ((scarfjointref05_Same.f k bt113.1 bt113.2.1 (([3, 1] : List Int)) (([(⟨0, 0, 1⟩ : S38)] : List (S38)))).bind fun t168 => (if t168 = true then ((slices_Equal_int_int.f k bt113.2.2.1 (([0, (-1), 1] : List Int))).bind fun t172 => (if t172 = true then ((slices_Equal_int_int.f k bt113.2.2.2.1 (([(-1), 0] : List Int))).bind fun t176 => (if t176 = true then (if bt137.2.2.2.2 = 14 then (if bt158.2 = 0 then (some ((bt158.1.length : Int) == 1)) else (none)) else (none)) else (none))) else (none))) else (none))) else (none)))))))
theorem scarfjointlaw05_awake.mono : ∀ k, LeO (scarfjointlaw05_awake.f k ) (scarfjointlaw05_awake.f (k + 1) ) := by
 intro  k
 unfold scarfjointlaw05_awake.f
 repeat' first
   | (with_reducible exact graph_Components.mono _ _ _)
   | (with_reducible exact graph_Remove.mono _ _ _ _ _)
   | (with_reducible exact scarfjointref05_Same.mono _ _ _ _ _)
   | (with_reducible exact slices_Equal_int_int.mono _ _ _)
   | (with_reducible exact LeO.refl _)
   | (with_reducible exact LeO.none _)
   | (with_reducible refine LeO.ite ?_ ?_)
   | (with_reducible refine LeO.bind ?_ (fun _ => ?_))
   | exact graph_Components.mono _ _ _
   | exact graph_Remove.mono _ _ _ _ _
   | exact scarfjointref05_Same.mono _ _ _ _ _
   | exact slices_Equal_int_int.mono _ _ _
   | exact LeO.none _
   | refine LeO.ite ?_ ?_
   | refine LeO.bind ?_ (fun _ => ?_)
set_option maxHeartbeats 8000000 in
set_option maxRecDepth 100000 in
theorem scarfjointlaw05_awake.calls (k : Nat)  (r : Bool) (w : World) (h : scarfjointlaw05_awake.f k  = some r) :
  Calls Try.prog 10 #[] w fun e w' => e = .returned (.bool r) ∧ Below w.heap.size w w' := by
 have hu25 := Try.underlying25
 have hu29 := Try.underlying29
 have hu38 := Try.underlying38
 have HB := Aside0.mk (Below.refl w.heap.size w)
 have H : ((scarfjointlaw05_example.f).bind fun bt101 => ((graph_Remove.f k bt101.1 bt101.2 (([1] : List Int)) (([0] : List Int))).bind fun bt113 => ((scarfjointlaw05_example.f).bind fun bt128 => ((graph_Remove.f k bt128.1 bt128.2 (([1] : List Int)) ([] : List Int)).bind fun bt137 => ((scarfjointlaw05_example.f).bind fun bt152 => ((graph_Components.f k bt152.1 bt152.2).bind fun bt158 => (if bt113.2.2.2.2 = 0 then ((scarfjointref05_Same.f k bt113.1 bt113.2.1 (([3, 1] : List Int)) (([(⟨0, 0, 1⟩ : S38)] : List (S38)))).bind fun t168 => (if t168 = true then ((slices_Equal_int_int.f k bt113.2.2.1 (([0, (-1), 1] : List Int))).bind fun t172 => (if t172 = true then ((slices_Equal_int_int.f k bt113.2.2.2.1 (([(-1), 0] : List Int))).bind fun t176 => (if t176 = true then (if bt137.2.2.2.2 = 14 then (if bt158.2 = 0 then (some ((bt158.1.length : Int) == 1)) else (none)) else (none)) else (none))) else (none))) else (none))) else (none)))))))) = some r := h
 clear h
 replace H := Option.bind_eq_some_iff.mp H
 obtain ⟨⟨t101, t104⟩, A10, H⟩ := H
 replace H : ((graph_Remove.f k t101 t104 (([1] : List Int)) (([0] : List Int))).bind fun bt113 => ((scarfjointlaw05_example.f).bind fun bt128 => ((graph_Remove.f k bt128.1 bt128.2 (([1] : List Int)) ([] : List Int)).bind fun bt137 => ((scarfjointlaw05_example.f).bind fun bt152 => ((graph_Components.f k bt152.1 bt152.2).bind fun bt158 => (if bt113.2.2.2.2 = 0 then ((scarfjointref05_Same.f k bt113.1 bt113.2.1 (([3, 1] : List Int)) (([(⟨0, 0, 1⟩ : S38)] : List (S38)))).bind fun t168 => (if t168 = true then ((slices_Equal_int_int.f k bt113.2.2.1 (([0, (-1), 1] : List Int))).bind fun t172 => (if t172 = true then ((slices_Equal_int_int.f k bt113.2.2.2.1 (([(-1), 0] : List Int))).bind fun t176 => (if t176 = true then (if bt137.2.2.2.2 = 14 then (if bt158.2 = 0 then (some ((bt158.1.length : Int) == 1)) else (none)) else (none)) else (none))) else (none))) else (none))) else (none))))))) = some r := H
 have A1 := Aside0.mk A10
 clear A10
 obtain ⟨y107, hy107⟩ : ∃ y_ : List Int, y_ = (([1] : List Int)) := ⟨_, rfl⟩
 replace H : ((graph_Remove.f k t101 t104 y107 (([0] : List Int))).bind fun bt113 => ((scarfjointlaw05_example.f).bind fun bt128 => ((graph_Remove.f k bt128.1 bt128.2 (([1] : List Int)) ([] : List Int)).bind fun bt137 => ((scarfjointlaw05_example.f).bind fun bt152 => ((graph_Components.f k bt152.1 bt152.2).bind fun bt158 => (if bt113.2.2.2.2 = 0 then ((scarfjointref05_Same.f k bt113.1 bt113.2.1 (([3, 1] : List Int)) (([(⟨0, 0, 1⟩ : S38)] : List (S38)))).bind fun t168 => (if t168 = true then ((slices_Equal_int_int.f k bt113.2.2.1 (([0, (-1), 1] : List Int))).bind fun t172 => (if t172 = true then ((slices_Equal_int_int.f k bt113.2.2.2.1 (([(-1), 0] : List Int))).bind fun t176 => (if t176 = true then (if bt137.2.2.2.2 = 14 then (if bt158.2 = 0 then (some ((bt158.1.length : Int) == 1)) else (none)) else (none)) else (none))) else (none))) else (none))) else (none))))))) = some r := by first | (rw [hy107]; with_reducible exact H) | (have H2_ := (Option.bind_some _ _).symm.trans H; rw [hy107]; with_reducible exact H2_) | (have H2_ := (Option.bind_some _ _).symm.trans H; with_reducible exact H2_) | with_reducible exact H | (rw [hy107]; exact H) | exact H
 have Ny107 := Aside0.mk hy107
 clear hy107
 obtain ⟨y110, hy110⟩ : ∃ y_ : List Int, y_ = (([0] : List Int)) := ⟨_, rfl⟩
 replace H : ((graph_Remove.f k t101 t104 y107 y110).bind fun bt113 => ((scarfjointlaw05_example.f).bind fun bt128 => ((graph_Remove.f k bt128.1 bt128.2 (([1] : List Int)) ([] : List Int)).bind fun bt137 => ((scarfjointlaw05_example.f).bind fun bt152 => ((graph_Components.f k bt152.1 bt152.2).bind fun bt158 => (if bt113.2.2.2.2 = 0 then ((scarfjointref05_Same.f k bt113.1 bt113.2.1 (([3, 1] : List Int)) (([(⟨0, 0, 1⟩ : S38)] : List (S38)))).bind fun t168 => (if t168 = true then ((slices_Equal_int_int.f k bt113.2.2.1 (([0, (-1), 1] : List Int))).bind fun t172 => (if t172 = true then ((slices_Equal_int_int.f k bt113.2.2.2.1 (([(-1), 0] : List Int))).bind fun t176 => (if t176 = true then (if bt137.2.2.2.2 = 14 then (if bt158.2 = 0 then (some ((bt158.1.length : Int) == 1)) else (none)) else (none)) else (none))) else (none))) else (none))) else (none))))))) = some r := by first | (rw [hy110]; with_reducible exact H) | (have H2_ := (Option.bind_some _ _).symm.trans H; rw [hy110]; with_reducible exact H2_) | (have H2_ := (Option.bind_some _ _).symm.trans H; with_reducible exact H2_) | with_reducible exact H | (rw [hy110]; exact H) | exact H
 have Ny110 := Aside0.mk hy110
 clear hy110
 replace H := Option.bind_eq_some_iff.mp H
 obtain ⟨⟨t113, t116, t119, t122, t125⟩, A20, H⟩ := H
 replace H : ((scarfjointlaw05_example.f).bind fun bt128 => ((graph_Remove.f k bt128.1 bt128.2 (([1] : List Int)) ([] : List Int)).bind fun bt137 => ((scarfjointlaw05_example.f).bind fun bt152 => ((graph_Components.f k bt152.1 bt152.2).bind fun bt158 => (if t125 = 0 then ((scarfjointref05_Same.f k t113 t116 (([3, 1] : List Int)) (([(⟨0, 0, 1⟩ : S38)] : List (S38)))).bind fun t168 => (if t168 = true then ((slices_Equal_int_int.f k t119 (([0, (-1), 1] : List Int))).bind fun t172 => (if t172 = true then ((slices_Equal_int_int.f k t122 (([(-1), 0] : List Int))).bind fun t176 => (if t176 = true then (if bt137.2.2.2.2 = 14 then (if bt158.2 = 0 then (some ((bt158.1.length : Int) == 1)) else (none)) else (none)) else (none))) else (none))) else (none))) else (none)))))) = some r := H
 have A2 := Aside0.mk A20
 clear A20
 replace H := Option.bind_eq_some_iff.mp H
 obtain ⟨⟨t128, t131⟩, A30, H⟩ := H
 replace H : ((graph_Remove.f k t128 t131 (([1] : List Int)) ([] : List Int)).bind fun bt137 => ((scarfjointlaw05_example.f).bind fun bt152 => ((graph_Components.f k bt152.1 bt152.2).bind fun bt158 => (if t125 = 0 then ((scarfjointref05_Same.f k t113 t116 (([3, 1] : List Int)) (([(⟨0, 0, 1⟩ : S38)] : List (S38)))).bind fun t168 => (if t168 = true then ((slices_Equal_int_int.f k t119 (([0, (-1), 1] : List Int))).bind fun t172 => (if t172 = true then ((slices_Equal_int_int.f k t122 (([(-1), 0] : List Int))).bind fun t176 => (if t176 = true then (if bt137.2.2.2.2 = 14 then (if bt158.2 = 0 then (some ((bt158.1.length : Int) == 1)) else (none)) else (none)) else (none))) else (none))) else (none))) else (none))))) = some r := H
 have A3 := Aside0.mk A30
 clear A30
 obtain ⟨y134, hy134⟩ : ∃ y_ : List Int, y_ = (([1] : List Int)) := ⟨_, rfl⟩
 replace H : ((graph_Remove.f k t128 t131 y134 ([] : List Int)).bind fun bt137 => ((scarfjointlaw05_example.f).bind fun bt152 => ((graph_Components.f k bt152.1 bt152.2).bind fun bt158 => (if t125 = 0 then ((scarfjointref05_Same.f k t113 t116 (([3, 1] : List Int)) (([(⟨0, 0, 1⟩ : S38)] : List (S38)))).bind fun t168 => (if t168 = true then ((slices_Equal_int_int.f k t119 (([0, (-1), 1] : List Int))).bind fun t172 => (if t172 = true then ((slices_Equal_int_int.f k t122 (([(-1), 0] : List Int))).bind fun t176 => (if t176 = true then (if bt137.2.2.2.2 = 14 then (if bt158.2 = 0 then (some ((bt158.1.length : Int) == 1)) else (none)) else (none)) else (none))) else (none))) else (none))) else (none))))) = some r := by first | (rw [hy134]; with_reducible exact H) | (have H2_ := (Option.bind_some _ _).symm.trans H; rw [hy134]; with_reducible exact H2_) | (have H2_ := (Option.bind_some _ _).symm.trans H; with_reducible exact H2_) | with_reducible exact H | (rw [hy134]; exact H) | exact H
 have Ny134 := Aside0.mk hy134
 clear hy134
 replace H := Option.bind_eq_some_iff.mp H
 obtain ⟨⟨t137, t140, t143, t146, t149⟩, A40, H⟩ := H
 replace H : ((scarfjointlaw05_example.f).bind fun bt152 => ((graph_Components.f k bt152.1 bt152.2).bind fun bt158 => (if t125 = 0 then ((scarfjointref05_Same.f k t113 t116 (([3, 1] : List Int)) (([(⟨0, 0, 1⟩ : S38)] : List (S38)))).bind fun t168 => (if t168 = true then ((slices_Equal_int_int.f k t119 (([0, (-1), 1] : List Int))).bind fun t172 => (if t172 = true then ((slices_Equal_int_int.f k t122 (([(-1), 0] : List Int))).bind fun t176 => (if t176 = true then (if t149 = 14 then (if bt158.2 = 0 then (some ((bt158.1.length : Int) == 1)) else (none)) else (none)) else (none))) else (none))) else (none))) else (none)))) = some r := H
 have A4 := Aside0.mk A40
 clear A40
 replace H := Option.bind_eq_some_iff.mp H
 obtain ⟨⟨t152, t155⟩, A50, H⟩ := H
 replace H : ((graph_Components.f k t152 t155).bind fun bt158 => (if t125 = 0 then ((scarfjointref05_Same.f k t113 t116 (([3, 1] : List Int)) (([(⟨0, 0, 1⟩ : S38)] : List (S38)))).bind fun t168 => (if t168 = true then ((slices_Equal_int_int.f k t119 (([0, (-1), 1] : List Int))).bind fun t172 => (if t172 = true then ((slices_Equal_int_int.f k t122 (([(-1), 0] : List Int))).bind fun t176 => (if t176 = true then (if t149 = 14 then (if bt158.2 = 0 then (some ((bt158.1.length : Int) == 1)) else (none)) else (none)) else (none))) else (none))) else (none))) else (none))) = some r := H
 have A5 := Aside0.mk A50
 clear A50
 replace H := Option.bind_eq_some_iff.mp H
 obtain ⟨⟨t158, t161⟩, A60, H⟩ := H
 replace H : (if t125 = 0 then ((scarfjointref05_Same.f k t113 t116 (([3, 1] : List Int)) (([(⟨0, 0, 1⟩ : S38)] : List (S38)))).bind fun t168 => (if t168 = true then ((slices_Equal_int_int.f k t119 (([0, (-1), 1] : List Int))).bind fun t172 => (if t172 = true then ((slices_Equal_int_int.f k t122 (([(-1), 0] : List Int))).bind fun t176 => (if t176 = true then (if t149 = 14 then (if t161 = 0 then (some ((t158.length : Int) == 1)) else (none)) else (none)) else (none))) else (none))) else (none))) else (none)) = some r := H
 have A6 := Aside0.mk A60
 clear A60
 by_cases c7 : t125 = 0
 ·rw [if_pos c7] at H
  have c7b0 : (t125 == 0) = true := beq_iff_eq.mpr c7
  have c7b1 : (t125 != 0) = false := bne_eq_false_iff_eq.mpr c7
  clear c7
  obtain ⟨y162, hy162⟩ : ∃ y_ : List Int, y_ = (([3, 1] : List Int)) := ⟨_, rfl⟩
  replace H : ((scarfjointref05_Same.f k t113 t116 y162 (([(⟨0, 0, 1⟩ : S38)] : List (S38)))).bind fun t168 => (if t168 = true then ((slices_Equal_int_int.f k t119 (([0, (-1), 1] : List Int))).bind fun t172 => (if t172 = true then ((slices_Equal_int_int.f k t122 (([(-1), 0] : List Int))).bind fun t176 => (if t176 = true then (if t149 = 14 then (if t161 = 0 then (some ((t158.length : Int) == 1)) else (none)) else (none)) else (none))) else (none))) else (none))) = some r := by first | (rw [hy162]; with_reducible exact H) | (have H2_ := (Option.bind_some _ _).symm.trans H; rw [hy162]; with_reducible exact H2_) | (have H2_ := (Option.bind_some _ _).symm.trans H; with_reducible exact H2_) | with_reducible exact H | (rw [hy162]; exact H) | exact H
  have Ny162 := Aside0.mk hy162
  clear hy162
  obtain ⟨y165, hy165⟩ : ∃ y_ : List (S38), y_ = (([(⟨0, 0, 1⟩ : S38)] : List (S38))) := ⟨_, rfl⟩
  replace H : ((scarfjointref05_Same.f k t113 t116 y162 y165).bind fun t168 => (if t168 = true then ((slices_Equal_int_int.f k t119 (([0, (-1), 1] : List Int))).bind fun t172 => (if t172 = true then ((slices_Equal_int_int.f k t122 (([(-1), 0] : List Int))).bind fun t176 => (if t176 = true then (if t149 = 14 then (if t161 = 0 then (some ((t158.length : Int) == 1)) else (none)) else (none)) else (none))) else (none))) else (none))) = some r := by first | (rw [hy165]; with_reducible exact H) | (have H2_ := (Option.bind_some _ _).symm.trans H; rw [hy165]; with_reducible exact H2_) | (have H2_ := (Option.bind_some _ _).symm.trans H; with_reducible exact H2_) | with_reducible exact H | (rw [hy165]; exact H) | exact H
  have Ny165 := Aside0.mk hy165
  clear hy165
  replace H := Option.bind_eq_some_iff.mp H
  obtain ⟨t168, A80, H⟩ := H
  replace H : (if t168 = true then ((slices_Equal_int_int.f k t119 (([0, (-1), 1] : List Int))).bind fun t172 => (if t172 = true then ((slices_Equal_int_int.f k t122 (([(-1), 0] : List Int))).bind fun t176 => (if t176 = true then (if t149 = 14 then (if t161 = 0 then (some ((t158.length : Int) == 1)) else (none)) else (none)) else (none))) else (none))) else (none)) = some r := H
  have A8 := Aside0.mk A80
  clear A80
  by_cases c9 : t168 = true
  ·subst c9
   have H1 : ((slices_Equal_int_int.f k t119 (([0, (-1), 1] : List Int))).bind fun t172 => (if t172 = true then ((slices_Equal_int_int.f k t122 (([(-1), 0] : List Int))).bind fun t176 => (if t176 = true then (if t149 = 14 then (if t161 = 0 then (some ((t158.length : Int) == 1)) else (none)) else (none)) else (none))) else (none))) = some r := by rw [if_pos rfl] at H; exact H
   clear H
   have H := H1
   clear H1
   obtain ⟨y169, hy169⟩ : ∃ y_ : List Int, y_ = (([0, (-1), 1] : List Int)) := ⟨_, rfl⟩
   replace H : ((slices_Equal_int_int.f k t119 y169).bind fun t172 => (if t172 = true then ((slices_Equal_int_int.f k t122 (([(-1), 0] : List Int))).bind fun t176 => (if t176 = true then (if t149 = 14 then (if t161 = 0 then (some ((t158.length : Int) == 1)) else (none)) else (none)) else (none))) else (none))) = some r := by first | (rw [hy169]; with_reducible exact H) | (have H2_ := (Option.bind_some _ _).symm.trans H; rw [hy169]; with_reducible exact H2_) | (have H2_ := (Option.bind_some _ _).symm.trans H; with_reducible exact H2_) | with_reducible exact H | (rw [hy169]; exact H) | exact H
   have Ny169 := Aside0.mk hy169
   clear hy169
   replace H := Option.bind_eq_some_iff.mp H
   obtain ⟨t172, A100, H⟩ := H
   replace H : (if t172 = true then ((slices_Equal_int_int.f k t122 (([(-1), 0] : List Int))).bind fun t176 => (if t176 = true then (if t149 = 14 then (if t161 = 0 then (some ((t158.length : Int) == 1)) else (none)) else (none)) else (none))) else (none)) = some r := H
   have A10 := Aside0.mk A100
   clear A100
   by_cases c11 : t172 = true
   ·subst c11
    have H1 : ((slices_Equal_int_int.f k t122 (([(-1), 0] : List Int))).bind fun t176 => (if t176 = true then (if t149 = 14 then (if t161 = 0 then (some ((t158.length : Int) == 1)) else (none)) else (none)) else (none))) = some r := by rw [if_pos rfl] at H; exact H
    clear H
    have H := H1
    clear H1
    obtain ⟨y173, hy173⟩ : ∃ y_ : List Int, y_ = (([(-1), 0] : List Int)) := ⟨_, rfl⟩
    replace H : ((slices_Equal_int_int.f k t122 y173).bind fun t176 => (if t176 = true then (if t149 = 14 then (if t161 = 0 then (some ((t158.length : Int) == 1)) else (none)) else (none)) else (none))) = some r := by first | (rw [hy173]; with_reducible exact H) | (have H2_ := (Option.bind_some _ _).symm.trans H; rw [hy173]; with_reducible exact H2_) | (have H2_ := (Option.bind_some _ _).symm.trans H; with_reducible exact H2_) | with_reducible exact H | (rw [hy173]; exact H) | exact H
    have Ny173 := Aside0.mk hy173
    clear hy173
    replace H := Option.bind_eq_some_iff.mp H
    obtain ⟨t176, A120, H⟩ := H
    replace H : (if t176 = true then (if t149 = 14 then (if t161 = 0 then (some ((t158.length : Int) == 1)) else (none)) else (none)) else (none)) = some r := H
    have A12 := Aside0.mk A120
    clear A120
    by_cases c13 : t176 = true
    ·subst c13
     have H1 : (if t149 = 14 then (if t161 = 0 then (some ((t158.length : Int) == 1)) else (none)) else (none)) = some r := by rw [if_pos rfl] at H; exact H
     clear H
     have H := H1
     clear H1
     by_cases c14 : t149 = 14
     ·rw [if_pos c14] at H
      have c14b0 : (t149 == 14) = true := beq_iff_eq.mpr c14
      have c14b1 : (t149 != 14) = false := bne_eq_false_iff_eq.mpr c14
      clear c14
      by_cases c15 : t161 = 0
      ·rw [if_pos c15] at H
       have c15b0 : (t161 == 0) = true := beq_iff_eq.mpr c15
       have c15b1 : (t161 != 0) = false := bne_eq_false_iff_eq.mpr c15
       clear c15
       obtain rfl := Option.some.inj H
       go_enter Try.func10, Try.ntmps10
       go_wp2_with (first | ((with_reducible refine gate_callee (f := 38) rfl ?_); refine goesL_ (some 10) rfl rfl Try.func38 (by kernel_rfl) rfl #[] rfl aM ?_; (with_reducible refine (scarfjointlaw05_example.calls  t101 t104 _ A1.out).mono ?_); rintro e w16 ⟨v102, v105, rfl, ho0, ho1, hb⟩; refine ⟨_, rfl, ?_⟩; have Q04 := Aside0.mk (Kd.R_lower ho0 (below_size hB)); have Q09 := Aside0.mk (Kd.R_lower ho1 (below_size hB)); replace HB := uH HB hb; (try clear hb); (try clear hb2); (try clear hk); (try clear hi); (try clear ho0); (try clear ho1)) | ((with_reducible refine gate_dst (N := 11) rfl ?_); (try (refine gate_guard (by rfl) ?_; dsimp only)); refine Kd.R_lit (Kd.int .i64) _ 3 ?hg (N := 11) ?hd (xs := ([1] : List Int)) (inner := [.int .i64 1]) (ok := fun _ => True) (okp := fun _ => True) ?hr ?hp (fun _ hk => hk) trivial (Below.refl _ _) (Nat.le_refl _) (by simp) ?_; (case hd => rfl); (case hg => rfl); (case hr => first | (go_simp; done) | (go_simp; rfl)); (case hp => exact (Reps.one (show Kd.M (Kd.int .i64) _ _ _ 1 [.int .i64 1] from rfl) (Reps.none _ _))); intro v108 w17 ho18 hb hg_ hnew_; clear hg_ hnew_; (first | rw [← Ny107.out] at ho18 | (simp only [Int.reduceToNat] at ho18; rw [← Ny107.out] at ho18)); replace Q09 := uR Q09 hb; have Q06 := Aside0.mk (Kd.R_lower (Kd.R_new' ho18 (Kd.R_lt (pR Q04))) (below_size hB)); replace Q04 := eR Q04 (Kd.R_base ho18) hb; replace HB := uH HB hb; clear hb ho18) | ((with_reducible refine gate_dst (N := 12) rfl ?_); (try (refine gate_guard (by rfl) ?_; dsimp only)); refine Kd.R_lit (Kd.int .i64) _ 3 ?hg (N := 12) ?hd (xs := ([0] : List Int)) (inner := [.int .i64 0]) (ok := fun _ => True) (okp := fun _ => True) ?hr ?hp (fun _ hk => hk) trivial (Below.refl _ _) (Nat.le_refl _) (by simp) ?_; (case hd => rfl); (case hg => rfl); (case hr => first | (go_simp; done) | (go_simp; rfl)); (case hp => exact (Reps.one (show Kd.M (Kd.int .i64) _ _ _ 0 [.int .i64 0] from rfl) (Reps.none _ _))); intro v111 w19 ho20 hb hg_ hnew_; clear hg_ hnew_; (first | rw [← Ny110.out] at ho20 | (simp only [Int.reduceToNat] at ho20; rw [← Ny110.out] at ho20)); replace Q09 := uR Q09 hb; have Q08 := Aside0.mk (Kd.R_lower (Kd.R_new' (Kd.R_new' ho20 (Kd.R_lt (pR Q04))) (Kd.R_lt (pR Q06))) (below_size hB)); replace Q04 := eR Q04 (Kd.R_base ho20) hb; replace Q06 := eR Q06 (Kd.R_base ho20) hb; replace HB := uH HB hb; clear hb ho20; obtain ⟨Q1i, Q1j, Q1k⟩ := Kd.R_slice Q04.out; subst Q1k; obtain ⟨Q1l, Q1m, Q1n⟩ := Kd.R_slice Q09.out; subst Q1n; obtain ⟨Q1o, Q1p, Q1q⟩ := Kd.R_slice Q06.out; subst Q1q; obtain ⟨Q1r, Q1s, Q1t⟩ := Kd.R_slice Q08.out; subst Q1t) | ((with_reducible refine gate_callee (f := 12) rfl ?_); refine goesL_ (some 13) rfl rfl Try.func12 (by kernel_rfl) rfl #[.agg #[.slice Q1i t101.length Q1j, .slice Q1l t104.length Q1m], .slice Q1o y107.length Q1p, .slice Q1r y110.length Q1s] rfl aM ?_; (with_reducible refine (graph_Remove.calls k _ _ t101 _ _ t104 _ _ y107 _ _ y110 t113 t116 t119 t122 t125 _ ?side1 ?side2 ?side3 ?side4 ?side5 ?side6 ?side7 ?side8 A2.out).mono ?_); (case side1 => repeat (first | exact (Kd.R_reads' Q04.out).2.2 | (with_reducible refine cA ?_ _) | (with_reducible refine cN ?_ _) | (with_reducible refine cD ?_))); (case side2 => exact (Kd.R_reads' Q04.out).2.1); (case side3 => repeat (first | exact (Kd.R_reads' Q09.out).2.2 | (with_reducible refine cA ?_ _) | (with_reducible refine cN ?_ _) | (with_reducible refine cD ?_))); (case side4 => exact (Kd.R_reads' Q09.out).2.1); (case side5 => repeat (first | exact (Kd.R_reads' Q06.out).2.2 | (with_reducible refine cA ?_ _) | (with_reducible refine cN ?_ _) | (with_reducible refine cD ?_))); (case side6 => exact (Kd.R_reads' Q06.out).2.1); (case side7 => repeat (first | exact (Kd.R_reads' Q08.out).2.2 | (with_reducible refine cA ?_ _) | (with_reducible refine cN ?_ _) | (with_reducible refine cD ?_))); (case side8 => exact (Kd.R_reads' Q08.out).2.1); rintro e w25 ⟨v114, v117, v120, v123, rfl, ho0, ho1, ho2, ho3, hb⟩; refine ⟨_, rfl, ?_⟩; have Q0a := Aside0.mk (Kd.R_lower (Kd.R_new' (Kd.R_new' (Kd.R_new' ho0 (Kd.R_lt (pR Q04))) (Kd.R_lt (pR Q06))) (Kd.R_lt (pR Q08))) (below_size hB)); have Q0f := Aside0.mk (Kd.R_lower (Kd.R_new' ho1 (Kd.R_lt (pR Q09))) (below_size hB)); replace Q09 := eR Q09 (Kd.R_base ho1) hb; have Q0b := Aside0.mk (Kd.R_lower (Kd.R_new' (Kd.R_new' (Kd.R_new' ho2 (Kd.R_lt (pR Q04))) (Kd.R_lt (pR Q06))) (Kd.R_lt (pR Q08))) (below_size hB)); have Q0c := Aside0.mk (Kd.R_lower (Kd.R_new' (Kd.R_new' (Kd.R_new' ho3 (Kd.R_lt (pR Q04))) (Kd.R_lt (pR Q06))) (Kd.R_lt (pR Q08))) (below_size hB)); replace Q04 := Aside0.mk (Kd.R_mono (Kd.R_told (Kd.R_told (Kd.R_told (Kd.R_old (pR Q04) hb) (Kd.R_base ho0)) (Kd.R_base ho2)) (Kd.R_base ho3)) (fun _ h_ => h_.1)); replace Q06 := Aside0.mk (Kd.R_mono (Kd.R_told (Kd.R_told (Kd.R_told (Kd.R_old (pR Q06) hb) (Kd.R_base ho0)) (Kd.R_base ho2)) (Kd.R_base ho3)) (fun _ h_ => h_.1)); replace Q08 := Aside0.mk (Kd.R_mono (Kd.R_told (Kd.R_told (Kd.R_told (Kd.R_old (pR Q08) hb) (Kd.R_base ho0)) (Kd.R_base ho2)) (Kd.R_base ho3)) (fun _ h_ => h_.1)); replace HB := uH HB hb; (try clear hb); (try clear hb2); (try clear hk); (try clear hi); (try clear ho0); (try clear ho1); (try clear ho2); (try clear ho3)) | ((with_reducible refine gate_dst (N := 1) rfl ?_); (try (refine gate_guard (by rfl) ?_; dsimp only)); refine box_event ?hg (N := 1) ?hd (cs := #[.slice none 0 0, .slice none 0 0]) (t := 25) ?hr ?_; (case hd => rfl); (case hg => rfl); (case hr => first | (go_simp; done) | (go_simp; rfl)); intro Q0d hg w26 hbox hb; replace Q04 := uR Q04 hb; replace Q09 := uR Q09 hb; replace Q06 := uR Q06 hb; replace Q08 := uR Q08 hb; replace Q0a := uR Q0a hb; replace Q0f := uR Q0f hb; replace Q0b := uR Q0b hb; replace Q0c := uR Q0c hb; have Q02 := Aside0.mk (hbox); have Q2u := Aside0.mk ((by rw [hg]; exact (below_size hB) : w.heap.size ≤ Q0d)); have Q1u := Aside0.mk ((by rw [hg]; exact (below_size hB) : w.heap.size ≤ Q0d)); replace HB := uH HB hb; clear hb hbox hg) | ((with_reducible refine gate_dst (N := 2) rfl ?_); (try (refine gate_guard (by rfl) ?_; dsimp only)); refine box_event ?hg (N := 2) ?hd (cs := #[.slice none 0 0, .slice none 0 0]) (t := 29) ?hr ?_; (case hd => rfl); (case hg => rfl); (case hr => first | (go_simp; done) | (go_simp; rfl)); intro Q0e hg w27 hbox hb; replace Q04 := uR Q04 hb; replace Q09 := uR Q09 hb; replace Q06 := uR Q06 hb; replace Q08 := uR Q08 hb; replace Q0a := uR Q0a hb; replace Q0f := uR Q0f hb; replace Q0b := uR Q0b hb; replace Q0c := uR Q0c hb; have Q03 := Aside0.mk (hbox); have Q2v := uS HB hg; have Q1v := uS HB hg; replace HB := uH HB hb; have Q19 := uL Q02 hg; have Q1a := uG Q02 hg; replace Q02 := uB Q02 hb; clear hb hbox hg; obtain ⟨Q0x, Q0y, Q1w⟩ := Kd.R_slice Q0a.out; subst Q1w; have Q2w := Q19.out; have Q2x := Q1a.out; have Q2y : w27.cell? ⟨Q0d, 0, none⟩ = some (.slice none 0 0) := (blk_cell Q02.out 0).trans rfl; have Q2z : w27.cell? ⟨Q0d, 1, none⟩ = some (.slice none 0 0) := (blk_cell Q02.out 1).trans rfl; have Q30 := blk_frozen Q02.out 0; have Q31 := blk_frozen Q02.out 1; obtain ⟨Q11, Q12, Q1x⟩ := Kd.R_slice Q0f.out; subst Q1x; obtain ⟨Q0u, Q0v, Q1y⟩ := Kd.R_slice Q0b.out; subst Q1y; have Q32 : w27.cell? ⟨Q0e, 0, none⟩ = some (.slice none 0 0) := (blk_cell Q03.out 0).trans rfl; have Q33 : w27.cell? ⟨Q0e, 1, none⟩ = some (.slice none 0 0) := (blk_cell Q03.out 1).trans rfl; have Q34 := blk_frozen Q03.out 0; have Q35 := blk_frozen Q03.out 1; obtain ⟨Q0z, Q10, Q1z⟩ := Kd.R_slice Q0c.out; subst Q1z) | ((with_reducible refine gate_callee (f := 38) rfl ?_); refine goesL_ (some 18) rfl rfl Try.func38 (by kernel_rfl) rfl #[] rfl aM ?_; (with_reducible refine (scarfjointlaw05_example.calls  t128 t131 _ A3.out).mono ?_); rintro e w35 ⟨v129, v132, rfl, ho0, ho1, hb⟩; refine ⟨_, rfl, ?_⟩; have Q0g := Aside0.mk (Kd.R_lower (Kd.R_new' (Kd.R_new' (Kd.R_new' (Kd.R_new' (Kd.R_new' (Kd.R_new' ho0 (Kd.R_lt (by (with_reducible repeat (first | apply rA | apply rN | apply rD)); exact (Kd.R_mono (Kd.R_mono (Kd.R_far (p := ⟨Q0e, 1, none⟩) (Kd.R_far (p := ⟨Q0e, 0, none⟩) (Kd.R_far (p := ⟨Q0d, 1, none⟩) (Kd.R_far (p := ⟨Q0d, 0, none⟩) (Kd.R_types (Kd.R_types Q04.out Q02.out (by decide)) Q03.out (by decide)) (fun _ hk => hk.1.2) (.slice Q0x t113.length Q0y)) (fun _ hk => hk.1.2) (.slice Q11 t116.length Q12)) (fun _ hk => hk.2) (.slice Q0u t119.length Q0v)) (fun _ hk => hk.2) (.slice Q0z t122.length Q10)) (fun _ h_ => h_.1)) (fun _ h_ => h_.1))))) (Kd.R_lt (by (with_reducible repeat (first | apply rA | apply rN | apply rD)); exact (Kd.R_mono (Kd.R_mono (Kd.R_far (p := ⟨Q0e, 1, none⟩) (Kd.R_far (p := ⟨Q0e, 0, none⟩) (Kd.R_far (p := ⟨Q0d, 1, none⟩) (Kd.R_far (p := ⟨Q0d, 0, none⟩) (Kd.R_types (Kd.R_types Q06.out Q02.out (by decide)) Q03.out (by decide)) (fun _ hk => hk.1.2) (.slice Q0x t113.length Q0y)) (fun _ hk => hk.1.2) (.slice Q11 t116.length Q12)) (fun _ hk => hk.2) (.slice Q0u t119.length Q0v)) (fun _ hk => hk.2) (.slice Q0z t122.length Q10)) (fun _ h_ => h_.1)) (fun _ h_ => h_.1))))) (Kd.R_lt (by (with_reducible repeat (first | apply rA | apply rN | apply rD)); exact (Kd.R_mono (Kd.R_mono (Kd.R_far (p := ⟨Q0e, 1, none⟩) (Kd.R_far (p := ⟨Q0e, 0, none⟩) (Kd.R_far (p := ⟨Q0d, 1, none⟩) (Kd.R_far (p := ⟨Q0d, 0, none⟩) (Kd.R_types (Kd.R_types Q08.out Q02.out (by decide)) Q03.out (by decide)) (fun _ hk => hk.1.2) (.slice Q0x t113.length Q0y)) (fun _ hk => hk.1.2) (.slice Q11 t116.length Q12)) (fun _ hk => hk.2) (.slice Q0u t119.length Q0v)) (fun _ hk => hk.2) (.slice Q0z t122.length Q10)) (fun _ h_ => h_.1)) (fun _ h_ => h_.1))))) (Kd.R_lt (by (with_reducible repeat (first | apply rA | apply rN | apply rD)); exact (Kd.R_mono (Kd.R_mono (Kd.R_far (p := ⟨Q0e, 1, none⟩) (Kd.R_far (p := ⟨Q0e, 0, none⟩) (Kd.R_far (p := ⟨Q0d, 1, none⟩) (Kd.R_far (p := ⟨Q0d, 0, none⟩) (Kd.R_types (Kd.R_types Q0a.out Q02.out (by decide)) Q03.out (by decide)) (fun _ hk => hk.1.2) (.slice Q0x t113.length Q0y)) (fun _ hk => hk.1.2) (.slice Q11 t116.length Q12)) (fun _ hk => hk.2) (.slice Q0u t119.length Q0v)) (fun _ hk => hk.2) (.slice Q0z t122.length Q10)) (fun _ h_ => h_.1)) (fun _ h_ => h_.1))))) (Kd.R_lt (by (with_reducible repeat (first | apply rA | apply rN | apply rD)); exact (Kd.R_mono (Kd.R_mono (Kd.R_far (p := ⟨Q0e, 1, none⟩) (Kd.R_far (p := ⟨Q0e, 0, none⟩) (Kd.R_far (p := ⟨Q0d, 1, none⟩) (Kd.R_far (p := ⟨Q0d, 0, none⟩) (Kd.R_types (Kd.R_types Q0b.out Q02.out (by decide)) Q03.out (by decide)) (fun _ hk => hk.1.2) (.slice Q0x t113.length Q0y)) (fun _ hk => hk.1.2) (.slice Q11 t116.length Q12)) (fun _ hk => hk.2) (.slice Q0u t119.length Q0v)) (fun _ hk => hk.2) (.slice Q0z t122.length Q10)) (fun _ h_ => h_.1)) (fun _ h_ => h_.1))))) (Kd.R_lt (by (with_reducible repeat (first | apply rA | apply rN | apply rD)); exact (Kd.R_mono (Kd.R_mono (Kd.R_far (p := ⟨Q0e, 1, none⟩) (Kd.R_far (p := ⟨Q0e, 0, none⟩) (Kd.R_far (p := ⟨Q0d, 1, none⟩) (Kd.R_far (p := ⟨Q0d, 0, none⟩) (Kd.R_types (Kd.R_types Q0c.out Q02.out (by decide)) Q03.out (by decide)) (fun _ hk => hk.1.2) (.slice Q0x t113.length Q0y)) (fun _ hk => hk.1.2) (.slice Q11 t116.length Q12)) (fun _ hk => hk.2) (.slice Q0u t119.length Q0v)) (fun _ hk => hk.2) (.slice Q0z t122.length Q10)) (fun _ h_ => h_.1)) (fun _ h_ => h_.1))))) (below_size (pH HB))); replace Q04 := Aside0.mk (Kd.R_elder' (by (with_reducible repeat (first | apply rA | apply rN | apply rD)); exact (Kd.R_mono (Kd.R_mono (Kd.R_far (p := ⟨Q0e, 1, none⟩) (Kd.R_far (p := ⟨Q0e, 0, none⟩) (Kd.R_far (p := ⟨Q0d, 1, none⟩) (Kd.R_far (p := ⟨Q0d, 0, none⟩) (Kd.R_types (Kd.R_types Q04.out Q02.out (by decide)) Q03.out (by decide)) (fun _ hk => hk.1.2) (.slice Q0x t113.length Q0y)) (fun _ hk => hk.1.2) (.slice Q11 t116.length Q12)) (fun _ hk => hk.2) (.slice Q0u t119.length Q0v)) (fun _ hk => hk.2) (.slice Q0z t122.length Q10)) (fun _ h_ => h_.1)) (fun _ h_ => h_.1))) (Kd.R_base ho0) hb); replace Q06 := Aside0.mk (Kd.R_elder' (by (with_reducible repeat (first | apply rA | apply rN | apply rD)); exact (Kd.R_mono (Kd.R_mono (Kd.R_far (p := ⟨Q0e, 1, none⟩) (Kd.R_far (p := ⟨Q0e, 0, none⟩) (Kd.R_far (p := ⟨Q0d, 1, none⟩) (Kd.R_far (p := ⟨Q0d, 0, none⟩) (Kd.R_types (Kd.R_types Q06.out Q02.out (by decide)) Q03.out (by decide)) (fun _ hk => hk.1.2) (.slice Q0x t113.length Q0y)) (fun _ hk => hk.1.2) (.slice Q11 t116.length Q12)) (fun _ hk => hk.2) (.slice Q0u t119.length Q0v)) (fun _ hk => hk.2) (.slice Q0z t122.length Q10)) (fun _ h_ => h_.1)) (fun _ h_ => h_.1))) (Kd.R_base ho0) hb); replace Q08 := Aside0.mk (Kd.R_elder' (by (with_reducible repeat (first | apply rA | apply rN | apply rD)); exact (Kd.R_mono (Kd.R_mono (Kd.R_far (p := ⟨Q0e, 1, none⟩) (Kd.R_far (p := ⟨Q0e, 0, none⟩) (Kd.R_far (p := ⟨Q0d, 1, none⟩) (Kd.R_far (p := ⟨Q0d, 0, none⟩) (Kd.R_types (Kd.R_types Q08.out Q02.out (by decide)) Q03.out (by decide)) (fun _ hk => hk.1.2) (.slice Q0x t113.length Q0y)) (fun _ hk => hk.1.2) (.slice Q11 t116.length Q12)) (fun _ hk => hk.2) (.slice Q0u t119.length Q0v)) (fun _ hk => hk.2) (.slice Q0z t122.length Q10)) (fun _ h_ => h_.1)) (fun _ h_ => h_.1))) (Kd.R_base ho0) hb); replace Q0a := Aside0.mk (Kd.R_elder' (by (with_reducible repeat (first | apply rA | apply rN | apply rD)); exact (Kd.R_mono (Kd.R_mono (Kd.R_far (p := ⟨Q0e, 1, none⟩) (Kd.R_far (p := ⟨Q0e, 0, none⟩) (Kd.R_far (p := ⟨Q0d, 1, none⟩) (Kd.R_far (p := ⟨Q0d, 0, none⟩) (Kd.R_types (Kd.R_types Q0a.out Q02.out (by decide)) Q03.out (by decide)) (fun _ hk => hk.1.2) (.slice Q0x t113.length Q0y)) (fun _ hk => hk.1.2) (.slice Q11 t116.length Q12)) (fun _ hk => hk.2) (.slice Q0u t119.length Q0v)) (fun _ hk => hk.2) (.slice Q0z t122.length Q10)) (fun _ h_ => h_.1)) (fun _ h_ => h_.1))) (Kd.R_base ho0) hb); replace Q0b := Aside0.mk (Kd.R_elder' (by (with_reducible repeat (first | apply rA | apply rN | apply rD)); exact (Kd.R_mono (Kd.R_mono (Kd.R_far (p := ⟨Q0e, 1, none⟩) (Kd.R_far (p := ⟨Q0e, 0, none⟩) (Kd.R_far (p := ⟨Q0d, 1, none⟩) (Kd.R_far (p := ⟨Q0d, 0, none⟩) (Kd.R_types (Kd.R_types Q0b.out Q02.out (by decide)) Q03.out (by decide)) (fun _ hk => hk.1.2) (.slice Q0x t113.length Q0y)) (fun _ hk => hk.1.2) (.slice Q11 t116.length Q12)) (fun _ hk => hk.2) (.slice Q0u t119.length Q0v)) (fun _ hk => hk.2) (.slice Q0z t122.length Q10)) (fun _ h_ => h_.1)) (fun _ h_ => h_.1))) (Kd.R_base ho0) hb); replace Q0c := Aside0.mk (Kd.R_elder' (by (with_reducible repeat (first | apply rA | apply rN | apply rD)); exact (Kd.R_mono (Kd.R_mono (Kd.R_far (p := ⟨Q0e, 1, none⟩) (Kd.R_far (p := ⟨Q0e, 0, none⟩) (Kd.R_far (p := ⟨Q0d, 1, none⟩) (Kd.R_far (p := ⟨Q0d, 0, none⟩) (Kd.R_types (Kd.R_types Q0c.out Q02.out (by decide)) Q03.out (by decide)) (fun _ hk => hk.1.2) (.slice Q0x t113.length Q0y)) (fun _ hk => hk.1.2) (.slice Q11 t116.length Q12)) (fun _ hk => hk.2) (.slice Q0u t119.length Q0v)) (fun _ hk => hk.2) (.slice Q0z t122.length Q10)) (fun _ h_ => h_.1)) (fun _ h_ => h_.1))) (Kd.R_base ho0) hb); have Q0q := Aside0.mk (Kd.R_lower (Kd.R_new' (Kd.R_new' ho1 (Kd.R_lt (by (with_reducible repeat (first | apply rA | apply rN | apply rD)); exact (Kd.R_mono (Kd.R_mono (Kd.R_far (p := ⟨Q0e, 1, none⟩) (Kd.R_far (p := ⟨Q0e, 0, none⟩) (Kd.R_far (p := ⟨Q0d, 1, none⟩) (Kd.R_far (p := ⟨Q0d, 0, none⟩) (Kd.R_types (Kd.R_types Q09.out Q02.out (by decide)) Q03.out (by decide)) (fun _ hk => hk.1.2) (.slice Q0x t113.length Q0y)) (fun _ hk => hk.1.2) (.slice Q11 t116.length Q12)) (fun _ hk => hk.2) (.slice Q0u t119.length Q0v)) (fun _ hk => hk.2) (.slice Q0z t122.length Q10)) (fun _ h_ => h_.1)) (fun _ h_ => h_.1))))) (Kd.R_lt (by (with_reducible repeat (first | apply rA | apply rN | apply rD)); exact (Kd.R_mono (Kd.R_mono (Kd.R_far (p := ⟨Q0e, 1, none⟩) (Kd.R_far (p := ⟨Q0e, 0, none⟩) (Kd.R_far (p := ⟨Q0d, 1, none⟩) (Kd.R_far (p := ⟨Q0d, 0, none⟩) (Kd.R_types (Kd.R_types Q0f.out Q02.out (by decide)) Q03.out (by decide)) (fun _ hk => hk.1.2) (.slice Q0x t113.length Q0y)) (fun _ hk => hk.1.2) (.slice Q11 t116.length Q12)) (fun _ hk => hk.2) (.slice Q0u t119.length Q0v)) (fun _ hk => hk.2) (.slice Q0z t122.length Q10)) (fun _ h_ => h_.1)) (fun _ h_ => h_.1))))) (below_size (pH HB))); replace Q09 := Aside0.mk (Kd.R_elder' (by (with_reducible repeat (first | apply rA | apply rN | apply rD)); exact (Kd.R_mono (Kd.R_mono (Kd.R_far (p := ⟨Q0e, 1, none⟩) (Kd.R_far (p := ⟨Q0e, 0, none⟩) (Kd.R_far (p := ⟨Q0d, 1, none⟩) (Kd.R_far (p := ⟨Q0d, 0, none⟩) (Kd.R_types (Kd.R_types Q09.out Q02.out (by decide)) Q03.out (by decide)) (fun _ hk => hk.1.2) (.slice Q0x t113.length Q0y)) (fun _ hk => hk.1.2) (.slice Q11 t116.length Q12)) (fun _ hk => hk.2) (.slice Q0u t119.length Q0v)) (fun _ hk => hk.2) (.slice Q0z t122.length Q10)) (fun _ h_ => h_.1)) (fun _ h_ => h_.1))) (Kd.R_base ho1) hb); replace Q0f := Aside0.mk (Kd.R_elder' (by (with_reducible repeat (first | apply rA | apply rN | apply rD)); exact (Kd.R_mono (Kd.R_mono (Kd.R_far (p := ⟨Q0e, 1, none⟩) (Kd.R_far (p := ⟨Q0e, 0, none⟩) (Kd.R_far (p := ⟨Q0d, 1, none⟩) (Kd.R_far (p := ⟨Q0d, 0, none⟩) (Kd.R_types (Kd.R_types Q0f.out Q02.out (by decide)) Q03.out (by decide)) (fun _ hk => hk.1.2) (.slice Q0x t113.length Q0y)) (fun _ hk => hk.1.2) (.slice Q11 t116.length Q12)) (fun _ hk => hk.2) (.slice Q0u t119.length Q0v)) (fun _ hk => hk.2) (.slice Q0z t122.length Q10)) (fun _ h_ => h_.1)) (fun _ h_ => h_.1))) (Kd.R_base ho1) hb); replace Q02 := Aside0.mk (bB (g := Q0d) (o := .cells #[.slice Q0x t113.length Q0y, .slice Q11 t116.length Q12] 25 (0, 0)) (by (with_reducible repeat (first | refine bN ?_ _ | refine bD ?_ | refine bA ?_ _)); refine blk_far ?_ Q19.out _; (with_reducible repeat (first | refine bN ?_ _ | refine bD ?_ | refine bA ?_ _)); refine blk_far ?_ Q19.out _; (with_reducible repeat (first | refine bN ?_ _ | refine bD ?_ | refine bA ?_ _)); refine blk_put (cs := #[.slice Q0x t113.length Q0y, .slice none 0 0]) ?_ 1 _ rfl; (with_reducible repeat (first | refine bN ?_ _ | refine bD ?_ | refine bA ?_ _)); refine blk_put (cs := #[.slice none 0 0, .slice none 0 0]) ?_ 0 _ rfl; (with_reducible repeat (first | refine bN ?_ _ | refine bD ?_ | refine bA ?_ _)); exact Q02.out) hb); replace Q03 := Aside0.mk (bB (g := Q0e) (o := .cells #[.slice Q0u t119.length Q0v, .slice Q0z t122.length Q10] 29 (0, 0)) (by (with_reducible repeat (first | refine bN ?_ _ | refine bD ?_ | refine bA ?_ _)); refine blk_put (cs := #[.slice Q0u t119.length Q0v, .slice none 0 0]) ?_ 1 _ rfl; (with_reducible repeat (first | refine bN ?_ _ | refine bD ?_ | refine bA ?_ _)); refine blk_put (cs := #[.slice none 0 0, .slice none 0 0]) ?_ 0 _ rfl; (with_reducible repeat (first | refine bN ?_ _ | refine bD ?_ | refine bA ?_ _)); refine blk_far ?_ Q1a.out _; (with_reducible repeat (first | refine bN ?_ _ | refine bD ?_ | refine bA ?_ _)); refine blk_far ?_ Q1a.out _; (with_reducible repeat (first | refine bN ?_ _ | refine bD ?_ | refine bA ?_ _)); exact Q03.out) hb); replace HB := uH HB hb; (try clear hb); (try clear hb2); (try clear hk); (try clear hi); (try clear ho0); (try clear ho1)) | ((with_reducible refine gate_dst (N := 19) rfl ?_); (try (refine gate_guard (by rfl) ?_; dsimp only)); refine Kd.R_lit (Kd.int .i64) _ 3 ?hg (N := 19) ?hd (xs := ([1] : List Int)) (inner := [.int .i64 1]) (ok := fun _ => True) (okp := fun _ => True) ?hr ?hp (fun _ hk => hk) trivial (Below.refl _ _) (Nat.le_refl _) (by simp) ?_; (case hd => rfl); (case hg => rfl); (case hr => first | (go_simp; done) | (go_simp; rfl)); (case hp => exact (Reps.one (show Kd.M (Kd.int .i64) _ _ _ 1 [.int .i64 1] from rfl) (Reps.none _ _))); intro v135 w36 ho37 hb hg_ hnew_; clear hg_ hnew_; (first | rw [← Ny134.out] at ho37 | (simp only [Int.reduceToNat] at ho37; rw [← Ny134.out] at ho37)); replace Q09 := uR Q09 hb; replace Q0f := uR Q0f hb; replace Q0q := uR Q0q hb; have Q0l := Aside0.mk (Kd.R_lower (Kd.R_new' (Kd.R_new' (Kd.R_new' (Kd.R_new' (Kd.R_new' (Kd.R_new' (Kd.R_new' ho37 (Kd.R_lt (pR Q04))) (Kd.R_lt (pR Q06))) (Kd.R_lt (pR Q08))) (Kd.R_lt (pR Q0a))) (Kd.R_lt (pR Q0b))) (Kd.R_lt (pR Q0c))) (Kd.R_lt (pR Q0g))) (below_size (pH HB))); replace Q04 := eR Q04 (Kd.R_base ho37) hb; replace Q06 := eR Q06 (Kd.R_base ho37) hb; replace Q08 := eR Q08 (Kd.R_base ho37) hb; replace Q0a := eR Q0a (Kd.R_base ho37) hb; replace Q0b := eR Q0b (Kd.R_base ho37) hb; replace Q0c := eR Q0c (Kd.R_base ho37) hb; replace Q0g := eR Q0g (Kd.R_base ho37) hb; replace Q02 := uB Q02 hb; replace Q03 := uB Q03 hb; replace HB := uH HB hb; clear hb ho37; obtain ⟨Q20, Q21, Q22⟩ := Kd.R_slice Q0g.out; subst Q22; obtain ⟨Q23, Q24, Q25⟩ := Kd.R_slice Q0q.out; subst Q25; obtain ⟨Q26, Q27, Q28⟩ := Kd.R_slice Q0l.out; subst Q28) | ((with_reducible refine gate_callee (f := 12) rfl ?_); refine goesL_ (some 20) rfl rfl Try.func12 (by kernel_rfl) rfl #[.agg #[.slice Q20 t128.length Q21, .slice Q23 t131.length Q24], .slice Q26 y134.length Q27, .slice none 0 0] rfl aM ?_; (refine (graph_Remove.calls k _ _ t128 _ _ t131 _ _ y134 _ _ ([] : List Int) t137 t140 t143 t146 t149 _ ?side1 ?side2 ?side3 ?side4 ?side5 ?side6 ?side7 ?side8 A4.out).mono ?_); (case side1 => repeat (first | exact (Kd.R_reads' Q0g.out).2.2 | (with_reducible refine cA ?_ _) | (with_reducible refine cN ?_ _) | (with_reducible refine cD ?_))); (case side2 => exact (Kd.R_reads' Q0g.out).2.1); (case side3 => repeat (first | exact (Kd.R_reads' Q0q.out).2.2 | (with_reducible refine cA ?_ _) | (with_reducible refine cN ?_ _) | (with_reducible refine cD ?_))); (case side4 => exact (Kd.R_reads' Q0q.out).2.1); (case side5 => repeat (first | exact (Kd.R_reads' Q0l.out).2.2 | (with_reducible refine cA ?_ _) | (with_reducible refine cN ?_ _) | (with_reducible refine cD ?_))); (case side6 => exact (Kd.R_reads' Q0l.out).2.1); (case side7 => exact Kd.C_nil _ _); (case side8 => exact Nat.le_refl _); rintro e w41 ⟨v138, v141, v144, v147, rfl, ho0, ho1, ho2, ho3, hb⟩; refine ⟨_, rfl, ?_⟩; have Q0r := Aside0.mk (Kd.R_lower (Kd.R_new' (Kd.R_new' (Kd.R_new' (Kd.R_new' (Kd.R_new' (Kd.R_new' (Kd.R_new' (Kd.R_new' ho0 (Kd.R_lt (pR Q04))) (Kd.R_lt (pR Q06))) (Kd.R_lt (pR Q08))) (Kd.R_lt (pR Q0a))) (Kd.R_lt (pR Q0b))) (Kd.R_lt (pR Q0c))) (Kd.R_lt (pR Q0g))) (Kd.R_lt (pR Q0l))) (below_size (pH HB))); have Q0w := Aside0.mk (Kd.R_lower (Kd.R_new' (Kd.R_new' (Kd.R_new' ho1 (Kd.R_lt (pR Q09))) (Kd.R_lt (pR Q0f))) (Kd.R_lt (pR Q0q))) (below_size (pH HB))); replace Q09 := eR Q09 (Kd.R_base ho1) hb; replace Q0f := eR Q0f (Kd.R_base ho1) hb; replace Q0q := eR Q0q (Kd.R_base ho1) hb; have Q0s := Aside0.mk (Kd.R_lower (Kd.R_new' (Kd.R_new' (Kd.R_new' (Kd.R_new' (Kd.R_new' (Kd.R_new' (Kd.R_new' (Kd.R_new' ho2 (Kd.R_lt (pR Q04))) (Kd.R_lt (pR Q06))) (Kd.R_lt (pR Q08))) (Kd.R_lt (pR Q0a))) (Kd.R_lt (pR Q0b))) (Kd.R_lt (pR Q0c))) (Kd.R_lt (pR Q0g))) (Kd.R_lt (pR Q0l))) (below_size (pH HB))); have Q0t := Aside0.mk (Kd.R_lower (Kd.R_new' (Kd.R_new' (Kd.R_new' (Kd.R_new' (Kd.R_new' (Kd.R_new' (Kd.R_new' (Kd.R_new' ho3 (Kd.R_lt (pR Q04))) (Kd.R_lt (pR Q06))) (Kd.R_lt (pR Q08))) (Kd.R_lt (pR Q0a))) (Kd.R_lt (pR Q0b))) (Kd.R_lt (pR Q0c))) (Kd.R_lt (pR Q0g))) (Kd.R_lt (pR Q0l))) (below_size (pH HB))); replace Q04 := Aside0.mk (Kd.R_mono (Kd.R_told (Kd.R_told (Kd.R_told (Kd.R_old (pR Q04) hb) (Kd.R_base ho0)) (Kd.R_base ho2)) (Kd.R_base ho3)) (fun _ h_ => h_.1)); replace Q06 := Aside0.mk (Kd.R_mono (Kd.R_told (Kd.R_told (Kd.R_told (Kd.R_old (pR Q06) hb) (Kd.R_base ho0)) (Kd.R_base ho2)) (Kd.R_base ho3)) (fun _ h_ => h_.1)); replace Q08 := Aside0.mk (Kd.R_mono (Kd.R_told (Kd.R_told (Kd.R_told (Kd.R_old (pR Q08) hb) (Kd.R_base ho0)) (Kd.R_base ho2)) (Kd.R_base ho3)) (fun _ h_ => h_.1)); replace Q0a := Aside0.mk (Kd.R_mono (Kd.R_told (Kd.R_told (Kd.R_told (Kd.R_old (pR Q0a) hb) (Kd.R_base ho0)) (Kd.R_base ho2)) (Kd.R_base ho3)) (fun _ h_ => h_.1)); replace Q0b := Aside0.mk (Kd.R_mono (Kd.R_told (Kd.R_told (Kd.R_told (Kd.R_old (pR Q0b) hb) (Kd.R_base ho0)) (Kd.R_base ho2)) (Kd.R_base ho3)) (fun _ h_ => h_.1)); replace Q0c := Aside0.mk (Kd.R_mono (Kd.R_told (Kd.R_told (Kd.R_told (Kd.R_old (pR Q0c) hb) (Kd.R_base ho0)) (Kd.R_base ho2)) (Kd.R_base ho3)) (fun _ h_ => h_.1)); replace Q0g := Aside0.mk (Kd.R_mono (Kd.R_told (Kd.R_told (Kd.R_told (Kd.R_old (pR Q0g) hb) (Kd.R_base ho0)) (Kd.R_base ho2)) (Kd.R_base ho3)) (fun _ h_ => h_.1)); replace Q0l := Aside0.mk (Kd.R_mono (Kd.R_told (Kd.R_told (Kd.R_told (Kd.R_old (pR Q0l) hb) (Kd.R_base ho0)) (Kd.R_base ho2)) (Kd.R_base ho3)) (fun _ h_ => h_.1)); replace Q02 := uB Q02 hb; replace Q03 := uB Q03 hb; replace HB := uH HB hb; (try clear hb); (try clear hb2); (try clear hk); (try clear hi); (try clear ho0); (try clear ho1); (try clear ho2); (try clear ho3)) | ((with_reducible refine gate_dst (N := 4) rfl ?_); (try (refine gate_guard (by rfl) ?_; dsimp only)); refine box_event ?hg (N := 4) ?hd (cs := #[.slice none 0 0, .slice none 0 0]) (t := 25) ?hr ?_; (case hd => rfl); (case hg => rfl); (case hr => first | (go_simp; done) | (go_simp; rfl)); intro Q00 hg w42 hbox hb; replace Q04 := uR Q04 hb; replace Q09 := uR Q09 hb; replace Q06 := uR Q06 hb; replace Q08 := uR Q08 hb; replace Q0a := uR Q0a hb; replace Q0f := uR Q0f hb; replace Q0b := uR Q0b hb; replace Q0c := uR Q0c hb; replace Q0g := uR Q0g hb; replace Q0q := uR Q0q hb; replace Q0l := uR Q0l hb; replace Q0r := uR Q0r hb; replace Q0w := uR Q0w hb; replace Q0s := uR Q0s hb; replace Q0t := uR Q0t hb; have Q05 := Aside0.mk (hbox); have Q36 := uS HB hg; have Q29 := uS HB hg; replace HB := uH HB hb; have Q1b := uL Q02 hg; have Q2a := uG Q02 hg; replace Q02 := uB Q02 hb; have Q1c := uL Q03 hg; have Q2b := uG Q03 hg; replace Q03 := uB Q03 hb; clear hb hbox hg) | ((with_reducible refine gate_dst (N := 5) rfl ?_); (try (refine gate_guard (by rfl) ?_; dsimp only)); refine box_event ?hg (N := 5) ?hd (cs := #[.slice none 0 0, .slice none 0 0]) (t := 29) ?hr ?_; (case hd => rfl); (case hg => rfl); (case hr => first | (go_simp; done) | (go_simp; rfl)); intro Q01 hg w43 hbox hb; replace Q04 := uR Q04 hb; replace Q09 := uR Q09 hb; replace Q06 := uR Q06 hb; replace Q08 := uR Q08 hb; replace Q0a := uR Q0a hb; replace Q0f := uR Q0f hb; replace Q0b := uR Q0b hb; replace Q0c := uR Q0c hb; replace Q0g := uR Q0g hb; replace Q0q := uR Q0q hb; replace Q0l := uR Q0l hb; replace Q0r := uR Q0r hb; replace Q0w := uR Q0w hb; replace Q0s := uR Q0s hb; replace Q0t := uR Q0t hb; have Q07 := Aside0.mk (hbox); have Q37 := uS HB hg; have Q2c := uS HB hg; replace HB := uH HB hb; have Q1d := uL Q02 hg; have Q2d := uG Q02 hg; replace Q02 := uB Q02 hb; have Q1e := uL Q03 hg; have Q2e := uG Q03 hg; replace Q03 := uB Q03 hb; have Q1f := uL Q05 hg; have Q1g := uG Q05 hg; replace Q05 := uB Q05 hb; clear hb hbox hg; obtain ⟨Q0h, Q0i, Q2f⟩ := Kd.R_slice Q0r.out; subst Q2f; have Q38 := Q2a.out; have Q39 := Q1b.out; have Q3a := Q2b.out; have Q3b := Q1c.out; have Q3c := Q1f.out; have Q3d := Q1g.out; have Q3e : w43.cell? ⟨Q00, 0, none⟩ = some (.slice none 0 0) := (blk_cell Q05.out 0).trans rfl; have Q3f : w43.cell? ⟨Q00, 1, none⟩ = some (.slice none 0 0) := (blk_cell Q05.out 1).trans rfl; have Q3g := blk_frozen Q05.out 0; have Q3h := blk_frozen Q05.out 1; obtain ⟨Q0m, Q0n, Q2g⟩ := Kd.R_slice Q0w.out; subst Q2g; obtain ⟨Q0j, Q0k, Q2h⟩ := Kd.R_slice Q0s.out; subst Q2h; have Q3i := Q2d.out; have Q3j := Q1d.out; have Q3k := Q2e.out; have Q3l := Q1e.out; have Q3m : w43.cell? ⟨Q01, 0, none⟩ = some (.slice none 0 0) := (blk_cell Q07.out 0).trans rfl; have Q3n : w43.cell? ⟨Q01, 1, none⟩ = some (.slice none 0 0) := (blk_cell Q07.out 1).trans rfl; have Q3o := blk_frozen Q07.out 0; have Q3p := blk_frozen Q07.out 1; obtain ⟨Q0o, Q0p, Q2i⟩ := Kd.R_slice Q0t.out; subst Q2i) | ((with_reducible refine gate_callee (f := 38) rfl ?_); refine goesL_ (some 25) rfl rfl Try.func38 (by kernel_rfl) rfl #[] rfl aM ?_; (with_reducible refine (scarfjointlaw05_example.calls  t152 t155 _ A5.out).mono ?_); rintro e w55 ⟨v153, v156, rfl, ho0, ho1, hb⟩; refine ⟨_, rfl, ?_⟩; have Q13 := Aside0.mk (Kd.R_lower (Kd.R_new' (Kd.R_new' (Kd.R_new' (Kd.R_new' (Kd.R_new' (Kd.R_new' (Kd.R_new' (Kd.R_new' (Kd.R_new' (Kd.R_new' (Kd.R_new' ho0 (Kd.R_lt (by (with_reducible repeat (first | apply rA | apply rN | apply rD)); exact (Kd.R_mono (Kd.R_mono (Kd.R_far (p := ⟨Q01, 1, none⟩) (Kd.R_far (p := ⟨Q01, 0, none⟩) (Kd.R_far (p := ⟨Q00, 1, none⟩) (Kd.R_far (p := ⟨Q00, 0, none⟩) (Kd.R_types (Kd.R_types Q04.out Q05.out (by decide)) Q07.out (by decide)) (fun _ hk => hk.1.2) (.slice Q0h t137.length Q0i)) (fun _ hk => hk.1.2) (.slice Q0m t140.length Q0n)) (fun _ hk => hk.2) (.slice Q0j t143.length Q0k)) (fun _ hk => hk.2) (.slice Q0o t146.length Q0p)) (fun _ h_ => h_.1)) (fun _ h_ => h_.1))))) (Kd.R_lt (by (with_reducible repeat (first | apply rA | apply rN | apply rD)); exact (Kd.R_mono (Kd.R_mono (Kd.R_far (p := ⟨Q01, 1, none⟩) (Kd.R_far (p := ⟨Q01, 0, none⟩) (Kd.R_far (p := ⟨Q00, 1, none⟩) (Kd.R_far (p := ⟨Q00, 0, none⟩) (Kd.R_types (Kd.R_types Q06.out Q05.out (by decide)) Q07.out (by decide)) (fun _ hk => hk.1.2) (.slice Q0h t137.length Q0i)) (fun _ hk => hk.1.2) (.slice Q0m t140.length Q0n)) (fun _ hk => hk.2) (.slice Q0j t143.length Q0k)) (fun _ hk => hk.2) (.slice Q0o t146.length Q0p)) (fun _ h_ => h_.1)) (fun _ h_ => h_.1))))) (Kd.R_lt (by (with_reducible repeat (first | apply rA | apply rN | apply rD)); exact (Kd.R_mono (Kd.R_mono (Kd.R_far (p := ⟨Q01, 1, none⟩) (Kd.R_far (p := ⟨Q01, 0, none⟩) (Kd.R_far (p := ⟨Q00, 1, none⟩) (Kd.R_far (p := ⟨Q00, 0, none⟩) (Kd.R_types (Kd.R_types Q08.out Q05.out (by decide)) Q07.out (by decide)) (fun _ hk => hk.1.2) (.slice Q0h t137.length Q0i)) (fun _ hk => hk.1.2) (.slice Q0m t140.length Q0n)) (fun _ hk => hk.2) (.slice Q0j t143.length Q0k)) (fun _ hk => hk.2) (.slice Q0o t146.length Q0p)) (fun _ h_ => h_.1)) (fun _ h_ => h_.1))))) (Kd.R_lt (by (with_reducible repeat (first | apply rA | apply rN | apply rD)); exact (Kd.R_mono (Kd.R_mono (Kd.R_far (p := ⟨Q01, 1, none⟩) (Kd.R_far (p := ⟨Q01, 0, none⟩) (Kd.R_far (p := ⟨Q00, 1, none⟩) (Kd.R_far (p := ⟨Q00, 0, none⟩) (Kd.R_types (Kd.R_types Q0a.out Q05.out (by decide)) Q07.out (by decide)) (fun _ hk => hk.1.2) (.slice Q0h t137.length Q0i)) (fun _ hk => hk.1.2) (.slice Q0m t140.length Q0n)) (fun _ hk => hk.2) (.slice Q0j t143.length Q0k)) (fun _ hk => hk.2) (.slice Q0o t146.length Q0p)) (fun _ h_ => h_.1)) (fun _ h_ => h_.1))))) (Kd.R_lt (by (with_reducible repeat (first | apply rA | apply rN | apply rD)); exact (Kd.R_mono (Kd.R_mono (Kd.R_far (p := ⟨Q01, 1, none⟩) (Kd.R_far (p := ⟨Q01, 0, none⟩) (Kd.R_far (p := ⟨Q00, 1, none⟩) (Kd.R_far (p := ⟨Q00, 0, none⟩) (Kd.R_types (Kd.R_types Q0b.out Q05.out (by decide)) Q07.out (by decide)) (fun _ hk => hk.1.2) (.slice Q0h t137.length Q0i)) (fun _ hk => hk.1.2) (.slice Q0m t140.length Q0n)) (fun _ hk => hk.2) (.slice Q0j t143.length Q0k)) (fun _ hk => hk.2) (.slice Q0o t146.length Q0p)) (fun _ h_ => h_.1)) (fun _ h_ => h_.1))))) (Kd.R_lt (by (with_reducible repeat (first | apply rA | apply rN | apply rD)); exact (Kd.R_mono (Kd.R_mono (Kd.R_far (p := ⟨Q01, 1, none⟩) (Kd.R_far (p := ⟨Q01, 0, none⟩) (Kd.R_far (p := ⟨Q00, 1, none⟩) (Kd.R_far (p := ⟨Q00, 0, none⟩) (Kd.R_types (Kd.R_types Q0c.out Q05.out (by decide)) Q07.out (by decide)) (fun _ hk => hk.1.2) (.slice Q0h t137.length Q0i)) (fun _ hk => hk.1.2) (.slice Q0m t140.length Q0n)) (fun _ hk => hk.2) (.slice Q0j t143.length Q0k)) (fun _ hk => hk.2) (.slice Q0o t146.length Q0p)) (fun _ h_ => h_.1)) (fun _ h_ => h_.1))))) (Kd.R_lt (by (with_reducible repeat (first | apply rA | apply rN | apply rD)); exact (Kd.R_mono (Kd.R_mono (Kd.R_far (p := ⟨Q01, 1, none⟩) (Kd.R_far (p := ⟨Q01, 0, none⟩) (Kd.R_far (p := ⟨Q00, 1, none⟩) (Kd.R_far (p := ⟨Q00, 0, none⟩) (Kd.R_types (Kd.R_types Q0g.out Q05.out (by decide)) Q07.out (by decide)) (fun _ hk => hk.1.2) (.slice Q0h t137.length Q0i)) (fun _ hk => hk.1.2) (.slice Q0m t140.length Q0n)) (fun _ hk => hk.2) (.slice Q0j t143.length Q0k)) (fun _ hk => hk.2) (.slice Q0o t146.length Q0p)) (fun _ h_ => h_.1)) (fun _ h_ => h_.1))))) (Kd.R_lt (by (with_reducible repeat (first | apply rA | apply rN | apply rD)); exact (Kd.R_mono (Kd.R_mono (Kd.R_far (p := ⟨Q01, 1, none⟩) (Kd.R_far (p := ⟨Q01, 0, none⟩) (Kd.R_far (p := ⟨Q00, 1, none⟩) (Kd.R_far (p := ⟨Q00, 0, none⟩) (Kd.R_types (Kd.R_types Q0l.out Q05.out (by decide)) Q07.out (by decide)) (fun _ hk => hk.1.2) (.slice Q0h t137.length Q0i)) (fun _ hk => hk.1.2) (.slice Q0m t140.length Q0n)) (fun _ hk => hk.2) (.slice Q0j t143.length Q0k)) (fun _ hk => hk.2) (.slice Q0o t146.length Q0p)) (fun _ h_ => h_.1)) (fun _ h_ => h_.1))))) (Kd.R_lt (by (with_reducible repeat (first | apply rA | apply rN | apply rD)); exact (Kd.R_mono (Kd.R_mono (Kd.R_far (p := ⟨Q01, 1, none⟩) (Kd.R_far (p := ⟨Q01, 0, none⟩) (Kd.R_far (p := ⟨Q00, 1, none⟩) (Kd.R_far (p := ⟨Q00, 0, none⟩) (Kd.R_types (Kd.R_types Q0r.out Q05.out (by decide)) Q07.out (by decide)) (fun _ hk => hk.1.2) (.slice Q0h t137.length Q0i)) (fun _ hk => hk.1.2) (.slice Q0m t140.length Q0n)) (fun _ hk => hk.2) (.slice Q0j t143.length Q0k)) (fun _ hk => hk.2) (.slice Q0o t146.length Q0p)) (fun _ h_ => h_.1)) (fun _ h_ => h_.1))))) (Kd.R_lt (by (with_reducible repeat (first | apply rA | apply rN | apply rD)); exact (Kd.R_mono (Kd.R_mono (Kd.R_far (p := ⟨Q01, 1, none⟩) (Kd.R_far (p := ⟨Q01, 0, none⟩) (Kd.R_far (p := ⟨Q00, 1, none⟩) (Kd.R_far (p := ⟨Q00, 0, none⟩) (Kd.R_types (Kd.R_types Q0s.out Q05.out (by decide)) Q07.out (by decide)) (fun _ hk => hk.1.2) (.slice Q0h t137.length Q0i)) (fun _ hk => hk.1.2) (.slice Q0m t140.length Q0n)) (fun _ hk => hk.2) (.slice Q0j t143.length Q0k)) (fun _ hk => hk.2) (.slice Q0o t146.length Q0p)) (fun _ h_ => h_.1)) (fun _ h_ => h_.1))))) (Kd.R_lt (by (with_reducible repeat (first | apply rA | apply rN | apply rD)); exact (Kd.R_mono (Kd.R_mono (Kd.R_far (p := ⟨Q01, 1, none⟩) (Kd.R_far (p := ⟨Q01, 0, none⟩) (Kd.R_far (p := ⟨Q00, 1, none⟩) (Kd.R_far (p := ⟨Q00, 0, none⟩) (Kd.R_types (Kd.R_types Q0t.out Q05.out (by decide)) Q07.out (by decide)) (fun _ hk => hk.1.2) (.slice Q0h t137.length Q0i)) (fun _ hk => hk.1.2) (.slice Q0m t140.length Q0n)) (fun _ hk => hk.2) (.slice Q0j t143.length Q0k)) (fun _ hk => hk.2) (.slice Q0o t146.length Q0p)) (fun _ h_ => h_.1)) (fun _ h_ => h_.1))))) (below_size (pH HB))); replace Q04 := Aside0.mk (Kd.R_elder' (by (with_reducible repeat (first | apply rA | apply rN | apply rD)); exact (Kd.R_mono (Kd.R_mono (Kd.R_far (p := ⟨Q01, 1, none⟩) (Kd.R_far (p := ⟨Q01, 0, none⟩) (Kd.R_far (p := ⟨Q00, 1, none⟩) (Kd.R_far (p := ⟨Q00, 0, none⟩) (Kd.R_types (Kd.R_types Q04.out Q05.out (by decide)) Q07.out (by decide)) (fun _ hk => hk.1.2) (.slice Q0h t137.length Q0i)) (fun _ hk => hk.1.2) (.slice Q0m t140.length Q0n)) (fun _ hk => hk.2) (.slice Q0j t143.length Q0k)) (fun _ hk => hk.2) (.slice Q0o t146.length Q0p)) (fun _ h_ => h_.1)) (fun _ h_ => h_.1))) (Kd.R_base ho0) hb); replace Q06 := Aside0.mk (Kd.R_elder' (by (with_reducible repeat (first | apply rA | apply rN | apply rD)); exact (Kd.R_mono (Kd.R_mono (Kd.R_far (p := ⟨Q01, 1, none⟩) (Kd.R_far (p := ⟨Q01, 0, none⟩) (Kd.R_far (p := ⟨Q00, 1, none⟩) (Kd.R_far (p := ⟨Q00, 0, none⟩) (Kd.R_types (Kd.R_types Q06.out Q05.out (by decide)) Q07.out (by decide)) (fun _ hk => hk.1.2) (.slice Q0h t137.length Q0i)) (fun _ hk => hk.1.2) (.slice Q0m t140.length Q0n)) (fun _ hk => hk.2) (.slice Q0j t143.length Q0k)) (fun _ hk => hk.2) (.slice Q0o t146.length Q0p)) (fun _ h_ => h_.1)) (fun _ h_ => h_.1))) (Kd.R_base ho0) hb); replace Q08 := Aside0.mk (Kd.R_elder' (by (with_reducible repeat (first | apply rA | apply rN | apply rD)); exact (Kd.R_mono (Kd.R_mono (Kd.R_far (p := ⟨Q01, 1, none⟩) (Kd.R_far (p := ⟨Q01, 0, none⟩) (Kd.R_far (p := ⟨Q00, 1, none⟩) (Kd.R_far (p := ⟨Q00, 0, none⟩) (Kd.R_types (Kd.R_types Q08.out Q05.out (by decide)) Q07.out (by decide)) (fun _ hk => hk.1.2) (.slice Q0h t137.length Q0i)) (fun _ hk => hk.1.2) (.slice Q0m t140.length Q0n)) (fun _ hk => hk.2) (.slice Q0j t143.length Q0k)) (fun _ hk => hk.2) (.slice Q0o t146.length Q0p)) (fun _ h_ => h_.1)) (fun _ h_ => h_.1))) (Kd.R_base ho0) hb); replace Q0a := Aside0.mk (Kd.R_elder' (by (with_reducible repeat (first | apply rA | apply rN | apply rD)); exact (Kd.R_mono (Kd.R_mono (Kd.R_far (p := ⟨Q01, 1, none⟩) (Kd.R_far (p := ⟨Q01, 0, none⟩) (Kd.R_far (p := ⟨Q00, 1, none⟩) (Kd.R_far (p := ⟨Q00, 0, none⟩) (Kd.R_types (Kd.R_types Q0a.out Q05.out (by decide)) Q07.out (by decide)) (fun _ hk => hk.1.2) (.slice Q0h t137.length Q0i)) (fun _ hk => hk.1.2) (.slice Q0m t140.length Q0n)) (fun _ hk => hk.2) (.slice Q0j t143.length Q0k)) (fun _ hk => hk.2) (.slice Q0o t146.length Q0p)) (fun _ h_ => h_.1)) (fun _ h_ => h_.1))) (Kd.R_base ho0) hb); replace Q0b := Aside0.mk (Kd.R_elder' (by (with_reducible repeat (first | apply rA | apply rN | apply rD)); exact (Kd.R_mono (Kd.R_mono (Kd.R_far (p := ⟨Q01, 1, none⟩) (Kd.R_far (p := ⟨Q01, 0, none⟩) (Kd.R_far (p := ⟨Q00, 1, none⟩) (Kd.R_far (p := ⟨Q00, 0, none⟩) (Kd.R_types (Kd.R_types Q0b.out Q05.out (by decide)) Q07.out (by decide)) (fun _ hk => hk.1.2) (.slice Q0h t137.length Q0i)) (fun _ hk => hk.1.2) (.slice Q0m t140.length Q0n)) (fun _ hk => hk.2) (.slice Q0j t143.length Q0k)) (fun _ hk => hk.2) (.slice Q0o t146.length Q0p)) (fun _ h_ => h_.1)) (fun _ h_ => h_.1))) (Kd.R_base ho0) hb); replace Q0c := Aside0.mk (Kd.R_elder' (by (with_reducible repeat (first | apply rA | apply rN | apply rD)); exact (Kd.R_mono (Kd.R_mono (Kd.R_far (p := ⟨Q01, 1, none⟩) (Kd.R_far (p := ⟨Q01, 0, none⟩) (Kd.R_far (p := ⟨Q00, 1, none⟩) (Kd.R_far (p := ⟨Q00, 0, none⟩) (Kd.R_types (Kd.R_types Q0c.out Q05.out (by decide)) Q07.out (by decide)) (fun _ hk => hk.1.2) (.slice Q0h t137.length Q0i)) (fun _ hk => hk.1.2) (.slice Q0m t140.length Q0n)) (fun _ hk => hk.2) (.slice Q0j t143.length Q0k)) (fun _ hk => hk.2) (.slice Q0o t146.length Q0p)) (fun _ h_ => h_.1)) (fun _ h_ => h_.1))) (Kd.R_base ho0) hb); replace Q0g := Aside0.mk (Kd.R_elder' (by (with_reducible repeat (first | apply rA | apply rN | apply rD)); exact (Kd.R_mono (Kd.R_mono (Kd.R_far (p := ⟨Q01, 1, none⟩) (Kd.R_far (p := ⟨Q01, 0, none⟩) (Kd.R_far (p := ⟨Q00, 1, none⟩) (Kd.R_far (p := ⟨Q00, 0, none⟩) (Kd.R_types (Kd.R_types Q0g.out Q05.out (by decide)) Q07.out (by decide)) (fun _ hk => hk.1.2) (.slice Q0h t137.length Q0i)) (fun _ hk => hk.1.2) (.slice Q0m t140.length Q0n)) (fun _ hk => hk.2) (.slice Q0j t143.length Q0k)) (fun _ hk => hk.2) (.slice Q0o t146.length Q0p)) (fun _ h_ => h_.1)) (fun _ h_ => h_.1))) (Kd.R_base ho0) hb); replace Q0l := Aside0.mk (Kd.R_elder' (by (with_reducible repeat (first | apply rA | apply rN | apply rD)); exact (Kd.R_mono (Kd.R_mono (Kd.R_far (p := ⟨Q01, 1, none⟩) (Kd.R_far (p := ⟨Q01, 0, none⟩) (Kd.R_far (p := ⟨Q00, 1, none⟩) (Kd.R_far (p := ⟨Q00, 0, none⟩) (Kd.R_types (Kd.R_types Q0l.out Q05.out (by decide)) Q07.out (by decide)) (fun _ hk => hk.1.2) (.slice Q0h t137.length Q0i)) (fun _ hk => hk.1.2) (.slice Q0m t140.length Q0n)) (fun _ hk => hk.2) (.slice Q0j t143.length Q0k)) (fun _ hk => hk.2) (.slice Q0o t146.length Q0p)) (fun _ h_ => h_.1)) (fun _ h_ => h_.1))) (Kd.R_base ho0) hb); replace Q0r := Aside0.mk (Kd.R_elder' (by (with_reducible repeat (first | apply rA | apply rN | apply rD)); exact (Kd.R_mono (Kd.R_mono (Kd.R_far (p := ⟨Q01, 1, none⟩) (Kd.R_far (p := ⟨Q01, 0, none⟩) (Kd.R_far (p := ⟨Q00, 1, none⟩) (Kd.R_far (p := ⟨Q00, 0, none⟩) (Kd.R_types (Kd.R_types Q0r.out Q05.out (by decide)) Q07.out (by decide)) (fun _ hk => hk.1.2) (.slice Q0h t137.length Q0i)) (fun _ hk => hk.1.2) (.slice Q0m t140.length Q0n)) (fun _ hk => hk.2) (.slice Q0j t143.length Q0k)) (fun _ hk => hk.2) (.slice Q0o t146.length Q0p)) (fun _ h_ => h_.1)) (fun _ h_ => h_.1))) (Kd.R_base ho0) hb); replace Q0s := Aside0.mk (Kd.R_elder' (by (with_reducible repeat (first | apply rA | apply rN | apply rD)); exact (Kd.R_mono (Kd.R_mono (Kd.R_far (p := ⟨Q01, 1, none⟩) (Kd.R_far (p := ⟨Q01, 0, none⟩) (Kd.R_far (p := ⟨Q00, 1, none⟩) (Kd.R_far (p := ⟨Q00, 0, none⟩) (Kd.R_types (Kd.R_types Q0s.out Q05.out (by decide)) Q07.out (by decide)) (fun _ hk => hk.1.2) (.slice Q0h t137.length Q0i)) (fun _ hk => hk.1.2) (.slice Q0m t140.length Q0n)) (fun _ hk => hk.2) (.slice Q0j t143.length Q0k)) (fun _ hk => hk.2) (.slice Q0o t146.length Q0p)) (fun _ h_ => h_.1)) (fun _ h_ => h_.1))) (Kd.R_base ho0) hb); replace Q0t := Aside0.mk (Kd.R_elder' (by (with_reducible repeat (first | apply rA | apply rN | apply rD)); exact (Kd.R_mono (Kd.R_mono (Kd.R_far (p := ⟨Q01, 1, none⟩) (Kd.R_far (p := ⟨Q01, 0, none⟩) (Kd.R_far (p := ⟨Q00, 1, none⟩) (Kd.R_far (p := ⟨Q00, 0, none⟩) (Kd.R_types (Kd.R_types Q0t.out Q05.out (by decide)) Q07.out (by decide)) (fun _ hk => hk.1.2) (.slice Q0h t137.length Q0i)) (fun _ hk => hk.1.2) (.slice Q0m t140.length Q0n)) (fun _ hk => hk.2) (.slice Q0j t143.length Q0k)) (fun _ hk => hk.2) (.slice Q0o t146.length Q0p)) (fun _ h_ => h_.1)) (fun _ h_ => h_.1))) (Kd.R_base ho0) hb); have Q14 := Aside0.mk (Kd.R_lower (Kd.R_new' (Kd.R_new' (Kd.R_new' (Kd.R_new' ho1 (Kd.R_lt (by (with_reducible repeat (first | apply rA | apply rN | apply rD)); exact (Kd.R_mono (Kd.R_mono (Kd.R_far (p := ⟨Q01, 1, none⟩) (Kd.R_far (p := ⟨Q01, 0, none⟩) (Kd.R_far (p := ⟨Q00, 1, none⟩) (Kd.R_far (p := ⟨Q00, 0, none⟩) (Kd.R_types (Kd.R_types Q09.out Q05.out (by decide)) Q07.out (by decide)) (fun _ hk => hk.1.2) (.slice Q0h t137.length Q0i)) (fun _ hk => hk.1.2) (.slice Q0m t140.length Q0n)) (fun _ hk => hk.2) (.slice Q0j t143.length Q0k)) (fun _ hk => hk.2) (.slice Q0o t146.length Q0p)) (fun _ h_ => h_.1)) (fun _ h_ => h_.1))))) (Kd.R_lt (by (with_reducible repeat (first | apply rA | apply rN | apply rD)); exact (Kd.R_mono (Kd.R_mono (Kd.R_far (p := ⟨Q01, 1, none⟩) (Kd.R_far (p := ⟨Q01, 0, none⟩) (Kd.R_far (p := ⟨Q00, 1, none⟩) (Kd.R_far (p := ⟨Q00, 0, none⟩) (Kd.R_types (Kd.R_types Q0f.out Q05.out (by decide)) Q07.out (by decide)) (fun _ hk => hk.1.2) (.slice Q0h t137.length Q0i)) (fun _ hk => hk.1.2) (.slice Q0m t140.length Q0n)) (fun _ hk => hk.2) (.slice Q0j t143.length Q0k)) (fun _ hk => hk.2) (.slice Q0o t146.length Q0p)) (fun _ h_ => h_.1)) (fun _ h_ => h_.1))))) (Kd.R_lt (by (with_reducible repeat (first | apply rA | apply rN | apply rD)); exact (Kd.R_mono (Kd.R_mono (Kd.R_far (p := ⟨Q01, 1, none⟩) (Kd.R_far (p := ⟨Q01, 0, none⟩) (Kd.R_far (p := ⟨Q00, 1, none⟩) (Kd.R_far (p := ⟨Q00, 0, none⟩) (Kd.R_types (Kd.R_types Q0q.out Q05.out (by decide)) Q07.out (by decide)) (fun _ hk => hk.1.2) (.slice Q0h t137.length Q0i)) (fun _ hk => hk.1.2) (.slice Q0m t140.length Q0n)) (fun _ hk => hk.2) (.slice Q0j t143.length Q0k)) (fun _ hk => hk.2) (.slice Q0o t146.length Q0p)) (fun _ h_ => h_.1)) (fun _ h_ => h_.1))))) (Kd.R_lt (by (with_reducible repeat (first | apply rA | apply rN | apply rD)); exact (Kd.R_mono (Kd.R_mono (Kd.R_far (p := ⟨Q01, 1, none⟩) (Kd.R_far (p := ⟨Q01, 0, none⟩) (Kd.R_far (p := ⟨Q00, 1, none⟩) (Kd.R_far (p := ⟨Q00, 0, none⟩) (Kd.R_types (Kd.R_types Q0w.out Q05.out (by decide)) Q07.out (by decide)) (fun _ hk => hk.1.2) (.slice Q0h t137.length Q0i)) (fun _ hk => hk.1.2) (.slice Q0m t140.length Q0n)) (fun _ hk => hk.2) (.slice Q0j t143.length Q0k)) (fun _ hk => hk.2) (.slice Q0o t146.length Q0p)) (fun _ h_ => h_.1)) (fun _ h_ => h_.1))))) (below_size (pH HB))); replace Q09 := Aside0.mk (Kd.R_elder' (by (with_reducible repeat (first | apply rA | apply rN | apply rD)); exact (Kd.R_mono (Kd.R_mono (Kd.R_far (p := ⟨Q01, 1, none⟩) (Kd.R_far (p := ⟨Q01, 0, none⟩) (Kd.R_far (p := ⟨Q00, 1, none⟩) (Kd.R_far (p := ⟨Q00, 0, none⟩) (Kd.R_types (Kd.R_types Q09.out Q05.out (by decide)) Q07.out (by decide)) (fun _ hk => hk.1.2) (.slice Q0h t137.length Q0i)) (fun _ hk => hk.1.2) (.slice Q0m t140.length Q0n)) (fun _ hk => hk.2) (.slice Q0j t143.length Q0k)) (fun _ hk => hk.2) (.slice Q0o t146.length Q0p)) (fun _ h_ => h_.1)) (fun _ h_ => h_.1))) (Kd.R_base ho1) hb); replace Q0f := Aside0.mk (Kd.R_elder' (by (with_reducible repeat (first | apply rA | apply rN | apply rD)); exact (Kd.R_mono (Kd.R_mono (Kd.R_far (p := ⟨Q01, 1, none⟩) (Kd.R_far (p := ⟨Q01, 0, none⟩) (Kd.R_far (p := ⟨Q00, 1, none⟩) (Kd.R_far (p := ⟨Q00, 0, none⟩) (Kd.R_types (Kd.R_types Q0f.out Q05.out (by decide)) Q07.out (by decide)) (fun _ hk => hk.1.2) (.slice Q0h t137.length Q0i)) (fun _ hk => hk.1.2) (.slice Q0m t140.length Q0n)) (fun _ hk => hk.2) (.slice Q0j t143.length Q0k)) (fun _ hk => hk.2) (.slice Q0o t146.length Q0p)) (fun _ h_ => h_.1)) (fun _ h_ => h_.1))) (Kd.R_base ho1) hb); replace Q0q := Aside0.mk (Kd.R_elder' (by (with_reducible repeat (first | apply rA | apply rN | apply rD)); exact (Kd.R_mono (Kd.R_mono (Kd.R_far (p := ⟨Q01, 1, none⟩) (Kd.R_far (p := ⟨Q01, 0, none⟩) (Kd.R_far (p := ⟨Q00, 1, none⟩) (Kd.R_far (p := ⟨Q00, 0, none⟩) (Kd.R_types (Kd.R_types Q0q.out Q05.out (by decide)) Q07.out (by decide)) (fun _ hk => hk.1.2) (.slice Q0h t137.length Q0i)) (fun _ hk => hk.1.2) (.slice Q0m t140.length Q0n)) (fun _ hk => hk.2) (.slice Q0j t143.length Q0k)) (fun _ hk => hk.2) (.slice Q0o t146.length Q0p)) (fun _ h_ => h_.1)) (fun _ h_ => h_.1))) (Kd.R_base ho1) hb); replace Q0w := Aside0.mk (Kd.R_elder' (by (with_reducible repeat (first | apply rA | apply rN | apply rD)); exact (Kd.R_mono (Kd.R_mono (Kd.R_far (p := ⟨Q01, 1, none⟩) (Kd.R_far (p := ⟨Q01, 0, none⟩) (Kd.R_far (p := ⟨Q00, 1, none⟩) (Kd.R_far (p := ⟨Q00, 0, none⟩) (Kd.R_types (Kd.R_types Q0w.out Q05.out (by decide)) Q07.out (by decide)) (fun _ hk => hk.1.2) (.slice Q0h t137.length Q0i)) (fun _ hk => hk.1.2) (.slice Q0m t140.length Q0n)) (fun _ hk => hk.2) (.slice Q0j t143.length Q0k)) (fun _ hk => hk.2) (.slice Q0o t146.length Q0p)) (fun _ h_ => h_.1)) (fun _ h_ => h_.1))) (Kd.R_base ho1) hb); replace Q02 := Aside0.mk (bB (g := Q0d) (o := .cells #[.slice Q0x t113.length Q0y, .slice Q11 t116.length Q12] 25 (0, 0)) (by (with_reducible repeat (first | refine bN ?_ _ | refine bD ?_ | refine bA ?_ _)); refine blk_far ?_ Q1d.out _; (with_reducible repeat (first | refine bN ?_ _ | refine bD ?_ | refine bA ?_ _)); refine blk_far ?_ Q1d.out _; (with_reducible repeat (first | refine bN ?_ _ | refine bD ?_ | refine bA ?_ _)); refine blk_far ?_ Q1b.out _; (with_reducible repeat (first | refine bN ?_ _ | refine bD ?_ | refine bA ?_ _)); refine blk_far ?_ Q1b.out _; (with_reducible repeat (first | refine bN ?_ _ | refine bD ?_ | refine bA ?_ _)); exact Q02.out) hb); replace Q03 := Aside0.mk (bB (g := Q0e) (o := .cells #[.slice Q0u t119.length Q0v, .slice Q0z t122.length Q10] 29 (0, 0)) (by (with_reducible repeat (first | refine bN ?_ _ | refine bD ?_ | refine bA ?_ _)); refine blk_far ?_ Q1e.out _; (with_reducible repeat (first | refine bN ?_ _ | refine bD ?_ | refine bA ?_ _)); refine blk_far ?_ Q1e.out _; (with_reducible repeat (first | refine bN ?_ _ | refine bD ?_ | refine bA ?_ _)); refine blk_far ?_ Q1c.out _; (with_reducible repeat (first | refine bN ?_ _ | refine bD ?_ | refine bA ?_ _)); refine blk_far ?_ Q1c.out _; (with_reducible repeat (first | refine bN ?_ _ | refine bD ?_ | refine bA ?_ _)); exact Q03.out) hb); replace Q05 := Aside0.mk (bB (g := Q00) (o := .cells #[.slice Q0h t137.length Q0i, .slice Q0m t140.length Q0n] 25 (0, 0)) (by (with_reducible repeat (first | refine bN ?_ _ | refine bD ?_ | refine bA ?_ _)); refine blk_far ?_ Q1f.out _; (with_reducible repeat (first | refine bN ?_ _ | refine bD ?_ | refine bA ?_ _)); refine blk_far ?_ Q1f.out _; (with_reducible repeat (first | refine bN ?_ _ | refine bD ?_ | refine bA ?_ _)); refine blk_put (cs := #[.slice Q0h t137.length Q0i, .slice none 0 0]) ?_ 1 _ rfl; (with_reducible repeat (first | refine bN ?_ _ | refine bD ?_ | refine bA ?_ _)); refine blk_put (cs := #[.slice none 0 0, .slice none 0 0]) ?_ 0 _ rfl; (with_reducible repeat (first | refine bN ?_ _ | refine bD ?_ | refine bA ?_ _)); exact Q05.out) hb); replace Q07 := Aside0.mk (bB (g := Q01) (o := .cells #[.slice Q0j t143.length Q0k, .slice Q0o t146.length Q0p] 29 (0, 0)) (by (with_reducible repeat (first | refine bN ?_ _ | refine bD ?_ | refine bA ?_ _)); refine blk_put (cs := #[.slice Q0j t143.length Q0k, .slice none 0 0]) ?_ 1 _ rfl; (with_reducible repeat (first | refine bN ?_ _ | refine bD ?_ | refine bA ?_ _)); refine blk_put (cs := #[.slice none 0 0, .slice none 0 0]) ?_ 0 _ rfl; (with_reducible repeat (first | refine bN ?_ _ | refine bD ?_ | refine bA ?_ _)); refine blk_far ?_ Q1g.out _; (with_reducible repeat (first | refine bN ?_ _ | refine bD ?_ | refine bA ?_ _)); refine blk_far ?_ Q1g.out _; (with_reducible repeat (first | refine bN ?_ _ | refine bD ?_ | refine bA ?_ _)); exact Q07.out) hb); replace HB := uH HB hb; (try clear hb); (try clear hb2); (try clear hk); (try clear hi); (try clear ho0); (try clear ho1); obtain ⟨Q2j, Q2k, Q2l⟩ := Kd.R_slice Q13.out; subst Q2l; obtain ⟨Q2m, Q2n, Q2o⟩ := Kd.R_slice Q14.out; subst Q2o) | ((with_reducible refine gate_callee (f := 20) rfl ?_); refine goesL_ (some 26) rfl rfl Try.func20 (by kernel_rfl) rfl #[.agg #[.slice Q2j t152.length Q2k, .slice Q2m t155.length Q2n]] rfl aM ?_; (with_reducible refine (graph_Components.calls k _ _ t152 _ _ t155 t158 t161 _ ?side1 ?side2 ?side3 ?side4 A6.out).mono ?_); (case side1 => repeat (first | exact (Kd.R_reads' Q13.out).2.2 | (with_reducible refine cA ?_ _) | (with_reducible refine cN ?_ _) | (with_reducible refine cD ?_))); (case side2 => exact (Kd.R_reads' Q13.out).2.1); (case side3 => repeat (first | exact (Kd.R_reads' Q14.out).2.2 | (with_reducible refine cA ?_ _) | (with_reducible refine cN ?_ _) | (with_reducible refine cD ?_))); (case side4 => exact (Kd.R_reads' Q14.out).2.1); rintro e w58 ⟨v159, rfl, ho0, hb⟩; refine ⟨_, rfl, ?_⟩; replace Q09 := uR Q09 hb; replace Q0f := uR Q0f hb; replace Q0q := uR Q0q hb; replace Q0w := uR Q0w hb; replace Q14 := uR Q14 hb; have Q16 := Aside0.mk (Kd.S_lower (Kd.S_new' (Kd.S_new' (Kd.S_new' (Kd.S_new' (Kd.S_new' (Kd.S_new' (Kd.S_new' (Kd.S_new' (Kd.S_new' (Kd.S_new' (Kd.S_new' (Kd.S_new' ho0 (Kd.R_lt (pR Q04))) (Kd.R_lt (pR Q06))) (Kd.R_lt (pR Q08))) (Kd.R_lt (pR Q0a))) (Kd.R_lt (pR Q0b))) (Kd.R_lt (pR Q0c))) (Kd.R_lt (pR Q0g))) (Kd.R_lt (pR Q0l))) (Kd.R_lt (pR Q0r))) (Kd.R_lt (pR Q0s))) (Kd.R_lt (pR Q0t))) (Kd.R_lt (pR Q13))) (below_size (pH HB))); replace Q04 := uR Q04 hb; replace Q06 := uR Q06 hb; replace Q08 := uR Q08 hb; replace Q0a := uR Q0a hb; replace Q0b := uR Q0b hb; replace Q0c := uR Q0c hb; replace Q0g := uR Q0g hb; replace Q0l := uR Q0l hb; replace Q0r := uR Q0r hb; replace Q0s := uR Q0s hb; replace Q0t := uR Q0t hb; replace Q13 := uR Q13 hb; replace Q02 := uB Q02 hb; replace Q03 := uB Q03 hb; replace Q05 := uB Q05 hb; replace Q07 := uB Q07 hb; replace HB := uH HB hb; (try clear hb); (try clear hb2); (try clear hk); (try clear hi); (try clear ho0); have Q3q : w58.cell? ⟨Q0d, 0, none⟩ = some (.slice Q0x t113.length Q0y) := (blk_cell Q02.out 0).trans rfl; have Q3r : w58.cell? ⟨Q0d, 1, none⟩ = some (.slice Q11 t116.length Q12) := (blk_cell Q02.out 1).trans rfl; have Q3s := blk_frozen Q02.out 0; have Q3t := blk_frozen Q02.out 1) | ((with_reducible refine gate_dst (N := 33) rfl ?_); (try (refine gate_guard (by rfl) ?_; dsimp only)); refine Kd.R_lit (Kd.int .i64) _ 3 ?hg (N := 33) ?hd (xs := ([3, 1] : List Int)) (inner := [.int .i64 3, .int .i64 1]) (ok := fun _ => True) (okp := fun _ => True) ?hr ?hp (fun _ hk => hk) trivial (Below.refl _ _) (Nat.le_refl _) (by simp) ?_; (case hd => rfl); (case hg => rfl); (case hr => first | (go_simp; done) | (go_simp; rfl)); (case hp => exact (Reps.one (show Kd.M (Kd.int .i64) _ _ _ 3 [.int .i64 3] from rfl) (Reps.one (show Kd.M (Kd.int .i64) _ _ _ 1 [.int .i64 1] from rfl) (Reps.none _ _)))); intro v163 w60 ho61 hb hg_ hnew_; clear hg_ hnew_; (first | rw [← Ny162.out] at ho61 | (simp only [Int.reduceToNat] at ho61; rw [← Ny162.out] at ho61)); replace Q09 := uR Q09 hb; replace Q0f := uR Q0f hb; replace Q0q := uR Q0q hb; replace Q0w := uR Q0w hb; replace Q14 := uR Q14 hb; replace Q16 := Aside0.mk (Kd.S_elder' (by (with_reducible repeat (first | apply Kd.S_alloc | apply Kd.S_drewN | apply Kd.S_drew)); exact Q16.out) (Kd.R_base ho61) hb); have Q15 := Aside0.mk (Kd.R_lower (Kd.R_new' (Kd.R_new' (Kd.R_new' (Kd.R_new' (Kd.R_new' (Kd.R_new' (Kd.R_new' (Kd.R_new' (Kd.R_new' (Kd.R_new' (Kd.R_new' (Kd.R_new' ho61 (Kd.R_lt (pR Q04))) (Kd.R_lt (pR Q06))) (Kd.R_lt (pR Q08))) (Kd.R_lt (pR Q0a))) (Kd.R_lt (pR Q0b))) (Kd.R_lt (pR Q0c))) (Kd.R_lt (pR Q0g))) (Kd.R_lt (pR Q0l))) (Kd.R_lt (pR Q0r))) (Kd.R_lt (pR Q0s))) (Kd.R_lt (pR Q0t))) (Kd.R_lt (pR Q13))) (below_size (pH HB))); replace Q04 := eR Q04 (Kd.R_base ho61) hb; replace Q06 := eR Q06 (Kd.R_base ho61) hb; replace Q08 := eR Q08 (Kd.R_base ho61) hb; replace Q0a := eR Q0a (Kd.R_base ho61) hb; replace Q0b := eR Q0b (Kd.R_base ho61) hb; replace Q0c := eR Q0c (Kd.R_base ho61) hb; replace Q0g := eR Q0g (Kd.R_base ho61) hb; replace Q0l := eR Q0l (Kd.R_base ho61) hb; replace Q0r := eR Q0r (Kd.R_base ho61) hb; replace Q0s := eR Q0s (Kd.R_base ho61) hb; replace Q0t := eR Q0t (Kd.R_base ho61) hb; replace Q13 := eR Q13 (Kd.R_base ho61) hb; replace Q02 := uB Q02 hb; replace Q03 := uB Q03 hb; replace Q05 := uB Q05 hb; replace Q07 := uB Q07 hb; replace HB := uH HB hb; clear hb ho61) | ((with_reducible refine gate_dst (N := 35) rfl ?_); (try (refine gate_guard (by rfl) ?_; dsimp only)); refine Kd.R_lit k38 _ 38 ?hg (N := 35) ?hd (xs := ([(⟨0, 0, 1⟩ : S38)] : List (S38))) (inner := [.int .i64 0, .int .i64 0, .int .i64 1]) (ok := fun _ => True) (okp := fun _ => True) ?hr ?hp (fun _ hk => hk) trivial (Below.refl _ _) (Nat.le_refl _) (by simp) ?_; (case hd => rfl); (case hg => rfl); (case hr => first | (go_simp; done) | (go_simp; rfl)); (case hp => exact (Reps.c3 (show Kd.M k38 _ _ _ (⟨0, 0, 1⟩ : S38) [.int .i64 0, .int .i64 0, .int .i64 1] from (k38_mkM _ _ _ (⟨0, 0, 1⟩ : S38) )) (Reps.none _ _))); intro v166 w62 ho63 hb hg_ hnew_; clear hg_ hnew_; (first | rw [← Ny165.out] at ho63 | (simp only [Int.reduceToNat] at ho63; rw [← Ny165.out] at ho63)); replace Q04 := uR Q04 hb; replace Q06 := uR Q06 hb; replace Q08 := uR Q08 hb; replace Q0a := uR Q0a hb; replace Q0b := uR Q0b hb; replace Q0c := uR Q0c hb; replace Q0g := uR Q0g hb; replace Q0l := uR Q0l hb; replace Q0r := uR Q0r hb; replace Q0s := uR Q0s hb; replace Q0t := uR Q0t hb; replace Q13 := uR Q13 hb; replace Q16 := Aside0.mk (Kd.S_below (by (with_reducible repeat (first | apply Kd.S_alloc | apply Kd.S_drewN | apply Kd.S_drew)); exact Q16.out) hb); replace Q15 := uR Q15 hb; have Q17 := Aside0.mk (Kd.R_lower (Kd.R_new' (Kd.R_new' (Kd.R_new' (Kd.R_new' (Kd.R_new' ho63 (Kd.R_lt (pR Q09))) (Kd.R_lt (pR Q0f))) (Kd.R_lt (pR Q0q))) (Kd.R_lt (pR Q0w))) (Kd.R_lt (pR Q14))) (below_size (pH HB))); replace Q09 := eR Q09 (Kd.R_base ho63) hb; replace Q0f := eR Q0f (Kd.R_base ho63) hb; replace Q0q := eR Q0q (Kd.R_base ho63) hb; replace Q0w := eR Q0w (Kd.R_base ho63) hb; replace Q14 := eR Q14 (Kd.R_base ho63) hb; replace Q02 := uB Q02 hb; replace Q03 := uB Q03 hb; replace Q05 := uB Q05 hb; replace Q07 := uB Q07 hb; replace HB := uH HB hb; clear hb ho63; obtain ⟨Q3u, Q3v, Q2p⟩ := Kd.R_slice Q17.out; subst Q2p; obtain ⟨Q3w, Q3x, Q2q⟩ := Kd.R_slice Q15.out; subst Q2q) | (go_at_call 16; (with_reducible refine (scarfjointref05_Same.calls k _ _ t113 _ _ t116 _ _ y162 _ _ y165 true _ ?side1 ?side2 ?side3 ?side4 ?side5 ?side6 ?side7 ?side8 A8.out).mono ?_); (case side1 => repeat (first | exact (Kd.R_reads' Q0a.out).2.2 | (with_reducible refine cA ?_ _) | (with_reducible refine cN ?_ _) | (with_reducible refine cD ?_))); (case side2 => exact (Kd.R_reads' Q0a.out).2.1); (case side3 => repeat (first | exact (Kd.R_reads' Q0f.out).2.2 | (with_reducible refine cA ?_ _) | (with_reducible refine cN ?_ _) | (with_reducible refine cD ?_))); (case side4 => exact (Kd.R_reads' Q0f.out).2.1); (case side5 => repeat (first | exact (Kd.R_reads' Q15.out).2.2 | (with_reducible refine cA ?_ _) | (with_reducible refine cN ?_ _) | (with_reducible refine cD ?_))); (case side6 => exact (Kd.R_reads' Q15.out).2.1); (case side7 => repeat (first | exact (Kd.R_reads' Q17.out).2.2 | (with_reducible refine cA ?_ _) | (with_reducible refine cN ?_ _) | (with_reducible refine cD ?_))); (case side8 => exact (Kd.R_reads' Q17.out).2.1); rintro e w66 ⟨rfl, hb⟩; replace Q04 := uR Q04 hb; replace Q09 := uR Q09 hb; replace Q06 := uR Q06 hb; replace Q08 := uR Q08 hb; replace Q0a := uR Q0a hb; replace Q0f := uR Q0f hb; replace Q0b := uR Q0b hb; replace Q0c := uR Q0c hb; replace Q0g := uR Q0g hb; replace Q0q := uR Q0q hb; replace Q0l := uR Q0l hb; replace Q0r := uR Q0r hb; replace Q0w := uR Q0w hb; replace Q0s := uR Q0s hb; replace Q0t := uR Q0t hb; replace Q13 := uR Q13 hb; replace Q14 := uR Q14 hb; replace Q16 := Aside0.mk (Kd.S_below (by (with_reducible repeat (first | apply Kd.S_alloc | apply Kd.S_drewN | apply Kd.S_drew)); exact Q16.out) hb); replace Q15 := uR Q15 hb; replace Q17 := uR Q17 hb; replace Q02 := uB Q02 hb; replace Q03 := uB Q03 hb; replace Q05 := uB Q05 hb; replace Q07 := uB Q07 hb; replace HB := uH HB hb; (try clear hb); (try clear hb2); (try clear hk); (try clear hi); have Q3y : w66.cell? ⟨Q0e, 0, none⟩ = some (.slice Q0u t119.length Q0v) := (blk_cell Q03.out 0).trans rfl; have Q3z : w66.cell? ⟨Q0e, 1, none⟩ = some (.slice Q0z t122.length Q10) := (blk_cell Q03.out 1).trans rfl; have Q40 := blk_frozen Q03.out 0; have Q41 := blk_frozen Q03.out 1) | ((with_reducible refine gate_dst (N := 42) rfl ?_); (try (refine gate_guard (by rfl) ?_; dsimp only)); refine Kd.R_lit (Kd.int .i64) _ 3 ?hg (N := 42) ?hd (xs := ([0, (-1), 1] : List Int)) (inner := [.int .i64 0, .int .i64 (-1), .int .i64 1]) (ok := fun _ => True) (okp := fun _ => True) ?hr ?hp (fun _ hk => hk) trivial (Below.refl _ _) (Nat.le_refl _) (by simp) ?_; (case hd => rfl); (case hg => rfl); (case hr => first | (go_simp; done) | (go_simp; rfl)); (case hp => exact (Reps.one (show Kd.M (Kd.int .i64) _ _ _ 0 [.int .i64 0] from rfl) (Reps.one (show Kd.M (Kd.int .i64) _ _ _ (-1) [.int .i64 (-1)] from rfl) (Reps.one (show Kd.M (Kd.int .i64) _ _ _ 1 [.int .i64 1] from rfl) (Reps.none _ _))))); intro v170 w68 ho69 hb hg_ hnew_; clear hg_ hnew_; (first | rw [← Ny169.out] at ho69 | (simp only [Int.reduceToNat] at ho69; rw [← Ny169.out] at ho69)); replace Q09 := uR Q09 hb; replace Q0f := uR Q0f hb; replace Q0q := uR Q0q hb; replace Q0w := uR Q0w hb; replace Q14 := uR Q14 hb; replace Q16 := Aside0.mk (Kd.S_elder' (by (with_reducible repeat (first | apply Kd.S_alloc | apply Kd.S_drewN | apply Kd.S_drew)); exact Q16.out) (Kd.R_base ho69) hb); replace Q17 := uR Q17 hb; have Q18 := Aside0.mk (Kd.R_lower (Kd.R_new' (Kd.R_new' (Kd.R_new' (Kd.R_new' (Kd.R_new' (Kd.R_new' (Kd.R_new' (Kd.R_new' (Kd.R_new' (Kd.R_new' (Kd.R_new' (Kd.R_new' (Kd.R_new' ho69 (Kd.R_lt (pR Q04))) (Kd.R_lt (pR Q06))) (Kd.R_lt (pR Q08))) (Kd.R_lt (pR Q0a))) (Kd.R_lt (pR Q0b))) (Kd.R_lt (pR Q0c))) (Kd.R_lt (pR Q0g))) (Kd.R_lt (pR Q0l))) (Kd.R_lt (pR Q0r))) (Kd.R_lt (pR Q0s))) (Kd.R_lt (pR Q0t))) (Kd.R_lt (pR Q13))) (Kd.R_lt (pR Q15))) (below_size (pH HB))); replace Q04 := eR Q04 (Kd.R_base ho69) hb; replace Q06 := eR Q06 (Kd.R_base ho69) hb; replace Q08 := eR Q08 (Kd.R_base ho69) hb; replace Q0a := eR Q0a (Kd.R_base ho69) hb; replace Q0b := eR Q0b (Kd.R_base ho69) hb; replace Q0c := eR Q0c (Kd.R_base ho69) hb; replace Q0g := eR Q0g (Kd.R_base ho69) hb; replace Q0l := eR Q0l (Kd.R_base ho69) hb; replace Q0r := eR Q0r (Kd.R_base ho69) hb; replace Q0s := eR Q0s (Kd.R_base ho69) hb; replace Q0t := eR Q0t (Kd.R_base ho69) hb; replace Q13 := eR Q13 (Kd.R_base ho69) hb; replace Q15 := eR Q15 (Kd.R_base ho69) hb; replace Q02 := uB Q02 hb; replace Q03 := uB Q03 hb; replace Q05 := uB Q05 hb; replace Q07 := uB Q07 hb; replace HB := uH HB hb; clear hb ho69; obtain ⟨Q42, Q43, Q2r⟩ := Kd.R_slice Q18.out; subst Q2r) | (go_at_call 22; (with_reducible refine (slices_Equal_int_int.calls k _ _ t119 _ _ y169 true _ ?side1 ?side2 ?side3 ?side4 A10.out).mono ?_); (case side1 => repeat (first | exact (Kd.R_reads' Q0b.out).2.2 | (with_reducible refine cA ?_ _) | (with_reducible refine cN ?_ _) | (with_reducible refine cD ?_))); (case side2 => exact (Kd.R_reads' Q0b.out).2.1); (case side3 => repeat (first | exact (Kd.R_reads' Q18.out).2.2 | (with_reducible refine cA ?_ _) | (with_reducible refine cN ?_ _) | (with_reducible refine cD ?_))); (case side4 => exact (Kd.R_reads' Q18.out).2.1); rintro e w' ⟨rfl, ⟨nd, rfl⟩⟩; have Q44 : w68.cell? ⟨Q0e, 0, none⟩ = some (.slice Q0u t119.length Q0v) := (blk_cell Q03.out 0).trans rfl; have Q45 : w68.cell? ⟨Q0e, 1, none⟩ = some (.slice Q0z t122.length Q10) := (blk_cell Q03.out 1).trans rfl; have Q46 := blk_frozen Q03.out 0; have Q47 := blk_frozen Q03.out 1) | ((with_reducible refine gate_dst (N := 48) rfl ?_); (try (refine gate_guard (by rfl) ?_; dsimp only)); refine Kd.R_lit (Kd.int .i64) _ 3 ?hg (N := 48) ?hd (xs := ([(-1), 0] : List Int)) (inner := [.int .i64 (-1), .int .i64 0]) (ok := fun _ => True) (okp := fun _ => True) ?hr ?hp (fun _ hk => hk) trivial (Below.refl _ _) (Nat.le_refl _) (by simp) ?_; (case hd => rfl); (case hg => rfl); (case hr => first | (go_simp; done) | (go_simp; rfl)); (case hp => exact (Reps.one (show Kd.M (Kd.int .i64) _ _ _ (-1) [.int .i64 (-1)] from rfl) (Reps.one (show Kd.M (Kd.int .i64) _ _ _ 0 [.int .i64 0] from rfl) (Reps.none _ _)))); intro v174 w72 ho73 hb hg_ hnew_; clear hg_ hnew_; (first | rw [← Ny173.out] at ho73 | (simp only [Int.reduceToNat] at ho73; rw [← Ny173.out] at ho73)); replace Q09 := uR Q09 hb; replace Q0f := uR Q0f hb; replace Q0q := uR Q0q hb; replace Q0w := uR Q0w hb; replace Q14 := uR Q14 hb; replace Q16 := Aside0.mk (Kd.S_elder' (by (with_reducible repeat (first | apply Kd.S_alloc | apply Kd.S_drewN | apply Kd.S_drew)); exact Q16.out) (Kd.R_base ho73) hb); replace Q17 := uR Q17 hb; have Q1h := Aside0.mk (Kd.R_lower (Kd.R_new' (Kd.R_new' (Kd.R_new' (Kd.R_new' (Kd.R_new' (Kd.R_new' (Kd.R_new' (Kd.R_new' (Kd.R_new' (Kd.R_new' (Kd.R_new' (Kd.R_new' (Kd.R_new' (Kd.R_new' ho73 (Kd.R_lt (pR Q04))) (Kd.R_lt (pR Q06))) (Kd.R_lt (pR Q08))) (Kd.R_lt (pR Q0a))) (Kd.R_lt (pR Q0b))) (Kd.R_lt (pR Q0c))) (Kd.R_lt (pR Q0g))) (Kd.R_lt (pR Q0l))) (Kd.R_lt (pR Q0r))) (Kd.R_lt (pR Q0s))) (Kd.R_lt (pR Q0t))) (Kd.R_lt (pR Q13))) (Kd.R_lt (pR Q15))) (Kd.R_lt (pR Q18))) (below_size (pH HB))); replace Q04 := eR Q04 (Kd.R_base ho73) hb; replace Q06 := eR Q06 (Kd.R_base ho73) hb; replace Q08 := eR Q08 (Kd.R_base ho73) hb; replace Q0a := eR Q0a (Kd.R_base ho73) hb; replace Q0b := eR Q0b (Kd.R_base ho73) hb; replace Q0c := eR Q0c (Kd.R_base ho73) hb; replace Q0g := eR Q0g (Kd.R_base ho73) hb; replace Q0l := eR Q0l (Kd.R_base ho73) hb; replace Q0r := eR Q0r (Kd.R_base ho73) hb; replace Q0s := eR Q0s (Kd.R_base ho73) hb; replace Q0t := eR Q0t (Kd.R_base ho73) hb; replace Q13 := eR Q13 (Kd.R_base ho73) hb; replace Q15 := eR Q15 (Kd.R_base ho73) hb; replace Q18 := eR Q18 (Kd.R_base ho73) hb; replace Q02 := uB Q02 hb; replace Q03 := uB Q03 hb; replace Q05 := uB Q05 hb; replace Q07 := uB Q07 hb; replace HB := uH HB hb; clear hb ho73; obtain ⟨Q48, Q49, Q2s⟩ := Kd.R_slice Q1h.out; subst Q2s) | (go_at_call 22; (with_reducible refine (slices_Equal_int_int.calls k _ _ t122 _ _ y173 true _ ?side1 ?side2 ?side3 ?side4 A12.out).mono ?_); (case side1 => repeat (first | exact (Kd.R_reads' Q0c.out).2.2 | (with_reducible refine cA ?_ _) | (with_reducible refine cN ?_ _) | (with_reducible refine cD ?_))); (case side2 => exact (Kd.R_reads' Q0c.out).2.1); (case side3 => repeat (first | exact (Kd.R_reads' Q1h.out).2.2 | (with_reducible refine cA ?_ _) | (with_reducible refine cN ?_ _) | (with_reducible refine cD ?_))); (case side4 => exact (Kd.R_reads' Q1h.out).2.1); rintro e w' ⟨rfl, ⟨nd, rfl⟩⟩; obtain ⟨Q4a, Q4b, Q2t⟩ := Kd.S_slice Q16.out; subst Q2t))
       go_ret
       exact ⟨by first | rfl | (simp [errW_none, errW_some] <;> rfl) | (simp [*, errW_none, errW_some] <;> rfl), by repeat (first | (with_reducible first | exact HB.out | apply wA | apply wN | apply wD | refine below_set ?_ Q1u.out | refine below_set ?_ Q1v.out | refine below_set ?_ Q29.out | refine below_set ?_ Q2c.out) | exact HB.out)⟩
      ·rw [if_neg c15] at H
       exact absurd H (by simp)
     ·rw [if_neg c14] at H
      exact absurd H (by simp)
    ·replace c13 := Bool.eq_false_iff.mpr c13
     subst c13
     have H1 : (none) = some r := by rw [if_neg (show ¬ (false = true) by decide)] at H; exact H
     clear H
     have H := H1
     clear H1
     exact absurd H (by simp)
   ·replace c11 := Bool.eq_false_iff.mpr c11
    subst c11
    have H1 : (none) = some r := by rw [if_neg (show ¬ (false = true) by decide)] at H; exact H
    clear H
    have H := H1
    clear H1
    exact absurd H (by simp)
  ·replace c9 := Bool.eq_false_iff.mpr c9
   subst c9
   have H1 : (none) = some r := by rw [if_neg (show ¬ (false = true) by decide)] at H; exact H
   clear H
   have H := H1
   clear H1
   exact absurd H (by simp)
 ·rw [if_neg c7] at H
  exact absurd H (by simp)
end Go.Proofs.Ytmbnibonggbjgaa.X

namespace Go.Proofs.Ytmbnibonggbjgaa.X
open Go.RowKit Go.Proofs.YtmbnibonggbjgaaW.PrintWords Go.Proofs.YtmbnibonggbjgaaW.PrintLast Go.Proofs.YtmbnibonggbjgaaW.PrintMore
open Go.Proofs.YtmbnibonggbjgaaW.PrintWords renaming blk_drewN → bN, blk_drew → bD, blk_alloc → bA, below_alloc → wA, pw_below_drewN → wN, below_drew1 → wD, blk_below → bB, below_step → wS, blk_at → bT, blk_grown → bG
open Go.Proofs.YtmbnibonggbjgaaW.PrintWords.Kd renaming R_alloc → rA, R_drewN → rN, R_drew → rD, R_below → rB, R_grown → rG, C_below → cB, C_alloc → cA, C_drewN → cN, C_drew → cD
attribute [local go_sem] max2_int min2_int max_two min_two max_three min_three max_four min_four
set_option linter.unusedVariables false
set_option linter.unusedSimpArgs false
/-! ### scarfjointref05_Few: function 11 -/
def scarfjointref05_Few.f (l0_0 : List Int) (l0_1 : List (S38)) : Option (Bool) := if (l0_0.length : Int) ≤ 45 then (some (decide ((l0_1.length : Int) ≤ 90))) else (some false)
set_option maxHeartbeats 8000000 in
set_option maxRecDepth 100000 in
theorem scarfjointref05_Few.calls (A0_0 : Option Addr) (c0_0 : Nat) (l0_0 : List Int) (A0_1 : Option Addr) (c0_1 : Nat) (l0_1 : List (S38)) (r : Bool) (w : World) (hr0_0 : Kd.C (Kd.int .i64) w A0_0 l0_0.length l0_0) (hc0_0 : l0_0.length ≤ c0_0) (hr0_1 : Kd.C k38 w A0_1 l0_1.length l0_1) (hc0_1 : l0_1.length ≤ c0_1) (h : scarfjointref05_Few.f l0_0 l0_1 = some r) :
  Calls Try.prog 11 #[.agg #[.slice A0_0 l0_0.length c0_0, .slice A0_1 l0_1.length c0_1]] w fun e w' => e = .returned (.bool r) ∧ Below w.heap.size w w' := by
 have hu25 := Try.underlying25
 have HR0_0 := Aside0.mk hr0_0
 have HC0_0 := Aside0.mk hc0_0
 clear hr0_0 hc0_0
 have HR0_1 := Aside0.mk hr0_1
 have HC0_1 := Aside0.mk hc0_1
 clear hr0_1 hc0_1
 have HB := Aside0.mk (Below.refl w.heap.size w)
 have H : (if (l0_0.length : Int) ≤ 45 then (some (decide ((l0_1.length : Int) ≤ 90))) else (some false)) = some r := h
 clear h
 by_cases c2 : (l0_0.length : Int) ≤ 45
 ·rw [if_pos c2] at H
  have c2b0 : decide ((l0_0.length : Int) ≤ 45) = true := decide_eq_true c2
  have c2b1 : decide (l0_0.length ≤ 45) = true := decide_eq_true (by omega)
  clear c2
  obtain rfl := Option.some.inj H
  go_enter Try.func11, Try.ntmps11
  go_wp2_with (first | ((with_reducible refine gate_dst (N := 1) rfl ?_); (try (refine gate_guard (by rfl) ?_; dsimp only)); refine box_event ?hg (N := 1) ?hd (cs := #[.slice A0_0 l0_0.length c0_0, .slice A0_1 l0_1.length c0_1]) (t := 25) ?hr ?_; (case hd => rfl); (case hg => rfl); (case hr => first | (go_simp; done) | (go_simp; rfl)); intro Q00 hg w3 hbox hb; have Q01 := Aside0.mk (hbox); have Q03 := Aside0.mk ((by rw [hg]; exact (below_size hB) : w.heap.size ≤ Q00)); have Q02 := Aside0.mk ((by rw [hg]; exact (below_size hB) : w.heap.size ≤ Q00)); replace HB := uH HB hb; clear hb hbox hg; have Q04 : w3.cell? ⟨Q00, 0, none⟩ = some (.slice A0_0 l0_0.length c0_0) := (blk_cell Q01.out 0).trans rfl; have Q05 : w3.cell? ⟨Q00, 1, none⟩ = some (.slice A0_1 l0_1.length c0_1) := (blk_cell Q01.out 1).trans rfl; have Q06 := blk_frozen Q01.out 0; have Q07 := blk_frozen Q01.out 1))
  go_ret
  exact ⟨by first | rfl | (simp [errW_none, errW_some] <;> rfl) | (simp [*, errW_none, errW_some] <;> rfl), by repeat (first | (with_reducible first | exact HB.out | apply wA | apply wN | apply wD | refine below_set ?_ Q02.out) | exact HB.out)⟩
 ·rw [if_neg c2] at H
  have c2b0 : decide ((l0_0.length : Int) ≤ 45) = false := decide_eq_false c2
  have c2b1 : decide (l0_0.length ≤ 45) = false := decide_eq_false (by omega)
  clear c2
  obtain rfl := Option.some.inj H
  go_enter Try.func11, Try.ntmps11
  go_wp2_with (first | ((with_reducible refine gate_dst (N := 1) rfl ?_); (try (refine gate_guard (by rfl) ?_; dsimp only)); refine box_event ?hg (N := 1) ?hd (cs := #[.slice A0_0 l0_0.length c0_0, .slice A0_1 l0_1.length c0_1]) (t := 25) ?hr ?_; (case hd => rfl); (case hg => rfl); (case hr => first | (go_simp; done) | (go_simp; rfl)); intro Q00 hg w5 hbox hb; have Q01 := Aside0.mk (hbox); have Q03 := Aside0.mk ((by rw [hg]; exact (below_size hB) : w.heap.size ≤ Q00)); have Q02 := Aside0.mk ((by rw [hg]; exact (below_size hB) : w.heap.size ≤ Q00)); replace HB := uH HB hb; clear hb hbox hg; have Q08 : w5.cell? ⟨Q00, 0, none⟩ = some (.slice A0_0 l0_0.length c0_0) := (blk_cell Q01.out 0).trans rfl; have Q09 : w5.cell? ⟨Q00, 1, none⟩ = some (.slice A0_1 l0_1.length c0_1) := (blk_cell Q01.out 1).trans rfl; have Q0a := blk_frozen Q01.out 0; have Q0b := blk_frozen Q01.out 1))
  go_ret
  exact ⟨by first | rfl | (simp [errW_none, errW_some] <;> rfl) | (simp [*, errW_none, errW_some] <;> rfl), by repeat (first | (with_reducible first | exact HB.out | apply wA | apply wN | apply wD | refine below_set ?_ Q02.out) | exact HB.out)⟩
end Go.Proofs.Ytmbnibonggbjgaa.X

namespace Go.Proofs.Ytmbnibonggbjgaa.X
open Go.RowKit Go.Proofs.YtmbnibonggbjgaaW.PrintWords Go.Proofs.YtmbnibonggbjgaaW.PrintLast Go.Proofs.YtmbnibonggbjgaaW.PrintMore
open Go.Proofs.YtmbnibonggbjgaaW.PrintWords renaming blk_drewN → bN, blk_drew → bD, blk_alloc → bA, below_alloc → wA, pw_below_drewN → wN, below_drew1 → wD, blk_below → bB, below_step → wS, blk_at → bT, blk_grown → bG
open Go.Proofs.YtmbnibonggbjgaaW.PrintWords.Kd renaming R_alloc → rA, R_drewN → rN, R_drew → rD, R_below → rB, R_grown → rG, C_below → cB, C_alloc → cA, C_drewN → cN, C_drew → cD
attribute [local go_sem] max2_int min2_int max_two min_two max_three min_three max_four min_four
set_option linter.unusedVariables false
set_option linter.unusedSimpArgs false
/-! ### scarfjointref05_Copied: function 13 -/
def scarfjointref05_Copied.f (l0_0 : List Int) (l0_1 : List (S38)) : Option (List Int × (List (S38))) := (some (([] : List Int) : List Int)).bind fun y103 => (if y103.length + l0_0.length < 17592186044416 then ((some (([] : List (S38)) : List (S38))).bind fun y109 => (if y109.length + l0_1.length < 5864062014805 then (some ((y103 ++ l0_0), (y109 ++ l0_1))) else (none))) else (none))
def scarfjointref05_Copied.T1 : Bool × List (List Nat × List Nat) := (true, [([], []), ([], []), ([1], [1]), ([0, 2], [0, 2]), ([], []), ([], []), ([5], [5]), ([4, 6, 3], [4, 6]), ([3, 7], [3, 7]), ([8, 7, 0, 1, 2, 3, 4, 5, 6, 7, 8], [8])])
def scarfjointref05_Copied.B1 : List Nat := [0, 0, 2, 7, 0, 0, 32, 127, 255, 511]
theorem scarfjointref05_Copied.tab1 : rtab .any (opsOf Try.f13 1) = scarfjointref05_Copied.T1 := by kernel_rfl
theorem scarfjointref05_Copied.bits1 : waitsOk scarfjointref05_Copied.T1.2 scarfjointref05_Copied.B1 = true := by kernel_rfl
set_option maxHeartbeats 8000000 in
set_option maxRecDepth 100000 in
theorem scarfjointref05_Copied.calls (A0_0 : Option Addr) (c0_0 : Nat) (l0_0 : List Int) (A0_1 : Option Addr) (c0_1 : Nat) (l0_1 : List (S38)) (r1 : List Int) (r2 : List (S38)) (w : World) (hr0_0 : Kd.C (Kd.int .i64) w A0_0 l0_0.length l0_0) (hc0_0 : l0_0.length ≤ c0_0) (hr0_1 : Kd.C k38 w A0_1 l0_1.length l0_1) (hc0_1 : l0_1.length ≤ c0_1) (h : scarfjointref05_Copied.f l0_0 l0_1 = some (r1, r2)) :
  Calls Try.prog 13 #[.agg #[.slice A0_0 l0_0.length c0_0, .slice A0_1 l0_1.length c0_1]] w fun e w' => ∃ v0_ v1_ : Value, e = .returned (.agg #[v0_, v1_]) ∧ Kd.R (Kd.int .i64) 3 w' w.heap.size (fun _ => True) v0_ r1 ∧ Kd.R k38 38 w' w.heap.size (fun _ => True) v1_ r2 ∧ Below w.heap.size w w' := by
 have hu25 := Try.underlying25
 have HR0_0 := Aside0.mk hr0_0
 have HC0_0 := Aside0.mk hc0_0
 clear hr0_0 hc0_0
 have HR0_1 := Aside0.mk hr0_1
 have HC0_1 := Aside0.mk hc0_1
 clear hr0_1 hc0_1
 have HB := Aside0.mk (Below.refl w.heap.size w)
 have H : ((some (([] : List Int) : List Int)).bind fun y103 => (if y103.length + l0_0.length < 17592186044416 then ((some (([] : List (S38)) : List (S38))).bind fun y109 => (if y109.length + l0_1.length < 5864062014805 then (some ((y103 ++ l0_0), (y109 ++ l0_1))) else (none))) else (none))) = some (r1, r2) := h
 clear h
 obtain ⟨y103, hy103⟩ : ∃ y_ : List Int, y_ = (([] : List Int)) := ⟨_, rfl⟩
 replace H : (if y103.length + l0_0.length < 17592186044416 then ((some (([] : List (S38)) : List (S38))).bind fun y109 => (if y109.length + l0_1.length < 5864062014805 then (some ((y103 ++ l0_0), (y109 ++ l0_1))) else (none))) else (none)) = some (r1, r2) := by first | (rw [hy103]; with_reducible exact H) | (have H2_ := (Option.bind_some _ _).symm.trans H; rw [hy103]; with_reducible exact H2_) | (have H2_ := (Option.bind_some _ _).symm.trans H; with_reducible exact H2_) | with_reducible exact H | (rw [hy103]; exact H) | exact H
 have Ny103 := Aside0.mk hy103
 clear hy103
 by_cases c2 : y103.length + l0_0.length < 17592186044416
 ·rw [if_pos c2] at H
  have LMc2 := Aside0.mk c2
  clear c2
  obtain ⟨y106, hy106⟩ : ∃ y_ : List Int, y_ = (y103 ++ l0_0) := ⟨_, rfl⟩
  replace H : ((some (([] : List (S38)) : List (S38))).bind fun y109 => (if y109.length + l0_1.length < 5864062014805 then (some (y106, (y109 ++ l0_1))) else (none))) = some (r1, r2) := by first | (rw [hy106]; with_reducible exact H) | (have H2_ := (Option.bind_some _ _).symm.trans H; rw [hy106]; with_reducible exact H2_) | (have H2_ := (Option.bind_some _ _).symm.trans H; with_reducible exact H2_) | with_reducible exact H | (rw [hy106]; exact H) | exact H
  have Ny106 := Aside0.mk hy106
  clear hy106
  obtain ⟨y109, hy109⟩ : ∃ y_ : List (S38), y_ = (([] : List (S38))) := ⟨_, rfl⟩
  replace H : (if y109.length + l0_1.length < 5864062014805 then (some (y106, (y109 ++ l0_1))) else (none)) = some (r1, r2) := by first | (rw [hy109]; with_reducible exact H) | (have H2_ := (Option.bind_some _ _).symm.trans H; rw [hy109]; with_reducible exact H2_) | (have H2_ := (Option.bind_some _ _).symm.trans H; with_reducible exact H2_) | with_reducible exact H | (rw [hy109]; exact H) | exact H
  have Ny109 := Aside0.mk hy109
  clear hy109
  by_cases c3 : y109.length + l0_1.length < 5864062014805
  ·rw [if_pos c3] at H
   have LMc3 := Aside0.mk c3
   clear c3
   obtain ⟨y112, hy112⟩ : ∃ y_ : List (S38), y_ = (y109 ++ l0_1) := ⟨_, rfl⟩
   replace H : (some (y106, y112)) = some (r1, r2) := by first | (rw [hy112]; with_reducible exact H) | (have H2_ := (Option.bind_some _ _).symm.trans H; rw [hy112]; with_reducible exact H2_) | (have H2_ := (Option.bind_some _ _).symm.trans H; with_reducible exact H2_) | with_reducible exact H | (rw [hy112]; exact H) | exact H
   have Ny112 := Aside0.mk hy112
   clear hy112
   simp only [Option.some.injEq, Prod.mk.injEq] at H
   obtain ⟨rfl, rfl⟩ := H
   go_enter Try.func13, Try.ntmps13
   try go_wp2_with (first | ((with_reducible refine gate_dst (N := 1) rfl ?_); refine box_event ?hg (N := 1) ?hd (cs := #[.slice A0_0 l0_0.length c0_0, .slice A0_1 l0_1.length c0_1]) (t := 25) ?hr ?_; (case hd => rfl); (case hg => rfl); (case hr => first | (go_simp; done) | (go_simp; rfl)); intro Q05 hg w4 hbox hb; have Q00 := Aside0.mk (hbox); have Q0i := Aside0.mk ((by rw [hg]; exact (below_size hB) : w.heap.size ≤ Q05)); have Q0g := Aside0.mk ((by rw [hg]; exact (below_size hB) : w.heap.size ≤ Q05)); replace HB := uH HB hb; clear hb hbox hg) | ((with_reducible refine gate_dst (N := 2) rfl ?_); refine box_event ?hg (N := 2) ?hd (cs := #[.slice none 0 0, .slice none 0 0]) (t := 25) ?hr ?_; (case hd => rfl); (case hg => rfl); (case hr => first | (go_simp; done) | (go_simp; rfl)); intro Q02 hg w5 hbox hb; have Q01 := Aside0.mk (hbox); have Q0j := uS HB hg; have Q0h := uS HB hg; replace HB := uH HB hb; have Q07 := uL Q00 hg; have Q0c := uG Q00 hg; replace Q00 := uB Q00 hb; clear hb hbox hg))
   replace Q00 := Aside0.mk (bD Q00.out)
   replace Q01 := Aside0.mk (bD Q01.out)
   replace HB := Aside0.mk (wD HB.out)
   refine start_ (n := 10) (S := fun w' => w'.cell? ⟨Q05, 0, none⟩ = some (.slice A0_0 l0_0.length c0_0) ∧ w'.cell? ⟨Q05, 1, none⟩ = some (.slice A0_1 l0_1.length c0_1)) (ds := []) #[false, false, false, false, false, false, false, false, false, false] (by kernel_rfl) rfl rfl ⟨(blk_cell Q00.out 0).trans rfl, (blk_cell Q00.out 1).trans rfl⟩ (fun hHeld => ?_); refine with_tabW scarfjointref05_Copied.tab1 scarfjointref05_Copied.bits1 (fun HT_ HW_ => ?_)
   generalize w5.drew = w6 at Q00 Q01 HB hHeld ⊢
   refine pure_ (i := 1) (N := some 4) (v := ?_) (a' := ?_) #[false, true, false, false, false, false, false, false, false, false] rfl rfl (any_of HT_.out (by kernel_rfl)) (fun _ _ _ h => h) (Or.inl ⟨by rfl, ?_⟩) ?_ ?_
   rotate_left
   ·intro w'
    go_simp
    with_reducible rfl
   rotate_left
   ·simp only [Act.put, List.setIfInBounds_toArray, List.set_cons_zero, List.set_cons_succ, i64_w, i32_w]
    rfl
   refine pure_ (i := 5) (N := some 8) (v := ?_) (a' := ?_) #[false, true, false, false, false, true, false, false, false, false] rfl rfl (any_of HT_.out (by kernel_rfl)) (fun _ _ _ h => h) (Or.inl ⟨by rfl, ?_⟩) ?_ ?_
   rotate_left
   ·intro w'
    go_simp
    with_reducible rfl
   rotate_left
   ·simp only [Act.put, List.setIfInBounds_toArray, List.set_cons_zero, List.set_cons_succ, i64_w, i32_w]
    rfl
   refine take_ (i := 2) (N := some 5) (v := ?_) (a' := ?_) #[false, true, true, false, false, true, false, false, false, false] rfl rfl (take_ofW HT_.out HW_.out (by kernel_rfl)) (fun _ _ _ h => h) (Or.inl ⟨by rfl, ?_⟩) hHeld ?_ ?_
   rotate_left
   ·rintro w' ⟨s0, s1⟩
    go_simp
    with_reducible rfl
   rotate_left
   ·simp only [Act.put, List.setIfInBounds_toArray, List.set_cons_zero, List.set_cons_succ, i64_w, i32_w]
    rfl
   refine take_ (i := 6) (N := some 9) (v := ?_) (a' := ?_) #[false, true, true, false, false, true, true, false, false, false] rfl rfl (take_ofW HT_.out HW_.out (by kernel_rfl)) (fun _ _ _ h => h) (Or.inl ⟨by rfl, ?_⟩) hHeld ?_ ?_
   rotate_left
   ·rintro w' ⟨s0, s1⟩
    go_simp
    with_reducible rfl
   rotate_left
   ·simp only [Act.put, List.setIfInBounds_toArray, List.set_cons_zero, List.set_cons_succ, i64_w, i32_w]
    rfl
   refine join_ (σ := Value × Value × Value) 3 #[true, true, true, true, true, true, true, false, false, false] (fun s_ => [(3, s_.1), (6, s_.2.1), (7, s_.2.2)]) (fun s_ w' => (w'.cell? ⟨Q05, 0, none⟩ = some (.slice A0_0 l0_0.length c0_0) ∧ w'.cell? ⟨Q05, 1, none⟩ = some (.slice A0_1 l0_1.length c0_1)) ∧ (Kd.R (Kd.int .i64) 3 w' w.heap.size (fun _ => True) s_.2.1 y106) ∧ (Kd.R k38 38 w' w.heap.size (fun _ => True) s_.2.2 y109) ∧ (w'.heap[Q05]? = some (.cells #[.slice A0_0 l0_0.length c0_0, .slice A0_1 l0_1.length c0_1] 25 (0, 0))) ∧ (w'.heap[Q02]? = some (.cells #[.slice none 0 0, .slice none 0 0] 25 (0, 0))) ∧ (Below w.heap.size w w')) ?_ ?_
   rotate_left
   ·intro hCont
    refine two_ (i := 0) (j := 4) (Ni := some 3) (Nj := some 7) #[true, true, true, false, false, true, true, false, false, false] #[false, true, true, false, true, true, true, false, false, false] rfl rfl rfl rfl (two_of HT_.out (by kernel_rfl)) (by decide) (by decide) (fun K hK => ?_) (fun K hK => ?_)
    ·skip
     refine Kd.R_lit_step (Kd.int .i64) _ 3 ?hg (N := 3) ?hd (xs := ([] : List Int)) (inner := []) (ok := fun _ => True) (okp := fun _ => True) ?hr ?hp (fun _ hk => hk) trivial (Below.refl _ _) (Nat.le_refl _) (by simp) ?_; (case hd => rfl); (case hg => rfl); (case hr => first | (go_simp; done) | (go_simp; rfl)); (case hp => exact (Reps.none _ _))
     intro v104 w7 ho8 hb hg_ hnew_
     clear hg_ hnew_
     (first | rw [← Ny103.out] at ho8 | (simp only [Int.reduceToNat] at ho8; rw [← Ny103.out] at ho8))
     have Q03 := Aside0.mk (Kd.R_lower ho8 (below_size (pH HB)))
     replace Q00 := uB Q00 hb
     replace Q01 := uB Q01 hb
     replace HB := uH HB hb
     clear hb ho8
     refine hK.out _ _ ⟨(blk_cell Q00.out 0).trans rfl, (blk_cell Q00.out 1).trans rfl⟩ (fun hHeld => ?_)
     clear hK K
     refine norm_ (a' := ?_) ?_ ?_
     rotate_left
     ·show Act.put _ (some 3) _ = _
      simp only [Act.put, List.setIfInBounds_toArray, List.set_cons_zero, List.set_cons_succ, i64_w, i32_w]
      rfl
     refine two_ (i := 3) (j := 4) (Ni := some 6) (Nj := some 7) #[true, true, true, true, false, true, true, false, false, false] #[true, true, true, false, true, true, true, false, false, false] rfl rfl rfl rfl (two_of HT_.out (by kernel_rfl)) (by decide) (by decide) (fun K hK => ?_) (fun K hK => ?_)
     ·skip
      refine Kd.R_append_rows_step (Kd.int .i64) (w0 := w) w.heap.size (by rfl) (.tmp 3) (.tmp 5) 22 3 (.int .i64 0) 8 rfl Try.underlying22 info3 rfl (by decide) (by omega) v104 y103 l0_0 _ _ _ (fun _ => True) (fun _ => False) rfl rfl ?aO ?aR (fun _ _ h => h) (fun _ h => h.elim) ?aF ?aB ?aS ?aL ?_
      (case aR => repeat (first | exact (cB HR0_0.out HB.out) | (with_reducible refine cA ?_ _) | (with_reducible refine cN ?_ _) | (with_reducible refine cD ?_)))
      (case aB => exact (pH HB))
      (case aF => exact (fun _ _ => trivial))
      (case aO => exact (pR Q03))
      (case aS => exact (below_size (pH HB)))
      (case aL => have := LMc2.out; omega)
      intro v107 w9 ho hb hg hat
      rw [← Ny106.out] at ho
      replace Q00 := Aside0.mk (bG (g := Q05) (o := .cells #[.slice A0_0 l0_0.length c0_0, .slice A0_1 l0_1.length c0_1] 25 (0, 0)) (pB Q00) hg (Kd.R_ne Q03.out Q00.out (by decide)))
      replace Q01 := Aside0.mk (bG (g := Q02) (o := .cells #[.slice none 0 0, .slice none 0 0] 25 (0, 0)) (pB Q01) hg (Kd.R_ne Q03.out Q01.out (by decide)))
      replace HB := Aside0.mk (hb)
      have Q06 := Aside0.mk (ho)
      clear Q03
      clear ho hb hg hat
      refine hK.out _ _ ⟨(blk_cell Q00.out 0).trans rfl, (blk_cell Q00.out 1).trans rfl⟩ (fun hHeld => ?_)
      clear hK K
      refine norm_ (a' := ?_) ?_ ?_
      rotate_left
      ·show Act.put _ (some 6) _ = _
       simp only [Act.put, List.setIfInBounds_toArray, List.set_cons_zero, List.set_cons_succ, i64_w, i32_w]
       rfl
      refine one_ (i := 4) (N := some 7) #[true, true, true, true, true, true, true, false, false, false] rfl rfl (one_of HT_.out (by kernel_rfl)) (by decide) (fun K hK => ?_)
      refine Kd.R_lit_step k38 _ 38 ?hg (N := 7) ?hd (xs := ([] : List (S38))) (inner := []) (ok := fun _ => True) (okp := fun _ => True) ?hr ?hp (fun _ hk => hk) trivial (Below.refl _ _) (Nat.le_refl _) (by simp) ?_; (case hd => rfl); (case hg => rfl); (case hr => first | (go_simp; done) | (go_simp; rfl)); (case hp => exact (Reps.none _ _))
      intro v110 w10 ho11 hb hg_ hnew_
      clear hg_ hnew_
      (first | rw [← Ny109.out] at ho11 | (simp only [Int.reduceToNat] at ho11; rw [← Ny109.out] at ho11))
      replace Q06 := uR Q06 hb
      have Q04 := Aside0.mk (Kd.R_lower ho11 (below_size (pH HB)))
      replace Q00 := uB Q00 hb
      replace Q01 := uB Q01 hb
      replace HB := uH HB hb
      clear hb ho11
      refine hK.out _ _ ⟨(blk_cell Q00.out 0).trans rfl, (blk_cell Q00.out 1).trans rfl⟩ (fun hHeld => ?_)
      clear hK K
      refine norm_ (a' := ?_) ?_ ?_
      rotate_left
      ·show Act.put _ (some 7) _ = _
       simp only [Act.put, List.setIfInBounds_toArray, List.set_cons_zero, List.set_cons_succ, i64_w, i32_w]
       rfl
      exact norm_ (by simp only [putAll, Act.put, List.setIfInBounds_toArray, List.set_cons_zero, List.set_cons_succ]) (hCont (v104, v107, v110) _ ⟨hHeld, (pR Q06), (pR Q04), (pB Q00), (pB Q01), (pH HB)⟩)
     ·skip
      refine Kd.R_lit_step k38 _ 38 ?hg (N := 7) ?hd (xs := ([] : List (S38))) (inner := []) (ok := fun _ => True) (okp := fun _ => True) ?hr ?hp (fun _ hk => hk) trivial (Below.refl _ _) (Nat.le_refl _) (by simp) ?_; (case hd => rfl); (case hg => rfl); (case hr => first | (go_simp; done) | (go_simp; rfl)); (case hp => exact (Reps.none _ _))
      intro v110 w9 ho10 hb hg_ hnew_
      clear hg_ hnew_
      (first | rw [← Ny109.out] at ho10 | (simp only [Int.reduceToNat] at ho10; rw [← Ny109.out] at ho10))
      replace Q03 := uR Q03 hb
      have Q04 := Aside0.mk (Kd.R_lower ho10 (below_size (pH HB)))
      replace Q00 := uB Q00 hb
      replace Q01 := uB Q01 hb
      replace HB := uH HB hb
      clear hb ho10
      refine hK.out _ _ ⟨(blk_cell Q00.out 0).trans rfl, (blk_cell Q00.out 1).trans rfl⟩ (fun hHeld => ?_)
      clear hK K
      refine norm_ (a' := ?_) ?_ ?_
      rotate_left
      ·show Act.put _ (some 7) _ = _
       simp only [Act.put, List.setIfInBounds_toArray, List.set_cons_zero, List.set_cons_succ, i64_w, i32_w]
       rfl
      refine one_ (i := 3) (N := some 6) #[true, true, true, true, true, true, true, false, false, false] rfl rfl (one_of HT_.out (by kernel_rfl)) (by decide) (fun K hK => ?_)
      refine Kd.R_append_rows_step (Kd.int .i64) (w0 := w) w.heap.size (by rfl) (.tmp 3) (.tmp 5) 22 3 (.int .i64 0) 8 rfl Try.underlying22 info3 rfl (by decide) (by omega) v104 y103 l0_0 _ _ _ (fun _ => True) (fun _ => False) rfl rfl ?aO ?aR (fun _ _ h => h) (fun _ h => h.elim) ?aF ?aB ?aS ?aL ?_
      (case aR => repeat (first | exact (cB HR0_0.out HB.out) | (with_reducible refine cA ?_ _) | (with_reducible refine cN ?_ _) | (with_reducible refine cD ?_)))
      (case aB => exact (pH HB))
      (case aF => exact (fun _ _ => trivial))
      (case aO => exact (pR Q03))
      (case aS => exact (below_size (pH HB)))
      (case aL => have := LMc2.out; omega)
      intro v107 w11 ho hb hg hat
      rw [← Ny106.out] at ho
      replace Q00 := Aside0.mk (bG (g := Q05) (o := .cells #[.slice A0_0 l0_0.length c0_0, .slice A0_1 l0_1.length c0_1] 25 (0, 0)) (pB Q00) hg (Kd.R_ne Q03.out Q00.out (by decide)))
      replace Q01 := Aside0.mk (bG (g := Q02) (o := .cells #[.slice none 0 0, .slice none 0 0] 25 (0, 0)) (pB Q01) hg (Kd.R_ne Q03.out Q01.out (by decide)))
      replace Q04 := Aside0.mk (Kd.R_over' (pR Q04) (Kd.R_typed (pR Q03)) (by decide) hg)
      replace HB := Aside0.mk (hb)
      have Q06 := Aside0.mk (ho)
      clear Q03
      clear ho hb hg hat
      refine hK.out _ _ ⟨(blk_cell Q00.out 0).trans rfl, (blk_cell Q00.out 1).trans rfl⟩ (fun hHeld => ?_)
      clear hK K
      refine norm_ (a' := ?_) ?_ ?_
      rotate_left
      ·show Act.put _ (some 6) _ = _
       simp only [Act.put, List.setIfInBounds_toArray, List.set_cons_zero, List.set_cons_succ, i64_w, i32_w]
       rfl
      exact norm_ (by simp only [putAll, Act.put, List.setIfInBounds_toArray, List.set_cons_zero, List.set_cons_succ]) (hCont (v104, v107, v110) _ ⟨hHeld, (pR Q06), (pR Q04), (pB Q00), (pB Q01), (pH HB)⟩)
    ·skip
     refine Kd.R_lit_step k38 _ 38 ?hg (N := 7) ?hd (xs := ([] : List (S38))) (inner := []) (ok := fun _ => True) (okp := fun _ => True) ?hr ?hp (fun _ hk => hk) trivial (Below.refl _ _) (Nat.le_refl _) (by simp) ?_; (case hd => rfl); (case hg => rfl); (case hr => first | (go_simp; done) | (go_simp; rfl)); (case hp => exact (Reps.none _ _))
     intro v110 w7 ho8 hb hg_ hnew_
     clear hg_ hnew_
     (first | rw [← Ny109.out] at ho8 | (simp only [Int.reduceToNat] at ho8; rw [← Ny109.out] at ho8))
     have Q04 := Aside0.mk (Kd.R_lower ho8 (below_size (pH HB)))
     replace Q00 := uB Q00 hb
     replace Q01 := uB Q01 hb
     replace HB := uH HB hb
     clear hb ho8
     refine hK.out _ _ ⟨(blk_cell Q00.out 0).trans rfl, (blk_cell Q00.out 1).trans rfl⟩ (fun hHeld => ?_)
     clear hK K
     refine norm_ (a' := ?_) ?_ ?_
     rotate_left
     ·show Act.put _ (some 7) _ = _
      simp only [Act.put, List.setIfInBounds_toArray, List.set_cons_zero, List.set_cons_succ, i64_w, i32_w]
      rfl
     refine one_ (i := 0) (N := some 3) #[true, true, true, false, true, true, true, false, false, false] rfl rfl (one_of HT_.out (by kernel_rfl)) (by decide) (fun K hK => ?_)
     refine Kd.R_lit_step (Kd.int .i64) _ 3 ?hg (N := 3) ?hd (xs := ([] : List Int)) (inner := []) (ok := fun _ => True) (okp := fun _ => True) ?hr ?hp (fun _ hk => hk) trivial (Below.refl _ _) (Nat.le_refl _) (by simp) ?_; (case hd => rfl); (case hg => rfl); (case hr => first | (go_simp; done) | (go_simp; rfl)); (case hp => exact (Reps.none _ _))
     intro v104 w9 ho10 hb hg_ hnew_
     clear hg_ hnew_
     (first | rw [← Ny103.out] at ho10 | (simp only [Int.reduceToNat] at ho10; rw [← Ny103.out] at ho10))
     replace Q04 := uR Q04 hb
     have Q03 := Aside0.mk (Kd.R_lower ho10 (below_size (pH HB)))
     replace Q00 := uB Q00 hb
     replace Q01 := uB Q01 hb
     replace HB := uH HB hb
     clear hb ho10
     refine hK.out _ _ ⟨(blk_cell Q00.out 0).trans rfl, (blk_cell Q00.out 1).trans rfl⟩ (fun hHeld => ?_)
     clear hK K
     refine norm_ (a' := ?_) ?_ ?_
     rotate_left
     ·show Act.put _ (some 3) _ = _
      simp only [Act.put, List.setIfInBounds_toArray, List.set_cons_zero, List.set_cons_succ, i64_w, i32_w]
      rfl
     refine one_ (i := 3) (N := some 6) #[true, true, true, true, true, true, true, false, false, false] rfl rfl (one_of HT_.out (by kernel_rfl)) (by decide) (fun K hK => ?_)
     refine Kd.R_append_rows_step (Kd.int .i64) (w0 := w) w.heap.size (by rfl) (.tmp 3) (.tmp 5) 22 3 (.int .i64 0) 8 rfl Try.underlying22 info3 rfl (by decide) (by omega) v104 y103 l0_0 _ _ _ (fun _ => True) (fun _ => False) rfl rfl ?aO ?aR (fun _ _ h => h) (fun _ h => h.elim) ?aF ?aB ?aS ?aL ?_
     (case aR => repeat (first | exact (cB HR0_0.out HB.out) | (with_reducible refine cA ?_ _) | (with_reducible refine cN ?_ _) | (with_reducible refine cD ?_)))
     (case aB => exact (pH HB))
     (case aF => exact (fun _ _ => trivial))
     (case aO => exact (pR Q03))
     (case aS => exact (below_size (pH HB)))
     (case aL => have := LMc2.out; omega)
     intro v107 w11 ho hb hg hat
     rw [← Ny106.out] at ho
     replace Q00 := Aside0.mk (bG (g := Q05) (o := .cells #[.slice A0_0 l0_0.length c0_0, .slice A0_1 l0_1.length c0_1] 25 (0, 0)) (pB Q00) hg (Kd.R_ne Q03.out Q00.out (by decide)))
     replace Q01 := Aside0.mk (bG (g := Q02) (o := .cells #[.slice none 0 0, .slice none 0 0] 25 (0, 0)) (pB Q01) hg (Kd.R_ne Q03.out Q01.out (by decide)))
     replace Q04 := Aside0.mk (Kd.R_over' (pR Q04) (Kd.R_typed (pR Q03)) (by decide) hg)
     replace HB := Aside0.mk (hb)
     have Q06 := Aside0.mk (ho)
     clear Q03
     clear ho hb hg hat
     refine hK.out _ _ ⟨(blk_cell Q00.out 0).trans rfl, (blk_cell Q00.out 1).trans rfl⟩ (fun hHeld => ?_)
     clear hK K
     refine norm_ (a' := ?_) ?_ ?_
     rotate_left
     ·show Act.put _ (some 6) _ = _
      simp only [Act.put, List.setIfInBounds_toArray, List.set_cons_zero, List.set_cons_succ, i64_w, i32_w]
      rfl
     exact norm_ (by simp only [putAll, Act.put, List.setIfInBounds_toArray, List.set_cons_zero, List.set_cons_succ]) (hCont (v104, v107, v110) _ ⟨hHeld, (pR Q06), (pR Q04), (pB Q00), (pB Q01), (pH HB)⟩)
   rintro ⟨v104, v107, v110⟩ w12 ⟨hS_, h0_, h1_, h2_, h3_, h4_⟩
   have n0_ : Aside0 (Kd.R (Kd.int .i64) 3 w12 w.heap.size (fun _ => True) v107 y106) := ⟨h0_⟩
   have n1_ : Aside0 (Kd.R k38 38 w12 w.heap.size (fun _ => True) v110 y109) := ⟨h1_⟩
   have n2_ : Aside0 (w12.heap[Q05]? = some (.cells #[.slice A0_0 l0_0.length c0_0, .slice A0_1 l0_1.length c0_1] 25 (0, 0))) := ⟨h2_⟩
   have n3_ : Aside0 (w12.heap[Q02]? = some (.cells #[.slice none 0 0, .slice none 0 0] 25 (0, 0))) := ⟨h3_⟩
   have n4_ : Aside0 (Below w.heap.size w w12) := ⟨h4_⟩
   clear Q00
   clear Q01
   clear HB
   clear h0_ h1_ h2_ h3_ h4_
   have Q06 := n0_
   have Q04 := n1_
   have Q00 := n2_
   have Q01 := n3_
   have HB := n4_
   clear n0_ n1_ n2_ n3_ n4_
   have hHeld : w12.cell? ⟨Q05, 0, none⟩ = some (.slice A0_0 l0_0.length c0_0) ∧ w12.cell? ⟨Q05, 1, none⟩ = some (.slice A0_1 l0_1.length c0_1) := hS_
   refine norm_ (a' := ?_) ?_ ?_
   rotate_left
   ·simp only [putAll, Act.put, List.setIfInBounds_toArray, List.set_cons_zero, List.set_cons_succ]
    rfl
   refine one_ (i := 7) (N := some 10) #[true, true, true, true, true, true, true, true, false, false] rfl rfl (one_of HT_.out (by kernel_rfl)) (by decide) (fun K hK => ?_)
   refine Kd.R_append_rows_step k38 (w0 := w) w.heap.size (by rfl) (.tmp 7) (.tmp 9) 23 38 (.agg #[(.int .i64 0), (.int .i64 0), (.int .i64 0)]) 24 rfl Try.underlying23 info38 rfl (by decide) (by omega) v110 y109 l0_1 _ _ _ (fun _ => True) (fun _ => False) rfl rfl ?aO ?aR (fun _ _ h => h) (fun _ h => h.elim) ?aF ?aB ?aS ?aL ?_
   (case aR => repeat (first | exact (cB HR0_1.out HB.out) | (with_reducible refine cA ?_ _) | (with_reducible refine cN ?_ _) | (with_reducible refine cD ?_)))
   (case aB => exact (pH HB))
   (case aF => exact (fun _ _ => trivial))
   (case aO => exact (pR Q04))
   (case aS => exact (below_size (pH HB)))
   (case aL => have := LMc3.out; omega)
   intro v113 w13 ho hb hg hat
   rw [← Ny112.out] at ho
   replace Q00 := Aside0.mk (bG (g := Q05) (o := .cells #[.slice A0_0 l0_0.length c0_0, .slice A0_1 l0_1.length c0_1] 25 (0, 0)) (pB Q00) hg (Kd.R_ne Q04.out Q00.out (by decide)))
   replace Q01 := Aside0.mk (bG (g := Q02) (o := .cells #[.slice none 0 0, .slice none 0 0] 25 (0, 0)) (pB Q01) hg (Kd.R_ne Q04.out Q01.out (by decide)))
   replace Q06 := Aside0.mk (Kd.R_over' (pR Q06) (Kd.R_typed (pR Q04)) (by decide) hg)
   replace HB := Aside0.mk (hb)
   have Q0d := Aside0.mk (ho)
   clear Q04
   clear ho hb hg hat
   obtain ⟨Q0a, Q0b, Q0e⟩ := Kd.R_slice Q0d.out
   (first | subst Q0e | (injection Q0e with f1_ f2_ f3_; have f4_ := f1_.symm; have f5_ := f3_.symm; clear f1_ f2_ f3_; subst f4_; subst f5_))
   obtain ⟨Q08, Q09, Q0f⟩ := Kd.R_slice Q06.out
   (first | subst Q0f | (injection Q0f with f1_ f2_ f3_; have f4_ := f1_.symm; have f5_ := f3_.symm; clear f1_ f2_ f3_; subst f4_; subst f5_))
   refine hK.out _ _ ⟨(blk_cell Q00.out 0).trans rfl, (blk_cell Q00.out 1).trans rfl⟩ (fun hHeld => ?_)
   clear hK K
   refine norm_ (a' := ?_) ?_ ?_
   rotate_left
   ·show Act.put _ (some 10) _ = _
    simp only [Act.put, List.setIfInBounds_toArray, List.set_cons_zero, List.set_cons_succ, i64_w, i32_w]
    rfl
   refine pure_ (i := 8) (N := some 11) (v := ?_) (a' := ?_) #[true, true, true, true, true, true, true, true, true, false] rfl rfl (any_of HT_.out (by kernel_rfl)) (fun _ _ _ h => h) (Or.inl ⟨by rfl, ?_⟩) ?_ ?_
   rotate_left
   ·intro w'
    go_simp
    with_reducible rfl
   rotate_left
   ·simp only [Act.put, List.setIfInBounds_toArray, List.set_cons_zero, List.set_cons_succ, i64_w, i32_w]
    rfl
   refine one_ (i := 9) (N := none) #[true, true, true, true, true, true, true, true, true, true] rfl rfl (one_of HT_.out (by kernel_rfl)) (by decide) (fun K hK => ?_)
   have Q0k : w13.cell? ⟨Q02, 0, none⟩ = some (.slice none 0 0) := (blk_cell Q01.out 0).trans rfl
   have Q0l := blk_frozen Q01.out 0
   have Q0m := Q07.out
   have Q0n := Q0c.out
   have Q0o : w13.cell? ⟨Q02, 1, none⟩ = some (.slice none 0 0) := (blk_cell Q01.out 1).trans rfl
   have Q0p := blk_frozen Q01.out 1
   have Q0q := Q07.out
   have Q0r := Q0c.out
   refine skip_ (w1 := ?_) (by rfl) rfl ?_ ?_
   rotate_left
   ·go_simp
    rfl
   refine hK.out _ _ ⟨((cell_far (p := ⟨Q02, _, none⟩) Q07.out _).trans (((cell_far (p := ⟨Q02, _, none⟩) Q07.out _).trans (hHeld.1)))), ((cell_far (p := ⟨Q02, _, none⟩) Q07.out _).trans (((cell_far (p := ⟨Q02, _, none⟩) Q07.out _).trans (hHeld.2))))⟩ (fun hHeld => ?_)
   clear hK K
   refine done_ (done_of HT_.out (by kernel_rfl)) ?_
   try go_wp2
   refine bodyPost_ret (results_cell_row rfl _ _ Q02 25 #[.slice Q08 y106.length Q09, .slice Q0a y112.length Q0b] (0, 0) _ rfl (by (with_reducible repeat (first | refine bN ?_ _ | refine bD ?_ | refine bA ?_ _)); refine blk_put (cs := #[.slice Q08 y106.length Q09, .slice none 0 0]) ?_ 1 _ rfl; (with_reducible repeat (first | refine bN ?_ _ | refine bD ?_ | refine bA ?_ _)); refine blk_put (cs := #[.slice none 0 0, .slice none 0 0]) ?_ 0 _ rfl; (with_reducible repeat (first | refine bN ?_ _ | refine bD ?_ | refine bA ?_ _)); exact Q01.out) Try.underlying25 rfl (by kernel_rfl)) rfl ?_
   exact ⟨_, _, by first | rfl | (simp [errW_none, errW_some] <;> rfl) | (simp [*, errW_none, errW_some] <;> rfl), by (with_reducible repeat (first | apply rA | apply rN | apply rD)); exact Kd.R_mono (Kd.R_far (p := ⟨Q02, 1, none⟩) (Kd.R_far (p := ⟨Q02, 0, none⟩) (Kd.R_types Q06.out Q01.out (by decide)) (fun _ hk => hk.2) (.slice Q08 y106.length Q09)) (fun _ hk => hk.2) (.slice Q0a y112.length Q0b)) (fun _ hk => trivial), by (with_reducible repeat (first | apply rA | apply rN | apply rD)); exact Kd.R_mono (Kd.R_far (p := ⟨Q02, 1, none⟩) (Kd.R_far (p := ⟨Q02, 0, none⟩) (Kd.R_types Q0d.out Q01.out (by decide)) (fun _ hk => hk.2) (.slice Q08 y106.length Q09)) (fun _ hk => hk.2) (.slice Q0a y112.length Q0b)) (fun _ hk => trivial), by repeat (first | (with_reducible first | exact HB.out | apply wA | apply wN | apply wD | refine below_set ?_ Q0g.out | refine below_set ?_ Q0h.out) | exact HB.out)⟩
  ·rw [if_neg c3] at H
   exact absurd H (by simp)
 ·rw [if_neg c2] at H
  exact absurd H (by simp)
end Go.Proofs.Ytmbnibonggbjgaa.X

namespace Go.Proofs.Ytmbnibonggbjgaa.X
open Go.RowKit Go.Proofs.YtmbnibonggbjgaaW.PrintWords Go.Proofs.YtmbnibonggbjgaaW.PrintLast Go.Proofs.YtmbnibonggbjgaaW.PrintMore
open Go.Proofs.YtmbnibonggbjgaaW.PrintWords renaming blk_drewN → bN, blk_drew → bD, blk_alloc → bA, below_alloc → wA, pw_below_drewN → wN, below_drew1 → wD, blk_below → bB, below_step → wS, blk_at → bT, blk_grown → bG
open Go.Proofs.YtmbnibonggbjgaaW.PrintWords.Kd renaming R_alloc → rA, R_drewN → rN, R_drew → rD, R_below → rB, R_grown → rG, C_below → cB, C_alloc → cA, C_drewN → cN, C_drew → cD
attribute [local go_sem] max2_int min2_int max_two min_two max_three min_three max_four min_four
set_option linter.unusedVariables false
set_option linter.unusedSimpArgs false
/-! ### scarfjointlaw05_same: function 17 -/
def scarfjointlaw05_same.f (k : Nat) (l0_0 : List Int) (l0_1 : List Int) (l1_0 : List Int) (l1_1 : List Int) : Option (Bool) := (slices_Equal_int_int.f k l0_0 l1_0).bind fun t103 => (if t103 = true then ((slices_Equal_int_int.f k l0_1 l1_1).bind fun t104 => (some t104)) else (some false))
theorem scarfjointlaw05_same.mono : ∀ a0 a1 a2 a3 k, LeO (scarfjointlaw05_same.f k a0 a1 a2 a3) (scarfjointlaw05_same.f (k + 1) a0 a1 a2 a3) := by
 intro a0 a1 a2 a3 k
 unfold scarfjointlaw05_same.f
 repeat' first
   | (with_reducible exact slices_Equal_int_int.mono _ _ _)
   | (with_reducible exact LeO.refl _)
   | (with_reducible exact LeO.none _)
   | (with_reducible refine LeO.ite ?_ ?_)
   | (with_reducible refine LeO.bind ?_ (fun _ => ?_))
   | exact slices_Equal_int_int.mono _ _ _
   | exact LeO.none _
   | refine LeO.ite ?_ ?_
   | refine LeO.bind ?_ (fun _ => ?_)
set_option maxHeartbeats 8000000 in
set_option maxRecDepth 100000 in
theorem scarfjointlaw05_same.calls (k : Nat) (A0_0 : Option Addr) (c0_0 : Nat) (l0_0 : List Int) (A0_1 : Option Addr) (c0_1 : Nat) (l0_1 : List Int) (A1_0 : Option Addr) (c1_0 : Nat) (l1_0 : List Int) (A1_1 : Option Addr) (c1_1 : Nat) (l1_1 : List Int) (r : Bool) (w : World) (hr0_0 : Kd.C (Kd.int .i64) w A0_0 l0_0.length l0_0) (hc0_0 : l0_0.length ≤ c0_0) (hr0_1 : Kd.C (Kd.int .i64) w A0_1 l0_1.length l0_1) (hc0_1 : l0_1.length ≤ c0_1) (hr1_0 : Kd.C (Kd.int .i64) w A1_0 l1_0.length l1_0) (hc1_0 : l1_0.length ≤ c1_0) (hr1_1 : Kd.C (Kd.int .i64) w A1_1 l1_1.length l1_1) (hc1_1 : l1_1.length ≤ c1_1) (h : scarfjointlaw05_same.f k l0_0 l0_1 l1_0 l1_1 = some r) :
  Calls Try.prog 17 #[.agg #[.slice A0_0 l0_0.length c0_0, .slice A0_1 l0_1.length c0_1], .agg #[.slice A1_0 l1_0.length c1_0, .slice A1_1 l1_1.length c1_1]] w fun e w' => e = .returned (.bool r) ∧ Below w.heap.size w w' := by
 have hu29 := Try.underlying29
 have HR0_0 := Aside0.mk hr0_0
 have HC0_0 := Aside0.mk hc0_0
 clear hr0_0 hc0_0
 have HR0_1 := Aside0.mk hr0_1
 have HC0_1 := Aside0.mk hc0_1
 clear hr0_1 hc0_1
 have HR1_0 := Aside0.mk hr1_0
 have HC1_0 := Aside0.mk hc1_0
 clear hr1_0 hc1_0
 have HR1_1 := Aside0.mk hr1_1
 have HC1_1 := Aside0.mk hc1_1
 clear hr1_1 hc1_1
 have HB := Aside0.mk (Below.refl w.heap.size w)
 have H : ((slices_Equal_int_int.f k l0_0 l1_0).bind fun t103 => (if t103 = true then ((slices_Equal_int_int.f k l0_1 l1_1).bind fun t104 => (some t104)) else (some false))) = some r := h
 clear h
 replace H := Option.bind_eq_some_iff.mp H
 obtain ⟨t103, A30, H⟩ := H
 replace H : (if t103 = true then ((slices_Equal_int_int.f k l0_1 l1_1).bind fun t104 => (some t104)) else (some false)) = some r := H
 have A3 := Aside0.mk A30
 clear A30
 by_cases c4 : t103 = true
 ·subst c4
  have H1 : ((slices_Equal_int_int.f k l0_1 l1_1).bind fun t104 => (some t104)) = some r := by rw [if_pos rfl] at H; exact H
  clear H
  have H := H1
  clear H1
  replace H := Option.bind_eq_some_iff.mp H
  obtain ⟨t104, A50, H⟩ := H
  replace H : (some t104) = some r := H
  have A5 := Aside0.mk A50
  clear A50
  obtain rfl := Option.some.inj H
  go_enter Try.func17, Try.ntmps17
  go_wp2_with (first | ((with_reducible refine gate_dst (N := 2) rfl ?_); refine box_event ?hg (N := 2) ?hd (cs := #[.slice A0_0 l0_0.length c0_0, .slice A0_1 l0_1.length c0_1]) (t := 29) ?hr ?_; (case hd => rfl); (case hg => rfl); (case hr => first | (go_simp; done) | (go_simp; rfl)); intro Q01 hg w6 hbox hb; have Q00 := Aside0.mk (hbox); have Q08 := Aside0.mk ((by rw [hg]; exact (below_size hB) : w.heap.size ≤ Q01)); have Q04 := Aside0.mk ((by rw [hg]; exact (below_size hB) : w.heap.size ≤ Q01)); replace HB := uH HB hb; clear hb hbox hg) | ((with_reducible refine gate_dst (N := 3) rfl ?_); refine box_event ?hg (N := 3) ?hd (cs := #[.slice A1_0 l1_0.length c1_0, .slice A1_1 l1_1.length c1_1]) (t := 29) ?hr ?_; (case hd => rfl); (case hg => rfl); (case hr => first | (go_simp; done) | (go_simp; rfl)); intro Q03 hg w7 hbox hb; have Q02 := Aside0.mk (hbox); have Q09 := uS HB hg; have Q05 := uS HB hg; replace HB := uH HB hb; have Q06 := uL Q00 hg; have Q07 := uG Q00 hg; replace Q00 := uB Q00 hb; clear hb hbox hg; have Q0a := Q06.out; have Q0b := Q07.out; have Q0c : w7.cell? ⟨Q01, 0, none⟩ = some (.slice A0_0 l0_0.length c0_0) := (blk_cell Q00.out 0).trans rfl; have Q0d : w7.cell? ⟨Q01, 1, none⟩ = some (.slice A0_1 l0_1.length c0_1) := (blk_cell Q00.out 1).trans rfl; have Q0e := blk_frozen Q00.out 0; have Q0f := blk_frozen Q00.out 1; have Q0g : w7.cell? ⟨Q03, 0, none⟩ = some (.slice A1_0 l1_0.length c1_0) := (blk_cell Q02.out 0).trans rfl; have Q0h : w7.cell? ⟨Q03, 1, none⟩ = some (.slice A1_1 l1_1.length c1_1) := (blk_cell Q02.out 1).trans rfl; have Q0i := blk_frozen Q02.out 0; have Q0j := blk_frozen Q02.out 1) | ((with_reducible refine gate_callee (f := 22) rfl ?_); refine goesL_ (some 9) rfl rfl Try.func22 (by kernel_rfl) rfl #[.slice A0_0 l0_0.length c0_0, .slice A1_0 l1_0.length c1_0] rfl aM ?_; (with_reducible refine (slices_Equal_int_int.calls k _ _ l0_0 _ _ l1_0 true _ ?side1 ?side2 ?side3 ?side4 A3.out).mono ?_); (case side1 => repeat (first | exact (cB HR0_0.out HB.out) | (with_reducible refine cA ?_ _) | (with_reducible refine cN ?_ _) | (with_reducible refine cD ?_))); (case side2 => exact HC0_0.out); (case side3 => repeat (first | exact (cB HR1_0.out HB.out) | (with_reducible refine cA ?_ _) | (with_reducible refine cN ?_ _) | (with_reducible refine cD ?_))); (case side4 => exact HC1_0.out); rintro e w' ⟨rfl, ⟨nd, rfl⟩⟩; refine ⟨_, rfl, ?_⟩) | (go_at_call 22; (with_reducible refine (slices_Equal_int_int.calls k _ _ l0_1 _ _ l1_1 t104 _ ?side1 ?side2 ?side3 ?side4 A5.out).mono ?_); (case side1 => repeat (first | exact (cB HR0_1.out (pH HB)) | (with_reducible refine cA ?_ _) | (with_reducible refine cN ?_ _) | (with_reducible refine cD ?_))); (case side2 => exact HC0_1.out); (case side3 => repeat (first | exact (cB HR1_1.out (pH HB)) | (with_reducible refine cA ?_ _) | (with_reducible refine cN ?_ _) | (with_reducible refine cD ?_))); (case side4 => exact HC1_1.out); rintro e w' ⟨rfl, ⟨nd, rfl⟩⟩))
  go_ret
  exact ⟨by first | rfl | (simp [errW_none, errW_some] <;> rfl) | (simp [*, errW_none, errW_some] <;> rfl), by repeat (first | (with_reducible first | exact HB.out | apply wA | apply wN | apply wD | refine below_set ?_ Q04.out | refine below_set ?_ Q05.out) | exact HB.out)⟩
 ·replace c4 := Bool.eq_false_iff.mpr c4
  subst c4
  have H1 : (some false) = some r := by rw [if_neg (show ¬ (false = true) by decide)] at H; exact H
  clear H
  have H := H1
  clear H1
  obtain rfl := Option.some.inj H
  go_enter Try.func17, Try.ntmps17
  go_wp2_with (first | ((with_reducible refine gate_dst (N := 2) rfl ?_); refine box_event ?hg (N := 2) ?hd (cs := #[.slice A0_0 l0_0.length c0_0, .slice A0_1 l0_1.length c0_1]) (t := 29) ?hr ?_; (case hd => rfl); (case hg => rfl); (case hr => first | (go_simp; done) | (go_simp; rfl)); intro Q01 hg w11 hbox hb; have Q00 := Aside0.mk (hbox); have Q08 := Aside0.mk ((by rw [hg]; exact (below_size hB) : w.heap.size ≤ Q01)); have Q04 := Aside0.mk ((by rw [hg]; exact (below_size hB) : w.heap.size ≤ Q01)); replace HB := uH HB hb; clear hb hbox hg) | ((with_reducible refine gate_dst (N := 3) rfl ?_); refine box_event ?hg (N := 3) ?hd (cs := #[.slice A1_0 l1_0.length c1_0, .slice A1_1 l1_1.length c1_1]) (t := 29) ?hr ?_; (case hd => rfl); (case hg => rfl); (case hr => first | (go_simp; done) | (go_simp; rfl)); intro Q03 hg w12 hbox hb; have Q02 := Aside0.mk (hbox); have Q09 := uS HB hg; have Q05 := uS HB hg; replace HB := uH HB hb; have Q06 := uL Q00 hg; have Q07 := uG Q00 hg; replace Q00 := uB Q00 hb; clear hb hbox hg; have Q0k := Q06.out; have Q0l := Q07.out; have Q0m : w12.cell? ⟨Q01, 0, none⟩ = some (.slice A0_0 l0_0.length c0_0) := (blk_cell Q00.out 0).trans rfl; have Q0n : w12.cell? ⟨Q01, 1, none⟩ = some (.slice A0_1 l0_1.length c0_1) := (blk_cell Q00.out 1).trans rfl; have Q0o := blk_frozen Q00.out 0; have Q0p := blk_frozen Q00.out 1; have Q0q : w12.cell? ⟨Q03, 0, none⟩ = some (.slice A1_0 l1_0.length c1_0) := (blk_cell Q02.out 0).trans rfl; have Q0r : w12.cell? ⟨Q03, 1, none⟩ = some (.slice A1_1 l1_1.length c1_1) := (blk_cell Q02.out 1).trans rfl; have Q0s := blk_frozen Q02.out 0; have Q0t := blk_frozen Q02.out 1) | ((with_reducible refine gate_callee (f := 22) rfl ?_); refine goesL_ (some 9) rfl rfl Try.func22 (by kernel_rfl) rfl #[.slice A0_0 l0_0.length c0_0, .slice A1_0 l1_0.length c1_0] rfl aM ?_; (with_reducible refine (slices_Equal_int_int.calls k _ _ l0_0 _ _ l1_0 false _ ?side1 ?side2 ?side3 ?side4 A3.out).mono ?_); (case side1 => repeat (first | exact (cB HR0_0.out HB.out) | (with_reducible refine cA ?_ _) | (with_reducible refine cN ?_ _) | (with_reducible refine cD ?_))); (case side2 => exact HC0_0.out); (case side3 => repeat (first | exact (cB HR1_0.out HB.out) | (with_reducible refine cA ?_ _) | (with_reducible refine cN ?_ _) | (with_reducible refine cD ?_))); (case side4 => exact HC1_0.out); rintro e w' ⟨rfl, ⟨nd, rfl⟩⟩; refine ⟨_, rfl, ?_⟩))
  go_ret
  exact ⟨by first | rfl | (simp [errW_none, errW_some] <;> rfl) | (simp [*, errW_none, errW_some] <;> rfl), by repeat (first | (with_reducible first | exact HB.out | apply wA | apply wN | apply wD | refine below_set ?_ Q04.out | refine below_set ?_ Q05.out) | exact HB.out)⟩
end Go.Proofs.Ytmbnibonggbjgaa.X

namespace Go.Proofs.Ytmbnibonggbjgaa.X
open Go.RowKit Go.Proofs.YtmbnibonggbjgaaW.PrintWords Go.Proofs.YtmbnibonggbjgaaW.PrintLast Go.Proofs.YtmbnibonggbjgaaW.PrintMore
open Go.Proofs.YtmbnibonggbjgaaW.PrintWords renaming blk_drewN → bN, blk_drew → bD, blk_alloc → bA, below_alloc → wA, pw_below_drewN → wN, below_drew1 → wD, blk_below → bB, below_step → wS, blk_at → bT, blk_grown → bG
open Go.Proofs.YtmbnibonggbjgaaW.PrintWords.Kd renaming R_alloc → rA, R_drewN → rN, R_drew → rD, R_below → rB, R_grown → rG, C_below → cB, C_alloc → cA, C_drewN → cN, C_drew → cD
attribute [local go_sem] max2_int min2_int max_two min_two max_three min_three max_four min_four
set_option linter.unusedVariables false
set_option linter.unusedSimpArgs false
/-! ### api_Edge_46: function 46 -/
def api_Edge_46.f (l0 : List (S38)) : Option ((List (S38))) := (some (([] : List (S38)) : List (S38))).bind fun y101 => (if y101.length + l0.length < 5864062014805 then (some (y101 ++ l0)) else (none))
theorem Kd_C_none46 {α : Type} {d : Kd α} {w : World} {n : Nat} {xs : List α} (h : Kd.C d w none n xs) : xs = [] := by
 have h1 := h.1
 have h2 := h.2.2
 cases n with
 | zero => exact List.eq_nil_of_length_eq_zero h1
 | succ n =>
  obtain ⟨ad, e, _⟩ := h2 (Nat.succ_pos n)
  cases e
set_option maxHeartbeats 8000000 in
set_option maxRecDepth 100000 in
theorem api_Edge_46.calls_some (ad0 : Addr) (c0 : Nat) (l0 : List (S38)) (r : List (S38)) (w : World) (hr0 : Kd.C k38 w (some ad0) l0.length l0) (hc0 : l0.length ≤ c0) (h : api_Edge_46.f l0 = some r) :
  Calls Try.prog 46 #[.slice (some ad0) l0.length c0] w fun e w' => ∃ v0_ : Value, e = .returned (v0_) ∧ Kd.R k38 38 w' w.heap.size (fun _ => True) v0_ r ∧ Below w.heap.size w w' := by
 have hnil_ : ∀ w : World, (binOp .eql 23 (.slice (some ad0) l0.length c0) (.slice none 0 0)).run Try.prog w = .ok (.bool false) w := fun w => Lib.run_eql_slice_nil w 23 38 (some ad0) _ _ _ _ Try.underlying23
 have HR0 := Aside0.mk hr0
 have HC0 := Aside0.mk hc0
 clear hr0 hc0
 have HB := Aside0.mk (Below.refl w.heap.size w)
 have H : ((some (([] : List (S38)) : List (S38))).bind fun y101 => (if y101.length + l0.length < 5864062014805 then (some (y101 ++ l0)) else (none))) = some r := h
 clear h
 obtain ⟨y101, hy101⟩ : ∃ y_ : List (S38), y_ = (([] : List (S38))) := ⟨_, rfl⟩
 replace H : (if y101.length + l0.length < 5864062014805 then (some (y101 ++ l0)) else (none)) = some r := by first | (rw [hy101]; with_reducible exact H) | (have H2_ := (Option.bind_some _ _).symm.trans H; rw [hy101]; with_reducible exact H2_) | (have H2_ := (Option.bind_some _ _).symm.trans H; with_reducible exact H2_) | with_reducible exact H | (rw [hy101]; exact H) | exact H
 have Ny101 := Aside0.mk hy101
 clear hy101
 by_cases c2 : y101.length + l0.length < 5864062014805
 ·rw [if_pos c2] at H
  have LMc2 := Aside0.mk c2
  clear c2
  obtain ⟨y104, hy104⟩ : ∃ y_ : List (S38), y_ = (y101 ++ l0) := ⟨_, rfl⟩
  replace H : (some y104) = some r := by first | (rw [hy104]; with_reducible exact H) | (have H2_ := (Option.bind_some _ _).symm.trans H; rw [hy104]; with_reducible exact H2_) | (have H2_ := (Option.bind_some _ _).symm.trans H; with_reducible exact H2_) | with_reducible exact H | (rw [hy104]; exact H) | exact H
  have Ny104 := Aside0.mk hy104
  clear hy104
  obtain rfl := Option.some.inj H
  go_enter Try.func46, Try.ntmps46
  go_wp2_with (first | ((with_reducible refine gate_dst (N := 5) rfl ?_); refine Kd.R_lit k38 _ 38 ?hg (N := 5) ?hd (xs := ([] : List (S38))) (inner := []) (ok := fun _ => True) (okp := fun _ => True) ?hr ?hp (fun _ hk => hk) trivial (Below.refl _ _) (Nat.le_refl _) (by simp) ?_; (case hd => rfl); (case hg => rfl); (case hr => first | (go_simp; done) | (go_simp; rfl)); (case hp => exact (Reps.none _ _)); intro v102 w3 ho4 hb hg_ hnew_; clear hg_ hnew_; (first | rw [← Ny101.out] at ho4 | (simp only [Int.reduceToNat] at ho4; rw [← Ny101.out] at ho4)); have Q00 := Aside0.mk (Kd.R_lower ho4 (below_size hB)); replace HB := uH HB hb; clear hb ho4) | ((with_reducible refine gate_builtin (b := .append) (xs := #[.tmp 5, .tmp 6]) rfl ?_); at_builtin; refine Kd.R_append_rows k38 (w0 := w) w.heap.size rfl (.tmp 5) (.tmp 6) 23 38 (.agg #[(.int .i64 0), (.int .i64 0), (.int .i64 0)]) 24 rfl Try.underlying23 info38 rfl (by decide) (by omega) v102 y101 l0 _ _ _ (fun _ => True) (fun _ => False) rfl rfl ?aO ?aR (fun _ _ h => h) (fun _ h => h.elim) ?aF ?aB ?aS ?aL ?_; (case aR => repeat (first | exact (cB HR0.out HB.out) | (with_reducible refine cA ?_ _) | (with_reducible refine cN ?_ _) | (with_reducible refine cD ?_))); (case aB => exact hB); (case aF => exact (fun _ _ => trivial)); (case aO => exact (pR Q00)); (case aS => exact (below_size hB)); (case aL => have := LMc2.out; omega); intro v105 w5 ho hb hg hat; rw [← Ny104.out] at ho; replace HB := Aside0.mk (hb); have Q01 := Aside0.mk (ho); clear Q00; clear ho hb hg hat))
  go_ret
  exact ⟨_, by first | rfl | (simp [errW_none, errW_some] <;> rfl) | (simp [*, errW_none, errW_some] <;> rfl), by (with_reducible repeat (first | apply rA | apply rN | apply rD)); exact Q01.out, by repeat (first | (with_reducible first | exact HB.out | apply wA | apply wN | apply wD) | exact HB.out)⟩
 ·rw [if_neg c2] at H
  exact absurd H (by simp)
set_option maxHeartbeats 8000000 in
set_option maxRecDepth 100000 in
theorem api_Edge_46.calls (A0 : Option Addr) (c0 : Nat) (l0 : List (S38)) (r : List (S38)) (w : World) (hr0 : Kd.C k38 w A0 l0.length l0) (hc0 : l0.length ≤ c0) (h : api_Edge_46.f l0 = some r) :
  Calls Try.prog 46 #[.slice A0 l0.length c0] w fun e w' => ∃ v0_ : Value, e = .returned (v0_) ∧ Kd.R k38 38 w' w.heap.size (fun _ => True) v0_ r ∧ Below w.heap.size w w' := by
 cases A0 with
 | some ad0 => exact api_Edge_46.calls_some ad0 c0 l0 r w hr0 hc0 h
 | none =>
  obtain rfl : l0 = [] := Kd_C_none46 hr0
  obtain rfl : r = [] := by
   have h' := h
   simp [api_Edge_46.f] at h'
   first | exact h'.symm | exact h'
  clear h hr0
  have hnil_ : ∀ w : World, (binOp .eql 23 (.slice none 0 c0) (.slice none 0 0)).run Try.prog w = .ok (.bool true) w := fun w => Lib.run_eql_slice_nil w 23 38 none _ _ _ _ Try.underlying23
  go_enter Try.func46, Try.ntmps46
  go_wp2
  go_ret
  exact ⟨_, rfl, Kd.R_nil _ _ _ _ _, Below.refl _ _⟩
end Go.Proofs.Ytmbnibonggbjgaa.X

namespace Go.Proofs.Ytmbnibonggbjgaa.X
open Go.RowKit Go.Proofs.YtmbnibonggbjgaaW.PrintWords Go.Proofs.YtmbnibonggbjgaaW.PrintLast Go.Proofs.YtmbnibonggbjgaaW.PrintMore
open Go.Proofs.YtmbnibonggbjgaaW.PrintWords renaming blk_drewN → bN, blk_drew → bD, blk_alloc → bA, below_alloc → wA, pw_below_drewN → wN, below_drew1 → wD, blk_below → bB, below_step → wS, blk_at → bT, blk_grown → bG
open Go.Proofs.YtmbnibonggbjgaaW.PrintWords.Kd renaming R_alloc → rA, R_drewN → rN, R_drew → rD, R_below → rB, R_grown → rG, C_below → cB, C_alloc → cA, C_drewN → cN, C_drew → cD
attribute [local go_sem] max2_int min2_int max_two min_two max_three min_three max_four min_four
set_option linter.unusedVariables false
set_option linter.unusedSimpArgs false
/-! ### slices_Concat_int_int: function 55 -/
theorem R_empty {α : Type} {d : Kd α} {e : Nat} {w : World} {base : Nat} {ok : Nat → Prop} {g n cap : Nat} {xs : List α} (h : d.R e w base ok (.slice (some ⟨g, 0, none⟩) n cap) xs) : d.R e w base ok (.slice (some ⟨g, 0, none⟩) 0 cap) [] := by
 obtain ⟨h0, inner, ⟨hl, ho⟩, hr⟩ := h
 refine ⟨fun k hk => h0 k hk, [], ⟨by simp, ?_⟩, Reps.none _ _⟩
 rcases ho with ⟨e1, _⟩ | ⟨g', cap', cur, e1, hb, hh, h1, h2, h3, h4⟩
 ·cases e1
 ·cases e1
  exact .inr ⟨g, cap, cur, rfl, hb, hh, Nat.zero_le _, h2, h3, by simp⟩
set_option maxHeartbeats 4000000 in
/-- slices.Grow at nil. -/
theorem Grow62_calls (n : Int) (w : World) (h0 : 0 ≤ n) (hn : n < 17592186044416) :
  Calls Try.prog 62 #[.slice none 0 0, .int .i64 n] w fun e w' => ∃ v : Value, e = .returned v ∧ Kd.R (Kd.int .i64) 3 w' w.heap.size (fun _ => True) v [] ∧ Below w.heap.size w w' := by
 have b0 : decide (n < 0) = false := decide_eq_false (by omega)
 by_cases hz : n = 0
 ·subst hz
  clear h0 hn b0
  go_enter Try.func62, Try.ntmps62
  go_wp2
  go_ret
  exact ⟨_, rfl, Kd.R_nil _ _ _ _ _, Below.refl _ _⟩
 ·have b1 : decide (0 < n) = true := decide_eq_true (by omega)
  have HN := Aside0.mk (show 0 < n ∧ n < 17592186044416 by omega)
  clear hz
  go_enter Try.func62, Try.ntmps62
  go_wp2_with ((with_reducible refine gate_builtin (b := .append) (xs := #[.tmp 20, .tmp 21]) rfl ?_); at_builtin; refine Kd.R_append_zeros (Kd.int .i64) (w0 := w) w.heap.size rfl (.tmp 20) (.tmp 21) 22 3 3 (.int .i64 0) 8 rfl Try.underlying22 Try.underlying3 info3 rfl (by decide) (by omega) (.slice none 0 0) [] 0 (n : Int) (fun _ => True) rfl rfl rfl (fun _ _ => trivial) (Kd.R_nil _ _ _ _ _) h0 (Below.refl _ _) (Nat.le_refl _) (by simp; omega) ?_; intro v1 w1 HR1 hb1 hg hat; obtain ⟨g1, cap1, rfl, hbg, hlt, cells, hc1⟩ := Kd.R_form HR1 (by have := HN.out; simp only [List.nil_append, List.length_replicate]; omega); have HRA := Aside0.mk HR1; have HBA := Aside0.mk hb1; clear HR1 hb1 hg hat hc1 hlt hbg)
  go_ret
  refine ⟨_, rfl, ?_, HBA.out⟩
  exact R_empty HRA.out
theorem at_rows {w : World} {A : Option Addr} {n : Nat} {xs : List (List Int)} (h : Kd.C (Kd.slice 3 (Kd.int .i64)) w A n xs) (i : Int) (h0 : 0 ≤ i) (h1 : i < n) : ∃ ad A0 c0, A = some ad ∧ w.cell? (ad.add i.toNat) = some (.slice A0 (xs.getD i.toNat []).length c0) ∧ (xs.getD i.toNat []).length ≤ c0 ∧ (Kd.int .i64).C w A0 (xs.getD i.toNat []).length (xs.getD i.toNat []) := by
 obtain ⟨ad, c, e, _, hK, hc0⟩ := Kd.C_get h ([] : List Int) i h0 h1
 have hc : ∀ j u, c[j]? = some u → w.cell? (ad.add (i.toNat * 1 + j)) = some u := hc0
 obtain ⟨A0, c0, rfl, l0, g0⟩ := hK
 exact ⟨ad, A0, c0, e, by have hq := hc 0 _ rfl; rwa [Nat.mul_one, Nat.add_zero] at hq, l0, g0⟩
theorem flat_take {l : List (List Int)} {i : Nat} (h : i < l.length) : (l.take (i + 1)).flatten = (l.take i).flatten ++ l.getD i [] := by
 rw [List.take_succ_eq_append_getElem h, List.flatten_append, getD_at _ _ _ h]; simp
theorem flat_le (l : List (List Int)) (i : Nat) : (l.take i).flatten.length ≤ l.flatten.length := by
 have h : l.flatten = (l.take i).flatten ++ (l.drop i).flatten := by rw [← List.flatten_append, List.take_append_drop]
 rw [h, List.length_append]; omega
def slices_Concat_int_int.f (l0 : List (List Int)) : Option (List Int) := if l0.flatten.length < 17592186044416 then some l0.flatten else none
set_option maxHeartbeats 8000000 in
theorem slices_Concat_int_int.calls (A0 : Option Addr) (c0 : Nat) (l0 : List (List Int)) (r : List Int) (w : World) (hr0 : Kd.C (Kd.slice 3 (Kd.int .i64)) w A0 l0.length l0) (hc0 : l0.length ≤ c0) (h : slices_Concat_int_int.f l0 = some r) :
  Calls Try.prog 55 #[.slice A0 l0.length c0] w fun e w' => ∃ v0_ : Value, e = .returned (v0_) ∧ Kd.R (Kd.int .i64) 3 w' w.heap.size (fun _ => True) v0_ r ∧ Below w.heap.size w w' := by
 have HR := Aside0.mk hr0
 have HBIG := Aside0.mk hr0.2.1
 clear hr0 hc0
 unfold slices_Concat_int_int.f at h
 by_cases hl : l0.flatten.length < 17592186044416
 rotate_left
 ·rw [if_neg hl] at h
  exact absurd h (by simp)
 rw [if_pos hl] at h
 have H := Aside0.mk (Option.some.inj h)
 have HL := Aside0.mk hl
 clear h hl
 go_enter Try.func55, Try.ntmps55
 go_wp2
 go_loopg [3, 11] l0.length (fun gg s3 s11 wr => ∃ i s : Int, s3 = .int .i64 s ∧ s11 = .int .i64 i ∧ Aside0 (0 ≤ i ∧ i ≤ (l0.length : Int) ∧ (l0.length : Int) - i ≤ gg ∧ s = ((l0.take i.toNat).flatten.length : Int)) ∧ Drawn0 w wr)
 case atStart => exact ⟨0, 0, rfl, rfl, ⟨by omega, by omega, by omega, by simp⟩, by repeat (first | exact Drawn0.refl _ | apply Drawn0.step)⟩
 case round =>
  obtain ⟨i, s, rfl, rfl, A, ⟨m1, rfl⟩⟩ := hrel
  by_cases hlt : i < (l0.length : Int)
  ·have c3b0 : decide (i < (l0.length : Int)) = true := decide_eq_true hlt
   have p105 : 0 ≤ i := A.out.1
   obtain ⟨ad105, A1, c1, e105, hx105_0, hle, hC1⟩ := at_rows HR.out i p105 hlt
   cases e105
   have q105 := eq_true hlt
   have HI := Aside0.mk (show i.toNat < l0.length by omega)
   have hs := A.out.2.2.2
   have hs1 := flat_take HI.out
   have hs2 := flat_le l0 (i.toNat + 1)
   generalize hel : l0.getD i.toNat [] = el at hx105_0 hle hC1 hs1
   clear hel
   rw [hs1, List.length_append] at hs2
   have hs3 : s + (el.length : Int) < 17592186044416 := by have := HL.out; omega
   have hs4 : 0 ≤ s + (el.length : Int) := by omega
   have hs5 : 0 ≤ s := by omega
   have hw1 : wrap64 (s + (el.length : Int)) = s + (el.length : Int) := by unfold wrap64; omega
   have b1 : decide (s + (el.length : Int) < 0) = false := decide_eq_false (by omega)
   have HS := Aside0.mk (show s + (el.length : Int) = ((l0.take (i.toNat + 1)).flatten.length : Int) by rw [hs1, List.length_append]; omega)
   clear hs hs1 hs2 hlt hle hC1
   have HW1 := Aside0.mk hw1
   clear hw1
   replace p105 := eq_true p105
   go_wp2
   go_roundg (l0.length - (i + 1).toNat)
   case measure => have := A.out; have := of_eq_true q105; omega
   case rel =>
    have q := of_eq_true q105
    have z := of_eq_true p105
    refine ⟨i + 1, s + (el.length : Int), ?_, ?_, ⟨by omega, by omega, by omega, ?_⟩, by repeat (first | exact Drawn0.refl _ | apply Drawn0.step)⟩
    ·first | rfl | rw [HW1.out]
    ·rw [wrap_succ z q HBIG.out]
    ·rw [HS.out, show (i + 1).toNat = i.toNat + 1 by omega]
  ·have c3b0 : decide (i < (l0.length : Int)) = false := decide_eq_false hlt
   obtain rfl : i = (l0.length : Int) := by have := A.out; omega
   have hs := A.out.2.2.2
   rw [Int.toNat_natCast, List.take_length, H.out] at hs
   subst hs
   have HS := Aside0.mk (show (r.length : Int) < 17592186044416 by have := HL.out; rw [H.out] at this; omega)
   clear hlt
   go_wp2_with (go_at_call 62; refine (Grow62_calls (r.length : Int) _ (by omega) HS.out).mono ?_; rintro e w2 ⟨v2, rfl, hr2, hb2⟩; have HV := Aside0.mk (Kd.R_lower hr2 (below_size (show Below w.heap.size w _ by repeat (first | exact Below.refl _ _ | apply wN)))); have HB := Aside0.mk (wS (show Below w.heap.size w _ by repeat (first | exact Below.refl _ _ | apply wN)) hb2); clear hr2 hb2)
   go_loopg [6, 27] l0.length (fun gg s6 s27 wr => ∃ i : Int, s27 = .int .i64 i ∧ Aside0 (0 ≤ i ∧ i ≤ (l0.length : Int) ∧ (l0.length : Int) - i ≤ gg) ∧ Aside0 (Kd.R (Kd.int .i64) 3 wr w.heap.size (fun _ => True) s6 (l0.take i.toNat).flatten) ∧ Aside0 (Below w.heap.size w wr))
   case atStart => exact ⟨0, rfl, ⟨by omega, by omega, by omega⟩, HV, HB⟩
   case round =>
    obtain ⟨i, rfl, B, HV2, HB2⟩ := hrel
    by_cases hlt : i < (l0.length : Int)
    ·have c3b0 : decide (i < (l0.length : Int)) = true := decide_eq_true hlt
     have p105 : 0 ≤ i := B.out.1
     obtain ⟨ad105, A1, c1, e105, hx105_0, hle, hC1⟩ := at_rows (cB HR.out HB2.out) i p105 hlt
     cases e105
     have q105 := eq_true hlt
     have HI := Aside0.mk (show i.toNat < l0.length by omega)
     have hs1 := flat_take HI.out
     have hs2 := flat_le l0 (i.toNat + 1)
     generalize hel : l0.getD i.toNat [] = el at hx105_0 hle hC1 hs1
     clear hel
     have HE := Aside0.mk hs1
     rw [hs1, List.length_append] at hs2
     have HS2 := Aside0.mk hs2
     have HC1 := Aside0.mk hC1
     clear hs1 hs2 hlt hle hC1
     replace p105 := eq_true p105
     go_wp2_with ((with_reducible refine gate_builtin (b := .append) (xs := #[.tmp 31, .tmp 32]) rfl ?_); at_builtin; refine Kd.R_append_row (Value.int .i64) 0 (w0 := w) w.heap.size rfl (.tmp 31) (.tmp 32) 22 3 (.int .i64 0) 8 rfl Try.underlying22 info3 rfl (by omega) u6 ((l0.take i.toNat).flatten) el A1 el.length c1 (fun _ => True) rfl rfl (fun _ _ => trivial) HV2.out HC1.out HB2.out (below_size HB2.out) (by have := HS2.out; have := HL.out; omega) ?_; intro v1 w1 ho hb hg hat; have HV3 := Aside0.mk ho; have HB3 := Aside0.mk hb; clear ho hb hg hat)
     go_roundg (l0.length - (i + 1).toNat)
     case measure => have := B.out; have := of_eq_true q105; omega
     case rel =>
      have q := of_eq_true q105
      have z := of_eq_true p105
      refine ⟨i + 1, ?_, ⟨by omega, by omega, by omega⟩, ⟨?_⟩, HB3⟩
      ·rw [wrap_succ z q HBIG.out]
      ·rw [show (i + 1).toNat = i.toNat + 1 by omega, HE.out]; exact HV3.out
    ·have c3b0 : decide (i < (l0.length : Int)) = false := decide_eq_false hlt
     obtain rfl : i = (l0.length : Int) := by have := B.out; omega
     have hv := HV2.out
     rw [Int.toNat_natCast, List.take_length, H.out] at hv
     have HV3 := Aside0.mk hv
     clear hlt hv
     go_wp2
     go_ret
     exact ⟨_, rfl, HV3.out, HB2.out⟩
end Go.Proofs.Ytmbnibonggbjgaa.X
