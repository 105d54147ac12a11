/- A part of the proof that the law GraphRemove returns true at every input: contracts of the functions that it calls, and lemmas. -/
import Derived.Test.YtmbnibonggbjgaaZGraphRemove4
namespace Go.Proofs.Ytmbnibonggbjgaa.X
open Go.RowKit Go.Proofs.YtmbnibonggbjgaaW.PrintWords Go.Proofs.YtmbnibonggbjgaaW.PrintLast Go.Proofs.YtmbnibonggbjgaaW.PrintMore
open Go.Proofs.YtmbnibonggbjgaaW.PrintWords renaming blk_drewN → bN, blk_drew → bD, blk_alloc → bA, below_alloc → wA, pw_below_drewN → wN, below_drew1 → wD, blk_below → bB, below_step → wS, blk_at → bT, blk_grown → bG
open Go.Proofs.YtmbnibonggbjgaaW.PrintWords.Kd renaming R_alloc → rA, R_drewN → rN, R_drew → rD, R_below → rB, R_grown → rG, C_below → cB, C_alloc → cA, C_drewN → cN, C_drew → cD
attribute [local go_sem] max2_int min2_int max_two min_two max_three min_three max_four min_four
set_option linter.unusedVariables false
set_option linter.unusedSimpArgs false
/-! ### scarfjointref05_Remove: function 15 -/
mutual
def scarfjointref05_Remove.l0 : Nat → Int → List Int → List (S38) → List Int → List Int → List Int → Option (List Int × (List (S38)) × List Int × List Int × Int)
 | 0, _, _, _, _, _, _ => none
 | k + 1, x14, x102000, x102001, x114000, x114001, x115000 => if x14 < (x102000.length : Int) then (if 0 ≤ x14 then (if x14 < (x114000.length : Int) then (if (rd x114000 x14) ≥ 0 then (if x115000.length < 17592186044416 then (scarfjointref05_Remove.l0 k (wrap64 (x14 + 1)) x102000 x102001 x114000 x114001 (x115000 ++ [rd x102000 x14])) else (none)) else (scarfjointref05_Remove.l0 k (wrap64 (x14 + 1)) x102000 x102001 x114000 x114001 x115000)) else (none)) else (none)) else (scarfjointref05_Remove.l1 k 0 x102000 x102001 x114000 x114001 x115000 ([] : List (S38)))
def scarfjointref05_Remove.l1 : Nat → Int → List Int → List (S38) → List Int → List Int → List Int → List (S38) → Option (List Int × (List (S38)) × List Int × List Int × Int)
 | 0, _, _, _, _, _, _, _ => none
 | k + 1, x15, x102000, x102001, x114000, x114001, x115000, x115001 => if x15 < (x102001.length : Int) then (if 0 ≤ x15 then (if x15 < (x114001.length : Int) then (if (rd x114001 x15) < 0 then (scarfjointref05_Remove.l1 k (wrap64 (x15 + 1)) x102000 x102001 x114000 x114001 x115000 x115001) else (if 0 ≤ ((rd_T38 x102001 x15).f1) then (if ((rd_T38 x102001 x15).f1) < (x114000.length : Int) then (if 0 ≤ ((rd_T38 x102001 x15).f2) then (if ((rd_T38 x102001 x15).f2) < (x114000.length : Int) then (if (rd x114000 ((rd_T38 x102001 x15).f1)) < 0 then (scarfjointref05_Remove.j2 k x15 true x102000 x102001 x114000 x114001 x115000 x115001 ((rd_T38 x102001 x15).f0) (rd x114000 ((rd_T38 x102001 x15).f1)) (rd x114000 ((rd_T38 x102001 x15).f2))) else (scarfjointref05_Remove.j2 k x15 (decide ((rd x114000 ((rd_T38 x102001 x15).f2)) < 0)) x102000 x102001 x114000 x114001 x115000 x115001 ((rd_T38 x102001 x15).f0) (rd x114000 ((rd_T38 x102001 x15).f1)) (rd x114000 ((rd_T38 x102001 x15).f2)))) else (none)) else (none)) else (none)) else (none))) else (none)) else (none)) else (some (x115000, x115001, x114000, x114001, 0))
def scarfjointref05_Remove.j2 : Nat → Int → Bool → List Int → List (S38) → List Int → List Int → List Int → List (S38) → Int → Int → Int → Option (List Int × (List (S38)) × List Int × List Int × Int)
 | 0, _, _, _, _, _, _, _, _, _, _, _ => none
 | k + 1, x15, x125, x102000, x102001, x114000, x114001, x115000, x115001, x127000, x127001, x127002 => if x125 = true then (some (([] : List Int), ([] : List (S38)), ([] : List Int), ([] : List Int), 14)) else (if x115001.length < 5864062014805 then (scarfjointref05_Remove.l1 k (wrap64 (x15 + 1)) x102000 x102001 x114000 x114001 x115000 (x115001 ++ [(⟨x127000, x127001, x127002⟩ : S38)])) else (none))
end
def scarfjointref05_Remove.f (k : Nat) (l0_0 : List Int) (l0_1 : List (S38)) (l1 : List Int) (l2 : List Int) : Option (List Int × (List (S38)) × List Int × List Int × Int) := (scarfjointref05_Valid.f k l0_0 l0_1).bind fun t104 => (if t104 = 0 then ((scarfjointref05_ascending.f k l1 (l0_0.length : Int)).bind fun t105 => (if t105 = 0 then ((scarfjointref05_ascending.f k l2 (l0_1.length : Int)).bind fun t106 => (if t106 = 0 then ((scarfjointref05_places.f k (l0_0.length : Int) l1).bind fun t107 => ((scarfjointref05_places.f k (l0_1.length : Int) l2).bind fun t110 => (scarfjointref05_Remove.l0 k 0 l0_0 l0_1 t107 t110 ([] : List Int)))) else (some (([] : List Int), ([] : List (S38)), ([] : List Int), ([] : List Int), t106)))) else (some (([] : List Int), ([] : List (S38)), ([] : List Int), ([] : List Int), t105)))) else (some (([] : List Int), ([] : List (S38)), ([] : List Int), ([] : List Int), t104)))
theorem scarfjointref05_Remove.mono_l : ∀ k, (∀ y0 y1 y2 y3 y4 y5, LeO (scarfjointref05_Remove.l0 k y0 y1 y2 y3 y4 y5) (scarfjointref05_Remove.l0 (k + 1) y0 y1 y2 y3 y4 y5)) ∧ (∀ y0 y1 y2 y3 y4 y5 y6, LeO (scarfjointref05_Remove.l1 k y0 y1 y2 y3 y4 y5 y6) (scarfjointref05_Remove.l1 (k + 1) y0 y1 y2 y3 y4 y5 y6)) ∧ (∀ y0 y1 y2 y3 y4 y5 y6 y7 y8 y9 y10, LeO (scarfjointref05_Remove.j2 k y0 y1 y2 y3 y4 y5 y6 y7 y8 y9 y10) (scarfjointref05_Remove.j2 (k + 1) y0 y1 y2 y3 y4 y5 y6 y7 y8 y9 y10))
 | 0 => ⟨fun _ _ _ _ _ _ r h => by simp [scarfjointref05_Remove.l0] at h, fun _ _ _ _ _ _ _ r h => by simp [scarfjointref05_Remove.l1] at h, fun _ _ _ _ _ _ _ _ _ _ _ r h => by simp [scarfjointref05_Remove.j2] at h⟩
 | k + 1 => by
  obtain ⟨ih0, ih1, ih2⟩ := scarfjointref05_Remove.mono_l k
  refine ⟨?_, ?_, ?_⟩
  ·intro y0 y1 y2 y3 y4 y5
   unfold scarfjointref05_Remove.l0
   repeat' first
   | (with_reducible exact ih0 _ _ _ _ _ _)
   | (with_reducible exact ih1 _ _ _ _ _ _ _)
   | (with_reducible exact ih2 _ _ _ _ _ _ _ _ _ _ _)
   | (with_reducible exact scarfjointref05_Valid.mono _ _ _)
   | (with_reducible exact scarfjointref05_ascending.mono _ _ _)
   | (with_reducible exact scarfjointref05_places.mono _ _ _)
   | (with_reducible exact LeO.refl _)
   | (with_reducible exact LeO.none _)
   | (with_reducible refine LeO.ite ?_ ?_)
   | (with_reducible refine LeO.bind ?_ (fun _ => ?_))
   | exact ih0 _ _ _ _ _ _
   | exact ih1 _ _ _ _ _ _ _
   | exact ih2 _ _ _ _ _ _ _ _ _ _ _
   | exact scarfjointref05_Valid.mono _ _ _
   | exact scarfjointref05_ascending.mono _ _ _
   | exact scarfjointref05_places.mono _ _ _
   | exact LeO.none _
   | refine LeO.ite ?_ ?_
   | refine LeO.bind ?_ (fun _ => ?_)
  ·intro y0 y1 y2 y3 y4 y5 y6
   unfold scarfjointref05_Remove.l1
   repeat' first
   | (with_reducible exact ih0 _ _ _ _ _ _)
   | (with_reducible exact ih1 _ _ _ _ _ _ _)
   | (with_reducible exact ih2 _ _ _ _ _ _ _ _ _ _ _)
   | (with_reducible exact scarfjointref05_Valid.mono _ _ _)
   | (with_reducible exact scarfjointref05_ascending.mono _ _ _)
   | (with_reducible exact scarfjointref05_places.mono _ _ _)
   | (with_reducible exact LeO.refl _)
   | (with_reducible exact LeO.none _)
   | (with_reducible refine LeO.ite ?_ ?_)
   | (with_reducible refine LeO.bind ?_ (fun _ => ?_))
   | exact ih0 _ _ _ _ _ _
   | exact ih1 _ _ _ _ _ _ _
   | exact ih2 _ _ _ _ _ _ _ _ _ _ _
   | exact scarfjointref05_Valid.mono _ _ _
   | exact scarfjointref05_ascending.mono _ _ _
   | exact scarfjointref05_places.mono _ _ _
   | exact LeO.none _
   | refine LeO.ite ?_ ?_
   | refine LeO.bind ?_ (fun _ => ?_)
  ·intro y0 y1 y2 y3 y4 y5 y6 y7 y8 y9 y10
   unfold scarfjointref05_Remove.j2
   repeat' first
   | (with_reducible exact ih0 _ _ _ _ _ _)
   | (with_reducible exact ih1 _ _ _ _ _ _ _)
   | (with_reducible exact ih2 _ _ _ _ _ _ _ _ _ _ _)
   | (with_reducible exact scarfjointref05_Valid.mono _ _ _)
   | (with_reducible exact scarfjointref05_ascending.mono _ _ _)
   | (with_reducible exact scarfjointref05_places.mono _ _ _)
   | (with_reducible exact LeO.refl _)
   | (with_reducible exact LeO.none _)
   | (with_reducible refine LeO.ite ?_ ?_)
   | (with_reducible refine LeO.bind ?_ (fun _ => ?_))
   | exact ih0 _ _ _ _ _ _
   | exact ih1 _ _ _ _ _ _ _
   | exact ih2 _ _ _ _ _ _ _ _ _ _ _
   | exact scarfjointref05_Valid.mono _ _ _
   | exact scarfjointref05_ascending.mono _ _ _
   | exact scarfjointref05_places.mono _ _ _
   | exact LeO.none _
   | refine LeO.ite ?_ ?_
   | refine LeO.bind ?_ (fun _ => ?_)
theorem scarfjointref05_Remove.mono : ∀ a0 a1 a2 a3 k, LeO (scarfjointref05_Remove.f k a0 a1 a2 a3) (scarfjointref05_Remove.f (k + 1) a0 a1 a2 a3) := by
 intro a0 a1 a2 a3 k
 obtain ⟨ih0, ih1, ih2⟩ := scarfjointref05_Remove.mono_l k
 unfold scarfjointref05_Remove.f
 repeat' first
   | (with_reducible exact ih0 _ _ _ _ _ _)
   | (with_reducible exact ih1 _ _ _ _ _ _ _)
   | (with_reducible exact ih2 _ _ _ _ _ _ _ _ _ _ _)
   | (with_reducible exact scarfjointref05_Valid.mono _ _ _)
   | (with_reducible exact scarfjointref05_ascending.mono _ _ _)
   | (with_reducible exact scarfjointref05_places.mono _ _ _)
   | (with_reducible exact LeO.refl _)
   | (with_reducible exact LeO.none _)
   | (with_reducible refine LeO.ite ?_ ?_)
   | (with_reducible refine LeO.bind ?_ (fun _ => ?_))
   | exact ih0 _ _ _ _ _ _
   | exact ih1 _ _ _ _ _ _ _
   | exact ih2 _ _ _ _ _ _ _ _ _ _ _
   | exact scarfjointref05_Valid.mono _ _ _
   | exact scarfjointref05_ascending.mono _ _ _
   | exact scarfjointref05_places.mono _ _ _
   | exact LeO.none _
   | refine LeO.ite ?_ ?_
   | refine LeO.bind ?_ (fun _ => ?_)
def scarfjointref05_Remove.T10 : Bool × List (List Nat × List Nat) := (true, [([], []), ([0], [0]), ([1], [1]), ([], []), ([2, 3], [2, 3]), ([], []), ([5], [5]), ([6], [6]), ([], []), ([7, 8, 4], [7, 8]), ([4, 9], [4, 9]), ([], []), ([11, 10, 9, 0, 1, 2, 3, 4, 5, 6, 7, 8, 9, 10, 11], [10, 11])])
def scarfjointref05_Remove.B10 : List Nat := [0, 1, 3, 0, 15, 0, 32, 96, 0, 511, 1023, 0, 4095]
theorem scarfjointref05_Remove.tab10 : rtab .any (opsOf Try.f15 10) = scarfjointref05_Remove.T10 := by kernel_rfl
theorem scarfjointref05_Remove.bits10 : waitsOk scarfjointref05_Remove.T10.2 scarfjointref05_Remove.B10 = true := by kernel_rfl
def scarfjointref05_Remove.T16 : Bool × List (List Nat × List Nat) := (true, [([], []), ([0], [0]), ([], []), ([2], [2]), ([], []), ([3, 4], [3, 4]), ([5], [5]), ([6], [6]), ([1, 7], [1, 7]), ([0, 1, 2, 3, 4, 5, 6, 7, 8], []), ([9, 8, 8, 0, 1, 2, 3, 4, 5, 6, 7, 8], [8, 9])])
def scarfjointref05_Remove.B16 : List Nat := [0, 1, 0, 4, 0, 28, 60, 124, 255, 511, 1023]
theorem scarfjointref05_Remove.tab16 : rtab .any (opsOf Try.f15 16) = scarfjointref05_Remove.T16 := by kernel_rfl
theorem scarfjointref05_Remove.bits16 : waitsOk scarfjointref05_Remove.T16.2 scarfjointref05_Remove.B16 = true := by kernel_rfl
def scarfjointref05_Remove.T21 : Bool × List (List Nat × List Nat) := (true, [([], []), ([0], [0]), ([], []), ([1, 2], [1, 2]), ([3], [3]), ([4], [4]), ([], []), ([6], [6]), ([], []), ([8], [8]), ([], []), ([9, 10], [9, 10]), ([11], [11]), ([12], [12]), ([7, 13], [7, 13]), ([14], [14]), ([], []), ([16], [16]), ([], []), ([18], [18]), ([], []), ([19, 20], [19, 20]), ([21], [21]), ([22], [22]), ([17, 23], [17, 23]), ([24], [24]), ([5, 15, 25], [5, 15, 25]), ([], []), ([27, 26, 0, 1, 2, 3, 4, 5, 6, 7, 8, 9, 10, 11, 12, 13, 14, 15, 16, 17, 18, 19, 20, 21, 22, 23, 24, 25, 26, 27], [26, 27])])
def scarfjointref05_Remove.B21 : List Nat := [0, 1, 0, 7, 15, 31, 0, 64, 0, 256, 0, 1792, 3840, 7936, 16320, 32704, 0, 65536, 0, 262144, 0, 1835008, 3932160, 8126464, 16711680, 33488896, 67108863, 0, 268435455]
theorem scarfjointref05_Remove.tab21 : rtab .any (opsOf Try.f15 21) = scarfjointref05_Remove.T21 := by kernel_rfl
theorem scarfjointref05_Remove.bits21 : waitsOk scarfjointref05_Remove.T21.2 scarfjointref05_Remove.B21 = true := by kernel_rfl
set_option maxHeartbeats 8000000 in
set_option maxRecDepth 100000 in
theorem scarfjointref05_Remove.calls (k : Nat) (A0_0 : Option Addr) (c0_0 : Nat) (l0_0 : List Int) (A0_1 : Option Addr) (c0_1 : Nat) (l0_1 : List (S38)) (A1 : Option Addr) (c1 : Nat) (l1 : List Int) (A2 : Option Addr) (c2 : Nat) (l2 : List Int) (r1 : List Int) (r2 : List (S38)) (r3 : List Int) (r4 : List Int) (r5 : Int) (w : World) (hr0_0 : Kd.C (Kd.int .i64) w A0_0 l0_0.length l0_0) (hc0_0 : l0_0.length ≤ c0_0) (hr0_1 : Kd.C k38 w A0_1 l0_1.length l0_1) (hc0_1 : l0_1.length ≤ c0_1) (hr1 : Kd.C (Kd.int .i64) w A1 l1.length l1) (hc1 : l1.length ≤ c1) (hr2 : Kd.C (Kd.int .i64) w A2 l2.length l2) (hc2 : l2.length ≤ c2) (h : scarfjointref05_Remove.f k l0_0 l0_1 l1 l2 = some (r1, r2, r3, r4, r5)) :
  Calls Try.prog 15 #[.agg #[.slice A0_0 l0_0.length c0_0, .slice A0_1 l0_1.length c0_1], .slice A1 l1.length c1, .slice A2 l2.length c2] w fun e w' => ∃ v0_ v1_ v2_ v3_ : Value, e = .returned (.tuple #[.agg #[v0_, v1_], .agg #[v2_, v3_], .int .i64 r5]) ∧ Kd.R (Kd.int .i64) 3 w' w.heap.size (fun k_ => some k_ ≠ (v2_ : Value).ownBlock ∧ some k_ ≠ (v3_ : Value).ownBlock) v0_ r1 ∧ Kd.R k38 38 w' w.heap.size (fun _ => True) v1_ r2 ∧ Kd.R (Kd.int .i64) 3 w' w.heap.size (fun k_ => some k_ ≠ (v0_ : Value).ownBlock ∧ some k_ ≠ (v3_ : Value).ownBlock) v2_ r3 ∧ Kd.R (Kd.int .i64) 3 w' w.heap.size (fun k_ => some k_ ≠ (v0_ : Value).ownBlock ∧ some k_ ≠ (v2_ : Value).ownBlock) v3_ r4 ∧ Below w.heap.size w w' := by
 have hu25 := Try.underlying25
 have hu29 := Try.underlying29
 have hu38 := Try.underlying38
 have HR0_0 := Aside0.mk hr0_0
 have HC0_0 := Aside0.mk hc0_0
 clear hr0_0 hc0_0
 have HR0_1 := Aside0.mk hr0_1
 have HC0_1 := Aside0.mk hc0_1
 clear hr0_1 hc0_1
 have HR1 := Aside0.mk hr1
 have HC1 := Aside0.mk hc1
 clear hr1 hc1
 have HR2 := Aside0.mk hr2
 have HC2 := Aside0.mk hc2
 clear hr2 hc2
 have HB := Aside0.mk (Below.refl w.heap.size w)
 have H : ((scarfjointref05_Valid.f k l0_0 l0_1).bind fun t104 => (if t104 = 0 then ((scarfjointref05_ascending.f k l1 (l0_0.length : Int)).bind fun t105 => (if t105 = 0 then ((scarfjointref05_ascending.f k l2 (l0_1.length : Int)).bind fun t106 => (if t106 = 0 then ((scarfjointref05_places.f k (l0_0.length : Int) l1).bind fun t107 => ((scarfjointref05_places.f k (l0_1.length : Int) l2).bind fun t110 => (scarfjointref05_Remove.l0 k 0 l0_0 l0_1 t107 t110 ([] : List Int)))) else (some (([] : List Int), ([] : List (S38)), ([] : List Int), ([] : List Int), t106)))) else (some (([] : List Int), ([] : List (S38)), ([] : List Int), ([] : List Int), t105)))) else (some (([] : List Int), ([] : List (S38)), ([] : List Int), ([] : List Int), t104)))) = some (r1, r2, r3, r4, r5) := h
 clear h
 replace H := Option.bind_eq_some_iff.mp H
 obtain ⟨t104, A40, H⟩ := H
 replace H : (if t104 = 0 then ((scarfjointref05_ascending.f k l1 (l0_0.length : Int)).bind fun t105 => (if t105 = 0 then ((scarfjointref05_ascending.f k l2 (l0_1.length : Int)).bind fun t106 => (if t106 = 0 then ((scarfjointref05_places.f k (l0_0.length : Int) l1).bind fun t107 => ((scarfjointref05_places.f k (l0_1.length : Int) l2).bind fun t110 => (scarfjointref05_Remove.l0 k 0 l0_0 l0_1 t107 t110 ([] : List Int)))) else (some (([] : List Int), ([] : List (S38)), ([] : List Int), ([] : List Int), t106)))) else (some (([] : List Int), ([] : List (S38)), ([] : List Int), ([] : List Int), t105)))) else (some (([] : List Int), ([] : List (S38)), ([] : List Int), ([] : List Int), t104))) = some (r1, r2, r3, r4, r5) := H
 have A4 := Aside0.mk A40
 clear A40
 by_cases c5 : t104 = 0
 ·rw [if_pos c5] at H
  have c5b0 : (t104 == 0) = true := beq_iff_eq.mpr c5
  have c5b1 : (t104 != 0) = false := bne_eq_false_iff_eq.mpr c5
  clear c5
  replace H := Option.bind_eq_some_iff.mp H
  obtain ⟨t105, A60, H⟩ := H
  replace H : (if t105 = 0 then ((scarfjointref05_ascending.f k l2 (l0_1.length : Int)).bind fun t106 => (if t106 = 0 then ((scarfjointref05_places.f k (l0_0.length : Int) l1).bind fun t107 => ((scarfjointref05_places.f k (l0_1.length : Int) l2).bind fun t110 => (scarfjointref05_Remove.l0 k 0 l0_0 l0_1 t107 t110 ([] : List Int)))) else (some (([] : List Int), ([] : List (S38)), ([] : List Int), ([] : List Int), t106)))) else (some (([] : List Int), ([] : List (S38)), ([] : List Int), ([] : List Int), t105))) = some (r1, r2, r3, r4, r5) := H
  have A6 := Aside0.mk A60
  clear A60
  by_cases c7 : t105 = 0
  ·rw [if_pos c7] at H
   have c7b0 : (t105 == 0) = true := beq_iff_eq.mpr c7
   have c7b1 : (t105 != 0) = false := bne_eq_false_iff_eq.mpr c7
   clear c7
   replace H := Option.bind_eq_some_iff.mp H
   obtain ⟨t106, A80, H⟩ := H
   replace H : (if t106 = 0 then ((scarfjointref05_places.f k (l0_0.length : Int) l1).bind fun t107 => ((scarfjointref05_places.f k (l0_1.length : Int) l2).bind fun t110 => (scarfjointref05_Remove.l0 k 0 l0_0 l0_1 t107 t110 ([] : List Int)))) else (some (([] : List Int), ([] : List (S38)), ([] : List Int), ([] : List Int), t106))) = some (r1, r2, r3, r4, r5) := H
   have A8 := Aside0.mk A80
   clear A80
   by_cases c9 : t106 = 0
   ·rw [if_pos c9] at H
    have c9b0 : (t106 == 0) = true := beq_iff_eq.mpr c9
    have c9b1 : (t106 != 0) = false := bne_eq_false_iff_eq.mpr c9
    clear c9
    replace H := Option.bind_eq_some_iff.mp H
    obtain ⟨t107, A100, H⟩ := H
    replace H : ((scarfjointref05_places.f k (l0_1.length : Int) l2).bind fun t110 => (scarfjointref05_Remove.l0 k 0 l0_0 l0_1 t107 t110 ([] : List Int))) = some (r1, r2, r3, r4, r5) := H
    have A10 := Aside0.mk A100
    clear A100
    replace H := Option.bind_eq_some_iff.mp H
    obtain ⟨t110, A110, H⟩ := H
    replace H : (scarfjointref05_Remove.l0 k 0 l0_0 l0_1 t107 t110 ([] : List Int)) = some (r1, r2, r3, r4, r5) := H
    have A11 := Aside0.mk A110
    clear A110
    have H' := Aside0.mk H
    clear H
    go_enter Try.func15, Try.ntmps15
    try go_wp2_with (first | ((with_reducible refine gate_dst (N := 3) rfl ?_); refine box_event ?hg (N := 3) ?hd (cs := #[.slice A0_0 l0_0.length c0_0, .slice A0_1 l0_1.length c0_1]) (t := 25) ?hr ?_; (case hd => rfl); (case hg => rfl); (case hr => first | (go_simp; done) | (go_simp; rfl)); intro gb101 hg w12 hbox hb; have n0_ := Aside0.mk (wS hB hb); have n1_ := Aside0.mk (hbox); have n2_ := Aside0.mk ((by rw [hg]; exact (below_size hB) : w.heap.size ≤ gb101)); have n3_ := Aside0.mk ((by rw [hg]; exact (below_size hB) : w.heap.size ≤ gb101)); clear HB; have HB := n0_; have BK101 := n1_; have GW101 := n2_; have GE101 := n3_; clear n0_ n1_ n2_ n3_; clear hb hbox hg) | ((with_reducible refine gate_dst (N := 6) rfl ?_); refine box_event ?hg (N := 6) ?hd (cs := #[.slice none 0 0, .slice none 0 0]) (t := 25) ?hr ?_; (case hd => rfl); (case hg => rfl); (case hr => first | (go_simp; done) | (go_simp; rfl)); intro gb102 hg w13 hbox hb; have n0_ := Aside0.mk (bB (g := gb101) (o := .cells #[.slice A0_0 l0_0.length c0_0, .slice A0_1 l0_1.length c0_1] 25 (0, 0)) (by (with_reducible repeat (first | refine bN ?_ _ | refine bD ?_ | refine bA ?_ _)); exact BK101.out) hb); have n1_ := Aside0.mk (wS (by repeat (first | (with_reducible first | exact HB.out | apply wA | apply wN | apply wD | refine below_set ?_ GE101.out) | exact HB.out)) hb); have n2_ := Aside0.mk (hbox); have n3_ := Aside0.mk ((by rw [hg]; exact (below_size (by repeat (first | (with_reducible first | exact HB.out | apply wA | apply wN | apply wD | refine below_set ?_ GE101.out) | exact HB.out))) : w.heap.size ≤ gb102)); have n4_ := Aside0.mk ((by rw [hg]; exact (below_size (by repeat (first | (with_reducible first | exact HB.out | apply wA | apply wN | apply wD | refine below_set ?_ GE101.out) | exact HB.out))) : w.heap.size ≤ gb102)); have n5_ := Aside0.mk ((by rw [hg]; exact Nat.ne_of_lt (blk_lt (g := gb101) (o := .cells #[.slice A0_0 l0_0.length c0_0, .slice A0_1 l0_1.length c0_1] 25 (0, 0)) (by (with_reducible repeat (first | refine bN ?_ _ | refine bD ?_ | refine bA ?_ _)); exact BK101.out)) : gb101 ≠ gb102)); have n6_ := Aside0.mk ((by rw [hg]; exact Nat.ne_of_gt (blk_lt (g := gb101) (o := .cells #[.slice A0_0 l0_0.length c0_0, .slice A0_1 l0_1.length c0_1] 25 (0, 0)) (by (with_reducible repeat (first | refine bN ?_ _ | refine bD ?_ | refine bA ?_ _)); exact BK101.out)) : gb102 ≠ gb101)); clear BK101; clear HB; have BK101 := n0_; have HB := n1_; have BK102 := n2_; have GW102 := n3_; have GE102 := n4_; have NB101_102 := n5_; have NB102_101 := n6_; clear n0_ n1_ n2_ n3_ n4_ n5_ n6_; clear hb hbox hg) | ((with_reducible refine gate_dst (N := 7) rfl ?_); refine box_event ?hg (N := 7) ?hd (cs := #[.slice none 0 0, .slice none 0 0]) (t := 29) ?hr ?_; (case hd => rfl); (case hg => rfl); (case hr => first | (go_simp; done) | (go_simp; rfl)); intro gb103 hg w14 hbox hb; have n0_ := Aside0.mk (bB (g := gb101) (o := .cells #[.slice A0_0 l0_0.length c0_0, .slice A0_1 l0_1.length c0_1] 25 (0, 0)) (by (with_reducible repeat (first | refine bN ?_ _ | refine bD ?_ | refine bA ?_ _)); exact BK101.out) hb); have n1_ := Aside0.mk (bB (g := gb102) (o := .cells #[.slice none 0 0, .slice none 0 0] 25 (0, 0)) (by (with_reducible repeat (first | refine bN ?_ _ | refine bD ?_ | refine bA ?_ _)); exact BK102.out) hb); have n2_ := Aside0.mk (wS (by repeat (first | (with_reducible first | exact HB.out | apply wA | apply wN | apply wD | refine below_set ?_ GE101.out | refine below_set ?_ GE102.out) | exact HB.out)) hb); have n3_ := Aside0.mk (hbox); have n4_ := Aside0.mk ((by rw [hg]; exact (below_size (by repeat (first | (with_reducible first | exact HB.out | apply wA | apply wN | apply wD | refine below_set ?_ GE101.out | refine below_set ?_ GE102.out) | exact HB.out))) : w.heap.size ≤ gb103)); have n5_ := Aside0.mk ((by rw [hg]; exact (below_size (by repeat (first | (with_reducible first | exact HB.out | apply wA | apply wN | apply wD | refine below_set ?_ GE101.out | refine below_set ?_ GE102.out) | exact HB.out))) : w.heap.size ≤ gb103)); have n6_ := Aside0.mk ((by rw [hg]; exact Nat.ne_of_lt (blk_lt (g := gb101) (o := .cells #[.slice A0_0 l0_0.length c0_0, .slice A0_1 l0_1.length c0_1] 25 (0, 0)) (by (with_reducible repeat (first | refine bN ?_ _ | refine bD ?_ | refine bA ?_ _)); exact BK101.out)) : gb101 ≠ gb103)); have n7_ := Aside0.mk ((by rw [hg]; exact Nat.ne_of_gt (blk_lt (g := gb101) (o := .cells #[.slice A0_0 l0_0.length c0_0, .slice A0_1 l0_1.length c0_1] 25 (0, 0)) (by (with_reducible repeat (first | refine bN ?_ _ | refine bD ?_ | refine bA ?_ _)); exact BK101.out)) : gb103 ≠ gb101)); have n8_ := Aside0.mk ((by rw [hg]; exact Nat.ne_of_lt (blk_lt (g := gb102) (o := .cells #[.slice none 0 0, .slice none 0 0] 25 (0, 0)) (by (with_reducible repeat (first | refine bN ?_ _ | refine bD ?_ | refine bA ?_ _)); exact BK102.out)) : gb102 ≠ gb103)); have n9_ := Aside0.mk ((by rw [hg]; exact Nat.ne_of_gt (blk_lt (g := gb102) (o := .cells #[.slice none 0 0, .slice none 0 0] 25 (0, 0)) (by (with_reducible repeat (first | refine bN ?_ _ | refine bD ?_ | refine bA ?_ _)); exact BK102.out)) : gb103 ≠ gb102)); clear BK101; clear BK102; clear HB; have BK101 := n0_; have BK102 := n1_; have HB := n2_; have BK103 := n3_; have GW103 := n4_; have GE103 := n5_; have NB101_103 := n6_; have NB103_101 := n7_; have NB102_103 := n8_; have NB103_102 := n9_; clear n0_ n1_ n2_ n3_ n4_ n5_ n6_ n7_ n8_ n9_; clear hb hbox hg; have hnb15 := NB101_102.out; have hnc15 := NB102_101.out; have hnb16 := NB101_103.out; have hnc16 := NB103_101.out; have hcz17_0 : w14.cell? ⟨gb101, 0, none⟩ = some (.slice A0_0 l0_0.length c0_0) := (blk_cell BK101.out 0).trans rfl; have hcz17_1 : w14.cell? ⟨gb101, 1, none⟩ = some (.slice A0_1 l0_1.length c0_1) := (blk_cell BK101.out 1).trans rfl; have hfz17_0 := blk_frozen BK101.out 0; have hfz17_1 := blk_frozen BK101.out 1) | ((with_reducible refine gate_callee (f := 27) rfl ?_); refine goesL_ (some 18) rfl rfl Try.func27 (by kernel_rfl) rfl #[.agg #[.slice A0_0 l0_0.length c0_0, .slice A0_1 l0_1.length c0_1]] rfl aM ?_; (with_reducible refine (scarfjointref05_Valid.calls k _ _ l0_0 _ _ l0_1 t104 _ ?side1 ?side2 ?side3 ?side4 A4.out).mono ?_); (case side1 => repeat (first | exact (cB HR0_0.out HB.out) | (with_reducible refine cA ?_ _) | (with_reducible refine cN ?_ _) | (with_reducible refine cD ?_))); (case side2 => exact HC0_0.out); (case side3 => repeat (first | exact (cB HR0_1.out HB.out) | (with_reducible refine cA ?_ _) | (with_reducible refine cN ?_ _) | (with_reducible refine cD ?_))); (case side4 => exact HC0_1.out); rintro e w18 ⟨rfl, hb⟩; refine ⟨_, rfl, ?_⟩; have n0_ := Aside0.mk (bB (g := gb101) (o := .cells #[.slice A0_0 l0_0.length c0_0, .slice A0_1 l0_1.length c0_1] 25 (0, 0)) (by (with_reducible repeat (first | refine bN ?_ _ | refine bD ?_ | refine bA ?_ _)); exact BK101.out) hb); have n1_ := Aside0.mk (bB (g := gb102) (o := .cells #[.slice none 0 0, .slice none 0 0] 25 (0, 0)) (by (with_reducible repeat (first | refine bN ?_ _ | refine bD ?_ | refine bA ?_ _)); exact BK102.out) hb); have n2_ := Aside0.mk (bB (g := gb103) (o := .cells #[.slice none 0 0, .slice none 0 0] 29 (0, 0)) (by (with_reducible repeat (first | refine bN ?_ _ | refine bD ?_ | refine bA ?_ _)); exact BK103.out) hb); have n3_ := Aside0.mk (wS (by repeat (first | (with_reducible first | exact HB.out | apply wA | apply wN | apply wD | refine below_set ?_ GE101.out | refine below_set ?_ GE102.out | refine below_set ?_ GE103.out) | exact HB.out)) hb); clear BK101; clear BK102; clear BK103; clear HB; have BK101 := n0_; have BK102 := n1_; have BK103 := n2_; have HB := n3_; clear n0_ n1_ n2_ n3_; (try clear hb); (try clear hb2); (try clear hk); (try clear hi); have hcz19_0 : w18.cell? ⟨gb101, 0, none⟩ = some (.slice A0_0 l0_0.length c0_0) := (blk_cell BK101.out 0).trans rfl; have hcz19_1 : w18.cell? ⟨gb101, 1, none⟩ = some (.slice A0_1 l0_1.length c0_1) := (blk_cell BK101.out 1).trans rfl; have hfz19_0 := blk_frozen BK101.out 0; have hfz19_1 := blk_frozen BK101.out 1) | ((with_reducible refine gate_callee (f := 41) rfl ?_); refine goesL_ (some 28) rfl rfl Try.func41 (by kernel_rfl) rfl #[.slice A1 l1.length c1, .int .i64 (l0_0.length : Int)] rfl aM ?_; (with_reducible refine (scarfjointref05_ascending.calls k _ _ l1 (l0_0.length : Int) t105 _ ?side1 ?side2 A6.out).mono ?_); (case side1 => repeat (first | exact (cB HR1.out HB.out) | (with_reducible refine cA ?_ _) | (with_reducible refine cN ?_ _) | (with_reducible refine cD ?_))); (case side2 => exact HC1.out); rintro e w' ⟨rfl, ⟨nd, rfl⟩⟩; refine ⟨_, rfl, ?_⟩; (try (rw [drewN_self w18]; generalize hq_ : World.drewN w18 _ = w18; have n0_ : Aside0 (w18.heap[gb101]? = some (.cells #[.slice A0_0 l0_0.length c0_0, .slice A0_1 l0_1.length c0_1] 25 (0, 0))) := ⟨by rw [← hq_]; exact (by (with_reducible repeat (first | refine bN ?_ _ | refine bD ?_ | refine bA ?_ _)); exact BK101.out)⟩; have n1_ : Aside0 (w18.heap[gb102]? = some (.cells #[.slice none 0 0, .slice none 0 0] 25 (0, 0))) := ⟨by rw [← hq_]; exact (by (with_reducible repeat (first | refine bN ?_ _ | refine bD ?_ | refine bA ?_ _)); exact BK102.out)⟩; have n2_ : Aside0 (w18.heap[gb103]? = some (.cells #[.slice none 0 0, .slice none 0 0] 29 (0, 0))) := ⟨by rw [← hq_]; exact (by (with_reducible repeat (first | refine bN ?_ _ | refine bD ?_ | refine bA ?_ _)); exact BK103.out)⟩; have n3_ : Aside0 (Below w.heap.size w w18) := ⟨by rw [← hq_]; exact (by repeat (first | (with_reducible first | exact HB.out | apply wA | apply wN | apply wD | refine below_set ?_ GE101.out | refine below_set ?_ GE102.out | refine below_set ?_ GE103.out) | exact HB.out))⟩; clear BK101 BK102 BK103 HB hq_; have BK101 := n0_; have BK102 := n1_; have BK103 := n2_; have HB := n3_; clear n0_ n1_ n2_ n3_)); have hcz20_0 : w18.cell? ⟨gb101, 0, none⟩ = some (.slice A0_0 l0_0.length c0_0) := (blk_cell BK101.out 0).trans rfl; have hcz20_1 : w18.cell? ⟨gb101, 1, none⟩ = some (.slice A0_1 l0_1.length c0_1) := (blk_cell BK101.out 1).trans rfl; have hfz20_0 := blk_frozen BK101.out 0; have hfz20_1 := blk_frozen BK101.out 1) | ((with_reducible refine gate_callee (f := 41) rfl ?_); refine goesL_ (some 38) rfl rfl Try.func41 (by kernel_rfl) rfl #[.slice A2 l2.length c2, .int .i64 (l0_1.length : Int)] rfl aM ?_; (with_reducible refine (scarfjointref05_ascending.calls k _ _ l2 (l0_1.length : Int) t106 _ ?side1 ?side2 A8.out).mono ?_); (case side1 => repeat (first | exact (cB HR2.out HB.out) | (with_reducible refine cA ?_ _) | (with_reducible refine cN ?_ _) | (with_reducible refine cD ?_))); (case side2 => exact HC2.out); rintro e w' ⟨rfl, ⟨nd, rfl⟩⟩; refine ⟨_, rfl, ?_⟩; (try (rw [drewN_self w18]; generalize hq_ : World.drewN w18 _ = w18; have n0_ : Aside0 (w18.heap[gb101]? = some (.cells #[.slice A0_0 l0_0.length c0_0, .slice A0_1 l0_1.length c0_1] 25 (0, 0))) := ⟨by rw [← hq_]; exact (by (with_reducible repeat (first | refine bN ?_ _ | refine bD ?_ | refine bA ?_ _)); exact BK101.out)⟩; have n1_ : Aside0 (w18.heap[gb102]? = some (.cells #[.slice none 0 0, .slice none 0 0] 25 (0, 0))) := ⟨by rw [← hq_]; exact (by (with_reducible repeat (first | refine bN ?_ _ | refine bD ?_ | refine bA ?_ _)); exact BK102.out)⟩; have n2_ : Aside0 (w18.heap[gb103]? = some (.cells #[.slice none 0 0, .slice none 0 0] 29 (0, 0))) := ⟨by rw [← hq_]; exact (by (with_reducible repeat (first | refine bN ?_ _ | refine bD ?_ | refine bA ?_ _)); exact BK103.out)⟩; have n3_ : Aside0 (Below w.heap.size w w18) := ⟨by rw [← hq_]; exact (by repeat (first | (with_reducible first | exact HB.out | apply wA | apply wN | apply wD | refine below_set ?_ GE101.out | refine below_set ?_ GE102.out | refine below_set ?_ GE103.out) | exact HB.out))⟩; clear BK101 BK102 BK103 HB hq_; have BK101 := n0_; have BK102 := n1_; have BK103 := n2_; have HB := n3_; clear n0_ n1_ n2_ n3_))))
    have n0_ := Aside0.mk (bD BK101.out)
    have n1_ := Aside0.mk (bD BK102.out)
    have n2_ := Aside0.mk (bD BK103.out)
    have n3_ := Aside0.mk (wD HB.out)
    clear BK101
    clear BK102
    clear BK103
    clear HB
    have BK101 := n0_
    have BK102 := n1_
    have BK103 := n2_
    have HB := n3_
    clear n0_ n1_ n2_ n3_
    refine start_ (n := 13) (S := fun w' => w'.cell? ⟨gb101, 0, none⟩ = some (.slice A0_0 l0_0.length c0_0) ∧ w'.cell? ⟨gb101, 1, none⟩ = some (.slice A0_1 l0_1.length c0_1)) (ds := []) #[false, false, false, false, false, false, false, false, false, false, false, false, false] (by kernel_rfl) rfl rfl ⟨(blk_cell BK101.out 0).trans rfl, (blk_cell BK101.out 1).trans rfl⟩ (fun hHeld => ?_); refine with_tabW scarfjointref05_Remove.tab10 scarfjointref05_Remove.bits10 (fun HT_ HW_ => ?_)
    generalize w18.drew = w21 at BK101 BK102 BK103 HB hHeld ⊢
    refine pure_ (i := 0) (N := some 44) (v := ?_) (a' := ?_) #[true, false, false, false, false, false, false, false, false, false, false, false, false] rfl rfl (any_of HT_.out (by kernel_rfl)) (fun _ _ _ h => h) (Or.inl ⟨by rfl, ?_⟩) ?_ ?_
    rotate_left
    ·intro w'
     go_simp
     with_reducible rfl
    rotate_left
    ·simp only [Act.put, List.setIfInBounds_toArray, List.set_cons_zero, List.set_cons_succ, i64_w, i32_w]
     rfl
    refine pure_ (i := 3) (N := some 47) (v := ?_) (a' := ?_) #[true, false, false, true, false, false, false, false, false, false, false, false, false] rfl rfl (any_of HT_.out (by kernel_rfl)) (fun _ _ _ h => h) (Or.inl ⟨by rfl, ?_⟩) ?_ ?_
    rotate_left
    ·intro w'
     go_simp
     with_reducible rfl
    rotate_left
    ·simp only [Act.put, List.setIfInBounds_toArray, List.set_cons_zero, List.set_cons_succ, i64_w, i32_w]
     rfl
    refine pure_ (i := 5) (N := some 49) (v := ?_) (a' := ?_) #[true, false, false, true, false, true, false, false, false, false, false, false, false] rfl rfl (any_of HT_.out (by kernel_rfl)) (fun _ _ _ h => h) (Or.inl ⟨by rfl, ?_⟩) ?_ ?_
    rotate_left
    ·intro w'
     go_simp
     with_reducible rfl
    rotate_left
    ·simp only [Act.put, List.setIfInBounds_toArray, List.set_cons_zero, List.set_cons_succ, i64_w, i32_w]
     rfl
    refine pure_ (i := 8) (N := some 52) (v := ?_) (a' := ?_) #[true, false, false, true, false, true, false, false, true, false, false, false, false] rfl rfl (any_of HT_.out (by kernel_rfl)) (fun _ _ _ h => h) (Or.inl ⟨by rfl, ?_⟩) ?_ ?_
    rotate_left
    ·intro w'
     go_simp
     with_reducible rfl
    rotate_left
    ·simp only [Act.put, List.setIfInBounds_toArray, List.set_cons_zero, List.set_cons_succ, i64_w, i32_w]
     rfl
    refine take_ (i := 1) (N := some 45) (v := ?_) (a' := ?_) #[true, true, false, true, false, true, false, false, true, false, false, false, false] rfl rfl (take_ofW HT_.out HW_.out (by kernel_rfl)) (fun _ _ _ h => h) (Or.inl ⟨by rfl, ?_⟩) hHeld ?_ ?_
    rotate_left
    ·rintro w' ⟨s0, s1⟩
     go_simp
     with_reducible rfl
    rotate_left
    ·simp only [Act.put, List.setIfInBounds_toArray, List.set_cons_zero, List.set_cons_succ, i64_w, i32_w]
     rfl
    refine pure_ (i := 2) (N := some 46) (v := ?_) (a' := ?_) #[true, true, true, true, false, true, false, false, true, false, false, false, false] rfl rfl (any_of HT_.out (by kernel_rfl)) (fun _ _ _ h => h) (Or.inl ⟨by rfl, ?_⟩) ?_ ?_
    rotate_left
    ·intro w'
     go_simp
     with_reducible rfl
    rotate_left
    ·simp only [Act.put, List.setIfInBounds_toArray, List.set_cons_zero, List.set_cons_succ, i64_w, i32_w]
     rfl
    refine take_ (i := 6) (N := some 50) (v := ?_) (a' := ?_) #[true, true, true, true, false, true, true, false, true, false, false, false, false] rfl rfl (take_ofW HT_.out HW_.out (by kernel_rfl)) (fun _ _ _ h => h) (Or.inl ⟨by rfl, ?_⟩) hHeld ?_ ?_
    rotate_left
    ·rintro w' ⟨s0, s1⟩
     go_simp
     with_reducible rfl
    rotate_left
    ·simp only [Act.put, List.setIfInBounds_toArray, List.set_cons_zero, List.set_cons_succ, i64_w, i32_w]
     rfl
    refine pure_ (i := 7) (N := some 51) (v := ?_) (a' := ?_) #[true, true, true, true, false, true, true, true, true, false, false, false, false] rfl rfl (any_of HT_.out (by kernel_rfl)) (fun _ _ _ h => h) (Or.inl ⟨by rfl, ?_⟩) ?_ ?_
    rotate_left
    ·intro w'
     go_simp
     with_reducible rfl
    rotate_left
    ·simp only [Act.put, List.setIfInBounds_toArray, List.set_cons_zero, List.set_cons_succ, i64_w, i32_w]
     rfl
    refine join_ (σ := Value × Value × Nat) 1 #[true, true, true, true, true, true, true, true, true, true, true, true, false] (fun s_ => [(48, s_.1), (53, s_.2.1), (12, .pointer (some ⟨s_.2.2, 0, none⟩)), (54, .agg #[s_.1, s_.2.1])]) (fun s_ w' => (w'.cell? ⟨gb101, 0, none⟩ = some (.slice A0_0 l0_0.length c0_0) ∧ w'.cell? ⟨gb101, 1, none⟩ = some (.slice A0_1 l0_1.length c0_1)) ∧ (Kd.R (Kd.int .i64) 3 w' w.heap.size (fun k_ => some k_ ≠ (s_.2.1 : Value).ownBlock) s_.1 t107) ∧ (Kd.R (Kd.int .i64) 3 w' w.heap.size (fun k_ => some k_ ≠ (s_.1 : Value).ownBlock) s_.2.1 t110) ∧ (w'.heap[gb101]? = some (.cells #[.slice A0_0 l0_0.length c0_0, .slice A0_1 l0_1.length c0_1] 25 (0, 0))) ∧ (w'.heap[gb102]? = some (.cells #[.slice none 0 0, .slice none 0 0] 25 (0, 0))) ∧ (w'.heap[gb103]? = some (.cells #[.slice none 0 0, .slice none 0 0] 29 (0, 0))) ∧ (w'.heap[s_.2.2]? = some (.cells #[.slice none 0 0, .slice none 0 0] 29 (0, 0))) ∧ (w.heap.size ≤ s_.2.2) ∧ (w.heap.size ≤ s_.2.2) ∧ (gb101 ≠ s_.2.2) ∧ (s_.2.2 ≠ gb101) ∧ (gb102 ≠ s_.2.2) ∧ (s_.2.2 ≠ gb102) ∧ (gb103 ≠ s_.2.2) ∧ (s_.2.2 ≠ gb103) ∧ (Below w.heap.size w w')) ?_ ?_
    rotate_left
    ·intro hCont
     refine two_ (i := 4) (j := 11) (Ni := some 48) (Nj := some 12) #[true, true, true, true, true, true, true, true, true, false, false, false, false] #[true, true, true, true, false, true, true, true, true, false, false, true, false] rfl rfl rfl rfl (two_of HT_.out (by kernel_rfl)) (by decide) (by decide) (fun K hK => ?_) (fun K hK => ?_)
     ·skip
      refine goes_ Try.func42 (by kernel_rfl) rfl #[.int .i64 (l0_0.length : Int), .slice A1 l1.length c1] (by rfl) rfl rfl aM ?_
      with_reducible refine (scarfjointref05_places.calls k (l0_0.length : Int) _ _ l1 t107 _ ?side1 ?side2 A10.out).mono ?_
      (case side1 => repeat (first | exact (cB HR1.out HB.out) | (with_reducible refine cA ?_ _) | (with_reducible refine cN ?_ _) | (with_reducible refine cD ?_)))
      (case side2 => exact HC1.out)
      rintro e w22 ⟨v108, rfl, ho0, hb⟩
      refine ⟨_, rfl, ?_⟩
      have n0_ := Aside0.mk (Kd.R_lower ho0 (below_size (by repeat (first | (with_reducible first | exact HB.out | apply wA | apply wN | apply wD | refine below_set ?_ GE101.out | refine below_set ?_ GE102.out | refine below_set ?_ GE103.out) | exact HB.out))))
      have n1_ := Aside0.mk (bB (g := gb101) (o := .cells #[.slice A0_0 l0_0.length c0_0, .slice A0_1 l0_1.length c0_1] 25 (0, 0)) (by (with_reducible repeat (first | refine bN ?_ _ | refine bD ?_ | refine bA ?_ _)); exact BK101.out) hb)
      have n2_ := Aside0.mk (bB (g := gb102) (o := .cells #[.slice none 0 0, .slice none 0 0] 25 (0, 0)) (by (with_reducible repeat (first | refine bN ?_ _ | refine bD ?_ | refine bA ?_ _)); exact BK102.out) hb)
      have n3_ := Aside0.mk (bB (g := gb103) (o := .cells #[.slice none 0 0, .slice none 0 0] 29 (0, 0)) (by (with_reducible repeat (first | refine bN ?_ _ | refine bD ?_ | refine bA ?_ _)); exact BK103.out) hb)
      have n4_ := Aside0.mk (wS (by repeat (first | (with_reducible first | exact HB.out | apply wA | apply wN | apply wD | refine below_set ?_ GE101.out | refine below_set ?_ GE102.out | refine below_set ?_ GE103.out) | exact HB.out)) hb)
      clear BK101
      clear BK102
      clear BK103
      clear HB
      have HO109 := n0_
      have BK101 := n1_
      have BK102 := n2_
      have BK103 := n3_
      have HB := n4_
      clear n0_ n1_ n2_ n3_ n4_
      (try clear hb)
      (try clear hb2)
      (try clear hk)
      (try clear hi)
      (try clear ho0)
      refine hK.out _ _ ⟨(blk_cell BK101.out 0).trans rfl, (blk_cell BK101.out 1).trans rfl⟩ (fun hHeld => ?_)
      clear hK K
      refine norm_ (a' := ?_) ?_ ?_
      rotate_left
      ·show Act.put _ (some 48) _ = _
       simp only [Act.put, List.setIfInBounds_toArray, List.set_cons_zero, List.set_cons_succ, i64_w, i32_w]
       rfl
      refine two_ (i := 9) (j := 11) (Ni := some 53) (Nj := some 12) #[true, true, true, true, true, true, true, true, true, true, false, false, false] #[true, true, true, true, true, true, true, true, true, false, false, true, false] rfl rfl rfl rfl (two_of HT_.out (by kernel_rfl)) (by decide) (by decide) (fun K hK => ?_) (fun K hK => ?_)
      ·skip
       refine goes_ Try.func42 (by kernel_rfl) rfl #[.int .i64 (l0_1.length : Int), .slice A2 l2.length c2] (by rfl) rfl rfl aM ?_
       with_reducible refine (scarfjointref05_places.calls k (l0_1.length : Int) _ _ l2 t110 _ ?side1 ?side2 A11.out).mono ?_
       (case side1 => repeat (first | exact (cB HR2.out HB.out) | (with_reducible refine cA ?_ _) | (with_reducible refine cN ?_ _) | (with_reducible refine cD ?_)))
       (case side2 => exact HC2.out)
       rintro e w23 ⟨v111, rfl, ho0, hb⟩
       refine ⟨_, rfl, ?_⟩
       have n0_ := Aside0.mk (Kd.R_elder' (by (with_reducible repeat (first | apply rA | apply rN | apply rD)); exact HO109.out) (Kd.R_base ho0) hb)
       have n1_ := Aside0.mk (Kd.R_lower (Kd.R_new' ho0 (Kd.R_lt (by (with_reducible repeat (first | apply rA | apply rN | apply rD)); exact HO109.out))) (below_size (by repeat (first | (with_reducible first | exact HB.out | apply wA | apply wN | apply wD | refine below_set ?_ GE101.out | refine below_set ?_ GE102.out | refine below_set ?_ GE103.out) | exact HB.out))))
       have n2_ := Aside0.mk (bB (g := gb101) (o := .cells #[.slice A0_0 l0_0.length c0_0, .slice A0_1 l0_1.length c0_1] 25 (0, 0)) (by (with_reducible repeat (first | refine bN ?_ _ | refine bD ?_ | refine bA ?_ _)); exact BK101.out) hb)
       have n3_ := Aside0.mk (bB (g := gb102) (o := .cells #[.slice none 0 0, .slice none 0 0] 25 (0, 0)) (by (with_reducible repeat (first | refine bN ?_ _ | refine bD ?_ | refine bA ?_ _)); exact BK102.out) hb)
       have n4_ := Aside0.mk (bB (g := gb103) (o := .cells #[.slice none 0 0, .slice none 0 0] 29 (0, 0)) (by (with_reducible repeat (first | refine bN ?_ _ | refine bD ?_ | refine bA ?_ _)); exact BK103.out) hb)
       have n5_ := Aside0.mk (wS (by repeat (first | (with_reducible first | exact HB.out | apply wA | apply wN | apply wD | refine below_set ?_ GE101.out | refine below_set ?_ GE102.out | refine below_set ?_ GE103.out) | exact HB.out)) hb)
       clear HO109
       clear BK101
       clear BK102
       clear BK103
       clear HB
       have HO109 := n0_
       have HO112 := n1_
       have BK101 := n2_
       have BK102 := n3_
       have BK103 := n4_
       have HB := n5_
       clear n0_ n1_ n2_ n3_ n4_ n5_
       (try clear hb)
       (try clear hb2)
       (try clear hk)
       (try clear hi)
       (try clear ho0)
       obtain ⟨Ao24, co24, eo24⟩ := Kd.R_slice HO112.out
       (first | subst eo24 | (injection eo24 with f1_ f2_ f3_; have f4_ := f1_.symm; have f5_ := f3_.symm; clear f1_ f2_ f3_; subst f4_; subst f5_))
       obtain ⟨Ao25, co25, eo25⟩ := Kd.R_slice HO109.out
       (first | subst eo25 | (injection eo25 with f1_ f2_ f3_; have f4_ := f1_.symm; have f5_ := f3_.symm; clear f1_ f2_ f3_; subst f4_; subst f5_))
       refine hK.out _ _ ⟨(blk_cell BK101.out 0).trans rfl, (blk_cell BK101.out 1).trans rfl⟩ (fun hHeld => ?_)
       clear hK K
       refine norm_ (a' := ?_) ?_ ?_
       rotate_left
       ·show Act.put _ (some 53) _ = _
        simp only [Act.put, List.setIfInBounds_toArray, List.set_cons_zero, List.set_cons_succ, i64_w, i32_w]
        rfl
       refine pure_ (i := 10) (N := some 54) (v := ?_) (a' := ?_) #[true, true, true, true, true, true, true, true, true, true, true, false, false] rfl rfl (any_of HT_.out (by kernel_rfl)) (fun _ _ _ h => h) (Or.inl ⟨by rfl, ?_⟩) ?_ ?_
       rotate_left
       ·intro w'
        go_simp
        with_reducible rfl
       rotate_left
       ·simp only [Act.put, List.setIfInBounds_toArray, List.set_cons_zero, List.set_cons_succ, i64_w, i32_w]
        rfl
       refine one_ (i := 11) (N := some 12) #[true, true, true, true, true, true, true, true, true, true, true, true, false] rfl rfl (one_of HT_.out (by kernel_rfl)) (by decide) (fun K hK => ?_)
       refine box_step ?hg (N := 12) ?hd (cs := #[.slice none 0 0, .slice none 0 0]) (t := 29) ?hr ?_; (case hd => rfl); (case hg => rfl); (case hr => first | (go_simp; done) | (go_simp; rfl))
       intro gb113 hg w26 hbox hb
       have n0_ := Aside0.mk (rB (by (with_reducible repeat (first | apply rA | apply rN | apply rD)); exact HO109.out) hb)
       have n1_ := Aside0.mk (rB (by (with_reducible repeat (first | apply rA | apply rN | apply rD)); exact HO112.out) hb)
       have n2_ := Aside0.mk (bB (g := gb101) (o := .cells #[.slice A0_0 l0_0.length c0_0, .slice A0_1 l0_1.length c0_1] 25 (0, 0)) (by (with_reducible repeat (first | refine bN ?_ _ | refine bD ?_ | refine bA ?_ _)); exact BK101.out) hb)
       have n3_ := Aside0.mk (bB (g := gb102) (o := .cells #[.slice none 0 0, .slice none 0 0] 25 (0, 0)) (by (with_reducible repeat (first | refine bN ?_ _ | refine bD ?_ | refine bA ?_ _)); exact BK102.out) hb)
       have n4_ := Aside0.mk (bB (g := gb103) (o := .cells #[.slice none 0 0, .slice none 0 0] 29 (0, 0)) (by (with_reducible repeat (first | refine bN ?_ _ | refine bD ?_ | refine bA ?_ _)); exact BK103.out) hb)
       have n5_ := Aside0.mk (wS (by repeat (first | (with_reducible first | exact HB.out | apply wA | apply wN | apply wD | refine below_set ?_ GE101.out | refine below_set ?_ GE102.out | refine below_set ?_ GE103.out) | exact HB.out)) hb)
       have n6_ := Aside0.mk (hbox)
       have n7_ := Aside0.mk ((by rw [hg]; exact (below_size (by repeat (first | (with_reducible first | exact HB.out | apply wA | apply wN | apply wD | refine below_set ?_ GE101.out | refine below_set ?_ GE102.out | refine below_set ?_ GE103.out) | exact HB.out))) : w.heap.size ≤ gb113))
       have n8_ := Aside0.mk ((by rw [hg]; exact (below_size (by repeat (first | (with_reducible first | exact HB.out | apply wA | apply wN | apply wD | refine below_set ?_ GE101.out | refine below_set ?_ GE102.out | refine below_set ?_ GE103.out) | exact HB.out))) : w.heap.size ≤ gb113))
       have n9_ := Aside0.mk ((by rw [hg]; exact Nat.ne_of_lt (blk_lt (g := gb101) (o := .cells #[.slice A0_0 l0_0.length c0_0, .slice A0_1 l0_1.length c0_1] 25 (0, 0)) (by (with_reducible repeat (first | refine bN ?_ _ | refine bD ?_ | refine bA ?_ _)); exact BK101.out)) : gb101 ≠ gb113))
       have n10_ := Aside0.mk ((by rw [hg]; exact Nat.ne_of_gt (blk_lt (g := gb101) (o := .cells #[.slice A0_0 l0_0.length c0_0, .slice A0_1 l0_1.length c0_1] 25 (0, 0)) (by (with_reducible repeat (first | refine bN ?_ _ | refine bD ?_ | refine bA ?_ _)); exact BK101.out)) : gb113 ≠ gb101))
       have n11_ := Aside0.mk ((by rw [hg]; exact Nat.ne_of_lt (blk_lt (g := gb102) (o := .cells #[.slice none 0 0, .slice none 0 0] 25 (0, 0)) (by (with_reducible repeat (first | refine bN ?_ _ | refine bD ?_ | refine bA ?_ _)); exact BK102.out)) : gb102 ≠ gb113))
       have n12_ := Aside0.mk ((by rw [hg]; exact Nat.ne_of_gt (blk_lt (g := gb102) (o := .cells #[.slice none 0 0, .slice none 0 0] 25 (0, 0)) (by (with_reducible repeat (first | refine bN ?_ _ | refine bD ?_ | refine bA ?_ _)); exact BK102.out)) : gb113 ≠ gb102))
       have n13_ := Aside0.mk ((by rw [hg]; exact Nat.ne_of_lt (blk_lt (g := gb103) (o := .cells #[.slice none 0 0, .slice none 0 0] 29 (0, 0)) (by (with_reducible repeat (first | refine bN ?_ _ | refine bD ?_ | refine bA ?_ _)); exact BK103.out)) : gb103 ≠ gb113))
       have n14_ := Aside0.mk ((by rw [hg]; exact Nat.ne_of_gt (blk_lt (g := gb103) (o := .cells #[.slice none 0 0, .slice none 0 0] 29 (0, 0)) (by (with_reducible repeat (first | refine bN ?_ _ | refine bD ?_ | refine bA ?_ _)); exact BK103.out)) : gb113 ≠ gb103))
       clear HO109
       clear HO112
       clear BK101
       clear BK102
       clear BK103
       clear HB
       have HO109 := n0_
       have HO112 := n1_
       have BK101 := n2_
       have BK102 := n3_
       have BK103 := n4_
       have HB := n5_
       have BK113 := n6_
       have GW113 := n7_
       have GE113 := n8_
       have NB101_113 := n9_
       have NB113_101 := n10_
       have NB102_113 := n11_
       have NB113_102 := n12_
       have NB103_113 := n13_
       have NB113_103 := n14_
       clear n0_ n1_ n2_ n3_ n4_ n5_ n6_ n7_ n8_ n9_ n10_ n11_ n12_ n13_ n14_
       clear hb hbox hg
       refine hK.out _ _ ⟨(blk_cell BK101.out 0).trans rfl, (blk_cell BK101.out 1).trans rfl⟩ (fun hHeld => ?_)
       clear hK K
       refine norm_ (a' := ?_) ?_ ?_
       rotate_left
       ·show Act.put _ (some 12) _ = _
        simp only [Act.put, List.setIfInBounds_toArray, List.set_cons_zero, List.set_cons_succ, i64_w, i32_w]
        rfl
       exact norm_ (by simp only [putAll, Act.put, List.setIfInBounds_toArray, List.set_cons_zero, List.set_cons_succ]) (hCont (.slice Ao25 t107.length co25, .slice Ao24 t110.length co24, gb113) _ ⟨hHeld, (by (with_reducible repeat (first | apply rA | apply rN | apply rD)); exact Kd.R_mono HO109.out (fun _ hk => hk.2)), (by (with_reducible repeat (first | apply rA | apply rN | apply rD)); exact Kd.R_mono HO112.out (fun _ hk => hk.2)), (by (with_reducible repeat (first | refine bN ?_ _ | refine bD ?_ | refine bA ?_ _)); exact BK101.out), (by (with_reducible repeat (first | refine bN ?_ _ | refine bD ?_ | refine bA ?_ _)); exact BK102.out), (by (with_reducible repeat (first | refine bN ?_ _ | refine bD ?_ | refine bA ?_ _)); exact BK103.out), (by (with_reducible repeat (first | refine bN ?_ _ | refine bD ?_ | refine bA ?_ _)); exact BK113.out), GW113.out, GE113.out, NB101_113.out, NB113_101.out, NB102_113.out, NB113_102.out, NB103_113.out, NB113_103.out, (by repeat (first | (with_reducible first | exact HB.out | apply wA | apply wN | apply wD | refine below_set ?_ GE101.out | refine below_set ?_ GE102.out | refine below_set ?_ GE103.out | refine below_set ?_ GE113.out) | exact HB.out))⟩)
      ·skip
       refine box_step ?hg (N := 12) ?hd (cs := #[.slice none 0 0, .slice none 0 0]) (t := 29) ?hr ?_; (case hd => rfl); (case hg => rfl); (case hr => first | (go_simp; done) | (go_simp; rfl))
       intro gb113 hg w23 hbox hb
       have n0_ := Aside0.mk (rB (by (with_reducible repeat (first | apply rA | apply rN | apply rD)); exact HO109.out) hb)
       have n1_ := Aside0.mk (bB (g := gb101) (o := .cells #[.slice A0_0 l0_0.length c0_0, .slice A0_1 l0_1.length c0_1] 25 (0, 0)) (by (with_reducible repeat (first | refine bN ?_ _ | refine bD ?_ | refine bA ?_ _)); exact BK101.out) hb)
       have n2_ := Aside0.mk (bB (g := gb102) (o := .cells #[.slice none 0 0, .slice none 0 0] 25 (0, 0)) (by (with_reducible repeat (first | refine bN ?_ _ | refine bD ?_ | refine bA ?_ _)); exact BK102.out) hb)
       have n3_ := Aside0.mk (bB (g := gb103) (o := .cells #[.slice none 0 0, .slice none 0 0] 29 (0, 0)) (by (with_reducible repeat (first | refine bN ?_ _ | refine bD ?_ | refine bA ?_ _)); exact BK103.out) hb)
       have n4_ := Aside0.mk (wS (by repeat (first | (with_reducible first | exact HB.out | apply wA | apply wN | apply wD | refine below_set ?_ GE101.out | refine below_set ?_ GE102.out | refine below_set ?_ GE103.out) | exact HB.out)) hb)
       have n5_ := Aside0.mk (hbox)
       have n6_ := Aside0.mk ((by rw [hg]; exact (below_size (by repeat (first | (with_reducible first | exact HB.out | apply wA | apply wN | apply wD | refine below_set ?_ GE101.out | refine below_set ?_ GE102.out | refine below_set ?_ GE103.out) | exact HB.out))) : w.heap.size ≤ gb113))
       have n7_ := Aside0.mk ((by rw [hg]; exact (below_size (by repeat (first | (with_reducible first | exact HB.out | apply wA | apply wN | apply wD | refine below_set ?_ GE101.out | refine below_set ?_ GE102.out | refine below_set ?_ GE103.out) | exact HB.out))) : w.heap.size ≤ gb113))
       have n8_ := Aside0.mk ((by rw [hg]; exact Nat.ne_of_lt (blk_lt (g := gb101) (o := .cells #[.slice A0_0 l0_0.length c0_0, .slice A0_1 l0_1.length c0_1] 25 (0, 0)) (by (with_reducible repeat (first | refine bN ?_ _ | refine bD ?_ | refine bA ?_ _)); exact BK101.out)) : gb101 ≠ gb113))
       have n9_ := Aside0.mk ((by rw [hg]; exact Nat.ne_of_gt (blk_lt (g := gb101) (o := .cells #[.slice A0_0 l0_0.length c0_0, .slice A0_1 l0_1.length c0_1] 25 (0, 0)) (by (with_reducible repeat (first | refine bN ?_ _ | refine bD ?_ | refine bA ?_ _)); exact BK101.out)) : gb113 ≠ gb101))
       have n10_ := Aside0.mk ((by rw [hg]; exact Nat.ne_of_lt (blk_lt (g := gb102) (o := .cells #[.slice none 0 0, .slice none 0 0] 25 (0, 0)) (by (with_reducible repeat (first | refine bN ?_ _ | refine bD ?_ | refine bA ?_ _)); exact BK102.out)) : gb102 ≠ gb113))
       have n11_ := Aside0.mk ((by rw [hg]; exact Nat.ne_of_gt (blk_lt (g := gb102) (o := .cells #[.slice none 0 0, .slice none 0 0] 25 (0, 0)) (by (with_reducible repeat (first | refine bN ?_ _ | refine bD ?_ | refine bA ?_ _)); exact BK102.out)) : gb113 ≠ gb102))
       have n12_ := Aside0.mk ((by rw [hg]; exact Nat.ne_of_lt (blk_lt (g := gb103) (o := .cells #[.slice none 0 0, .slice none 0 0] 29 (0, 0)) (by (with_reducible repeat (first | refine bN ?_ _ | refine bD ?_ | refine bA ?_ _)); exact BK103.out)) : gb103 ≠ gb113))
       have n13_ := Aside0.mk ((by rw [hg]; exact Nat.ne_of_gt (blk_lt (g := gb103) (o := .cells #[.slice none 0 0, .slice none 0 0] 29 (0, 0)) (by (with_reducible repeat (first | refine bN ?_ _ | refine bD ?_ | refine bA ?_ _)); exact BK103.out)) : gb113 ≠ gb103))
       clear HO109
       clear BK101
       clear BK102
       clear BK103
       clear HB
       have HO109 := n0_
       have BK101 := n1_
       have BK102 := n2_
       have BK103 := n3_
       have HB := n4_
       have BK113 := n5_
       have GW113 := n6_
       have GE113 := n7_
       have NB101_113 := n8_
       have NB113_101 := n9_
       have NB102_113 := n10_
       have NB113_102 := n11_
       have NB103_113 := n12_
       have NB113_103 := n13_
       clear n0_ n1_ n2_ n3_ n4_ n5_ n6_ n7_ n8_ n9_ n10_ n11_ n12_ n13_
       clear hb hbox hg
       refine hK.out _ _ ⟨(blk_cell BK101.out 0).trans rfl, (blk_cell BK101.out 1).trans rfl⟩ (fun hHeld => ?_)
       clear hK K
       refine norm_ (a' := ?_) ?_ ?_
       rotate_left
       ·show Act.put _ (some 12) _ = _
        simp only [Act.put, List.setIfInBounds_toArray, List.set_cons_zero, List.set_cons_succ, i64_w, i32_w]
        rfl
       refine one_ (i := 9) (N := some 53) #[true, true, true, true, true, true, true, true, true, true, false, true, false] rfl rfl (one_of HT_.out (by kernel_rfl)) (by decide) (fun K hK => ?_)
       refine goes_ Try.func42 (by kernel_rfl) rfl #[.int .i64 (l0_1.length : Int), .slice A2 l2.length c2] (by rfl) rfl rfl aM ?_
       with_reducible refine (scarfjointref05_places.calls k (l0_1.length : Int) _ _ l2 t110 _ ?side1 ?side2 A11.out).mono ?_
       (case side1 => repeat (first | exact (cB HR2.out HB.out) | (with_reducible refine cA ?_ _) | (with_reducible refine cN ?_ _) | (with_reducible refine cD ?_)))
       (case side2 => exact HC2.out)
       rintro e w24 ⟨v111, rfl, ho0, hb⟩
       refine ⟨_, rfl, ?_⟩
       have n0_ := Aside0.mk (Kd.R_elder' (by (with_reducible repeat (first | apply rA | apply rN | apply rD)); exact HO109.out) (Kd.R_base ho0) hb)
       have n1_ := Aside0.mk (Kd.R_lower (Kd.R_new' ho0 (Kd.R_lt (by (with_reducible repeat (first | apply rA | apply rN | apply rD)); exact HO109.out))) (below_size (by repeat (first | (with_reducible first | exact HB.out | apply wA | apply wN | apply wD | refine below_set ?_ GE101.out | refine below_set ?_ GE102.out | refine below_set ?_ GE103.out | refine below_set ?_ GE113.out) | exact HB.out))))
       have n2_ := Aside0.mk (bB (g := gb101) (o := .cells #[.slice A0_0 l0_0.length c0_0, .slice A0_1 l0_1.length c0_1] 25 (0, 0)) (by (with_reducible repeat (first | refine bN ?_ _ | refine bD ?_ | refine bA ?_ _)); exact BK101.out) hb)
       have n3_ := Aside0.mk (bB (g := gb102) (o := .cells #[.slice none 0 0, .slice none 0 0] 25 (0, 0)) (by (with_reducible repeat (first | refine bN ?_ _ | refine bD ?_ | refine bA ?_ _)); exact BK102.out) hb)
       have n4_ := Aside0.mk (bB (g := gb103) (o := .cells #[.slice none 0 0, .slice none 0 0] 29 (0, 0)) (by (with_reducible repeat (first | refine bN ?_ _ | refine bD ?_ | refine bA ?_ _)); exact BK103.out) hb)
       have n5_ := Aside0.mk (bB (g := gb113) (o := .cells #[.slice none 0 0, .slice none 0 0] 29 (0, 0)) (by (with_reducible repeat (first | refine bN ?_ _ | refine bD ?_ | refine bA ?_ _)); exact BK113.out) hb)
       have n6_ := Aside0.mk (wS (by repeat (first | (with_reducible first | exact HB.out | apply wA | apply wN | apply wD | refine below_set ?_ GE101.out | refine below_set ?_ GE102.out | refine below_set ?_ GE103.out | refine below_set ?_ GE113.out) | exact HB.out)) hb)
       clear HO109
       clear BK101
       clear BK102
       clear BK103
       clear BK113
       clear HB
       have HO109 := n0_
       have HO112 := n1_
       have BK101 := n2_
       have BK102 := n3_
       have BK103 := n4_
       have BK113 := n5_
       have HB := n6_
       clear n0_ n1_ n2_ n3_ n4_ n5_ n6_
       (try clear hb)
       (try clear hb2)
       (try clear hk)
       (try clear hi)
       (try clear ho0)
       obtain ⟨Ao25, co25, eo25⟩ := Kd.R_slice HO112.out
       (first | subst eo25 | (injection eo25 with f1_ f2_ f3_; have f4_ := f1_.symm; have f5_ := f3_.symm; clear f1_ f2_ f3_; subst f4_; subst f5_))
       obtain ⟨Ao26, co26, eo26⟩ := Kd.R_slice HO109.out
       (first | subst eo26 | (injection eo26 with f1_ f2_ f3_; have f4_ := f1_.symm; have f5_ := f3_.symm; clear f1_ f2_ f3_; subst f4_; subst f5_))
       refine hK.out _ _ ⟨(blk_cell BK101.out 0).trans rfl, (blk_cell BK101.out 1).trans rfl⟩ (fun hHeld => ?_)
       clear hK K
       refine norm_ (a' := ?_) ?_ ?_
       rotate_left
       ·show Act.put _ (some 53) _ = _
        simp only [Act.put, List.setIfInBounds_toArray, List.set_cons_zero, List.set_cons_succ, i64_w, i32_w]
        rfl
       refine pure_ (i := 10) (N := some 54) (v := ?_) (a' := ?_) #[true, true, true, true, true, true, true, true, true, true, true, true, false] rfl rfl (any_of HT_.out (by kernel_rfl)) (fun _ _ _ h => h) (Or.inl ⟨by rfl, ?_⟩) ?_ ?_
       rotate_left
       ·intro w'
        go_simp
        with_reducible rfl
       rotate_left
       ·simp only [Act.put, List.setIfInBounds_toArray, List.set_cons_zero, List.set_cons_succ, i64_w, i32_w]
        rfl
       exact norm_ (by simp only [putAll, Act.put, List.setIfInBounds_toArray, List.set_cons_zero, List.set_cons_succ]) (hCont (.slice Ao26 t107.length co26, .slice Ao25 t110.length co25, gb113) _ ⟨hHeld, (by (with_reducible repeat (first | apply rA | apply rN | apply rD)); exact Kd.R_mono HO109.out (fun _ hk => hk.2)), (by (with_reducible repeat (first | apply rA | apply rN | apply rD)); exact Kd.R_mono HO112.out (fun _ hk => hk.2)), (by (with_reducible repeat (first | refine bN ?_ _ | refine bD ?_ | refine bA ?_ _)); exact BK101.out), (by (with_reducible repeat (first | refine bN ?_ _ | refine bD ?_ | refine bA ?_ _)); exact BK102.out), (by (with_reducible repeat (first | refine bN ?_ _ | refine bD ?_ | refine bA ?_ _)); exact BK103.out), (by (with_reducible repeat (first | refine bN ?_ _ | refine bD ?_ | refine bA ?_ _)); exact BK113.out), GW113.out, GE113.out, NB101_113.out, NB113_101.out, NB102_113.out, NB113_102.out, NB103_113.out, NB113_103.out, (by repeat (first | (with_reducible first | exact HB.out | apply wA | apply wN | apply wD | refine below_set ?_ GE101.out | refine below_set ?_ GE102.out | refine below_set ?_ GE103.out | refine below_set ?_ GE113.out) | exact HB.out))⟩)
     ·skip
      refine box_step ?hg (N := 12) ?hd (cs := #[.slice none 0 0, .slice none 0 0]) (t := 29) ?hr ?_; (case hd => rfl); (case hg => rfl); (case hr => first | (go_simp; done) | (go_simp; rfl))
      intro gb113 hg w22 hbox hb
      have n0_ := Aside0.mk (bB (g := gb101) (o := .cells #[.slice A0_0 l0_0.length c0_0, .slice A0_1 l0_1.length c0_1] 25 (0, 0)) (by (with_reducible repeat (first | refine bN ?_ _ | refine bD ?_ | refine bA ?_ _)); exact BK101.out) hb)
      have n1_ := Aside0.mk (bB (g := gb102) (o := .cells #[.slice none 0 0, .slice none 0 0] 25 (0, 0)) (by (with_reducible repeat (first | refine bN ?_ _ | refine bD ?_ | refine bA ?_ _)); exact BK102.out) hb)
      have n2_ := Aside0.mk (bB (g := gb103) (o := .cells #[.slice none 0 0, .slice none 0 0] 29 (0, 0)) (by (with_reducible repeat (first | refine bN ?_ _ | refine bD ?_ | refine bA ?_ _)); exact BK103.out) hb)
      have n3_ := Aside0.mk (wS (by repeat (first | (with_reducible first | exact HB.out | apply wA | apply wN | apply wD | refine below_set ?_ GE101.out | refine below_set ?_ GE102.out | refine below_set ?_ GE103.out) | exact HB.out)) hb)
      have n4_ := Aside0.mk (hbox)
      have n5_ := Aside0.mk ((by rw [hg]; exact (below_size (by repeat (first | (with_reducible first | exact HB.out | apply wA | apply wN | apply wD | refine below_set ?_ GE101.out | refine below_set ?_ GE102.out | refine below_set ?_ GE103.out) | exact HB.out))) : w.heap.size ≤ gb113))
      have n6_ := Aside0.mk ((by rw [hg]; exact (below_size (by repeat (first | (with_reducible first | exact HB.out | apply wA | apply wN | apply wD | refine below_set ?_ GE101.out | refine below_set ?_ GE102.out | refine below_set ?_ GE103.out) | exact HB.out))) : w.heap.size ≤ gb113))
      have n7_ := Aside0.mk ((by rw [hg]; exact Nat.ne_of_lt (blk_lt (g := gb101) (o := .cells #[.slice A0_0 l0_0.length c0_0, .slice A0_1 l0_1.length c0_1] 25 (0, 0)) (by (with_reducible repeat (first | refine bN ?_ _ | refine bD ?_ | refine bA ?_ _)); exact BK101.out)) : gb101 ≠ gb113))
      have n8_ := Aside0.mk ((by rw [hg]; exact Nat.ne_of_gt (blk_lt (g := gb101) (o := .cells #[.slice A0_0 l0_0.length c0_0, .slice A0_1 l0_1.length c0_1] 25 (0, 0)) (by (with_reducible repeat (first | refine bN ?_ _ | refine bD ?_ | refine bA ?_ _)); exact BK101.out)) : gb113 ≠ gb101))
      have n9_ := Aside0.mk ((by rw [hg]; exact Nat.ne_of_lt (blk_lt (g := gb102) (o := .cells #[.slice none 0 0, .slice none 0 0] 25 (0, 0)) (by (with_reducible repeat (first | refine bN ?_ _ | refine bD ?_ | refine bA ?_ _)); exact BK102.out)) : gb102 ≠ gb113))
      have n10_ := Aside0.mk ((by rw [hg]; exact Nat.ne_of_gt (blk_lt (g := gb102) (o := .cells #[.slice none 0 0, .slice none 0 0] 25 (0, 0)) (by (with_reducible repeat (first | refine bN ?_ _ | refine bD ?_ | refine bA ?_ _)); exact BK102.out)) : gb113 ≠ gb102))
      have n11_ := Aside0.mk ((by rw [hg]; exact Nat.ne_of_lt (blk_lt (g := gb103) (o := .cells #[.slice none 0 0, .slice none 0 0] 29 (0, 0)) (by (with_reducible repeat (first | refine bN ?_ _ | refine bD ?_ | refine bA ?_ _)); exact BK103.out)) : gb103 ≠ gb113))
      have n12_ := Aside0.mk ((by rw [hg]; exact Nat.ne_of_gt (blk_lt (g := gb103) (o := .cells #[.slice none 0 0, .slice none 0 0] 29 (0, 0)) (by (with_reducible repeat (first | refine bN ?_ _ | refine bD ?_ | refine bA ?_ _)); exact BK103.out)) : gb113 ≠ gb103))
      clear BK101
      clear BK102
      clear BK103
      clear HB
      have BK101 := n0_
      have BK102 := n1_
      have BK103 := n2_
      have HB := n3_
      have BK113 := n4_
      have GW113 := n5_
      have GE113 := n6_
      have NB101_113 := n7_
      have NB113_101 := n8_
      have NB102_113 := n9_
      have NB113_102 := n10_
      have NB103_113 := n11_
      have NB113_103 := n12_
      clear n0_ n1_ n2_ n3_ n4_ n5_ n6_ n7_ n8_ n9_ n10_ n11_ n12_
      clear hb hbox hg
      refine hK.out _ _ ⟨(blk_cell BK101.out 0).trans rfl, (blk_cell BK101.out 1).trans rfl⟩ (fun hHeld => ?_)
      clear hK K
      refine norm_ (a' := ?_) ?_ ?_
      rotate_left
      ·show Act.put _ (some 12) _ = _
       simp only [Act.put, List.setIfInBounds_toArray, List.set_cons_zero, List.set_cons_succ, i64_w, i32_w]
       rfl
      refine one_ (i := 4) (N := some 48) #[true, true, true, true, true, true, true, true, true, false, false, true, false] rfl rfl (one_of HT_.out (by kernel_rfl)) (by decide) (fun K hK => ?_)
      refine goes_ Try.func42 (by kernel_rfl) rfl #[.int .i64 (l0_0.length : Int), .slice A1 l1.length c1] (by rfl) rfl rfl aM ?_
      with_reducible refine (scarfjointref05_places.calls k (l0_0.length : Int) _ _ l1 t107 _ ?side1 ?side2 A10.out).mono ?_
      (case side1 => repeat (first | exact (cB HR1.out HB.out) | (with_reducible refine cA ?_ _) | (with_reducible refine cN ?_ _) | (with_reducible refine cD ?_)))
      (case side2 => exact HC1.out)
      rintro e w23 ⟨v108, rfl, ho0, hb⟩
      refine ⟨_, rfl, ?_⟩
      have n0_ := Aside0.mk (Kd.R_lower ho0 (below_size (by repeat (first | (with_reducible first | exact HB.out | apply wA | apply wN | apply wD | refine below_set ?_ GE101.out | refine below_set ?_ GE102.out | refine below_set ?_ GE103.out | refine below_set ?_ GE113.out) | exact HB.out))))
      have n1_ := Aside0.mk (bB (g := gb101) (o := .cells #[.slice A0_0 l0_0.length c0_0, .slice A0_1 l0_1.length c0_1] 25 (0, 0)) (by (with_reducible repeat (first | refine bN ?_ _ | refine bD ?_ | refine bA ?_ _)); exact BK101.out) hb)
      have n2_ := Aside0.mk (bB (g := gb102) (o := .cells #[.slice none 0 0, .slice none 0 0] 25 (0, 0)) (by (with_reducible repeat (first | refine bN ?_ _ | refine bD ?_ | refine bA ?_ _)); exact BK102.out) hb)
      have n3_ := Aside0.mk (bB (g := gb103) (o := .cells #[.slice none 0 0, .slice none 0 0] 29 (0, 0)) (by (with_reducible repeat (first | refine bN ?_ _ | refine bD ?_ | refine bA ?_ _)); exact BK103.out) hb)
      have n4_ := Aside0.mk (bB (g := gb113) (o := .cells #[.slice none 0 0, .slice none 0 0] 29 (0, 0)) (by (with_reducible repeat (first | refine bN ?_ _ | refine bD ?_ | refine bA ?_ _)); exact BK113.out) hb)
      have n5_ := Aside0.mk (wS (by repeat (first | (with_reducible first | exact HB.out | apply wA | apply wN | apply wD | refine below_set ?_ GE101.out | refine below_set ?_ GE102.out | refine below_set ?_ GE103.out | refine below_set ?_ GE113.out) | exact HB.out)) hb)
      clear BK101
      clear BK102
      clear BK103
      clear BK113
      clear HB
      have HO109 := n0_
      have BK101 := n1_
      have BK102 := n2_
      have BK103 := n3_
      have BK113 := n4_
      have HB := n5_
      clear n0_ n1_ n2_ n3_ n4_ n5_
      (try clear hb)
      (try clear hb2)
      (try clear hk)
      (try clear hi)
      (try clear ho0)
      refine hK.out _ _ ⟨(blk_cell BK101.out 0).trans rfl, (blk_cell BK101.out 1).trans rfl⟩ (fun hHeld => ?_)
      clear hK K
      refine norm_ (a' := ?_) ?_ ?_
      rotate_left
      ·show Act.put _ (some 48) _ = _
       simp only [Act.put, List.setIfInBounds_toArray, List.set_cons_zero, List.set_cons_succ, i64_w, i32_w]
       rfl
      refine one_ (i := 9) (N := some 53) #[true, true, true, true, true, true, true, true, true, true, false, true, false] rfl rfl (one_of HT_.out (by kernel_rfl)) (by decide) (fun K hK => ?_)
      refine goes_ Try.func42 (by kernel_rfl) rfl #[.int .i64 (l0_1.length : Int), .slice A2 l2.length c2] (by rfl) rfl rfl aM ?_
      with_reducible refine (scarfjointref05_places.calls k (l0_1.length : Int) _ _ l2 t110 _ ?side1 ?side2 A11.out).mono ?_
      (case side1 => repeat (first | exact (cB HR2.out HB.out) | (with_reducible refine cA ?_ _) | (with_reducible refine cN ?_ _) | (with_reducible refine cD ?_)))
      (case side2 => exact HC2.out)
      rintro e w24 ⟨v111, rfl, ho0, hb⟩
      refine ⟨_, rfl, ?_⟩
      have n0_ := Aside0.mk (Kd.R_elder' (by (with_reducible repeat (first | apply rA | apply rN | apply rD)); exact HO109.out) (Kd.R_base ho0) hb)
      have n1_ := Aside0.mk (Kd.R_lower (Kd.R_new' ho0 (Kd.R_lt (by (with_reducible repeat (first | apply rA | apply rN | apply rD)); exact HO109.out))) (below_size (by repeat (first | (with_reducible first | exact HB.out | apply wA | apply wN | apply wD | refine below_set ?_ GE101.out | refine below_set ?_ GE102.out | refine below_set ?_ GE103.out | refine below_set ?_ GE113.out) | exact HB.out))))
      have n2_ := Aside0.mk (bB (g := gb101) (o := .cells #[.slice A0_0 l0_0.length c0_0, .slice A0_1 l0_1.length c0_1] 25 (0, 0)) (by (with_reducible repeat (first | refine bN ?_ _ | refine bD ?_ | refine bA ?_ _)); exact BK101.out) hb)
      have n3_ := Aside0.mk (bB (g := gb102) (o := .cells #[.slice none 0 0, .slice none 0 0] 25 (0, 0)) (by (with_reducible repeat (first | refine bN ?_ _ | refine bD ?_ | refine bA ?_ _)); exact BK102.out) hb)
      have n4_ := Aside0.mk (bB (g := gb103) (o := .cells #[.slice none 0 0, .slice none 0 0] 29 (0, 0)) (by (with_reducible repeat (first | refine bN ?_ _ | refine bD ?_ | refine bA ?_ _)); exact BK103.out) hb)
      have n5_ := Aside0.mk (bB (g := gb113) (o := .cells #[.slice none 0 0, .slice none 0 0] 29 (0, 0)) (by (with_reducible repeat (first | refine bN ?_ _ | refine bD ?_ | refine bA ?_ _)); exact BK113.out) hb)
      have n6_ := Aside0.mk (wS (by repeat (first | (with_reducible first | exact HB.out | apply wA | apply wN | apply wD | refine below_set ?_ GE101.out | refine below_set ?_ GE102.out | refine below_set ?_ GE103.out | refine below_set ?_ GE113.out) | exact HB.out)) hb)
      clear HO109
      clear BK101
      clear BK102
      clear BK103
      clear BK113
      clear HB
      have HO109 := n0_
      have HO112 := n1_
      have BK101 := n2_
      have BK102 := n3_
      have BK103 := n4_
      have BK113 := n5_
      have HB := n6_
      clear n0_ n1_ n2_ n3_ n4_ n5_ n6_
      (try clear hb)
      (try clear hb2)
      (try clear hk)
      (try clear hi)
      (try clear ho0)
      obtain ⟨Ao25, co25, eo25⟩ := Kd.R_slice HO112.out
      (first | subst eo25 | (injection eo25 with f1_ f2_ f3_; have f4_ := f1_.symm; have f5_ := f3_.symm; clear f1_ f2_ f3_; subst f4_; subst f5_))
      obtain ⟨Ao26, co26, eo26⟩ := Kd.R_slice HO109.out
      (first | subst eo26 | (injection eo26 with f1_ f2_ f3_; have f4_ := f1_.symm; have f5_ := f3_.symm; clear f1_ f2_ f3_; subst f4_; subst f5_))
      refine hK.out _ _ ⟨(blk_cell BK101.out 0).trans rfl, (blk_cell BK101.out 1).trans rfl⟩ (fun hHeld => ?_)
      clear hK K
      refine norm_ (a' := ?_) ?_ ?_
      rotate_left
      ·show Act.put _ (some 53) _ = _
       simp only [Act.put, List.setIfInBounds_toArray, List.set_cons_zero, List.set_cons_succ, i64_w, i32_w]
       rfl
      refine pure_ (i := 10) (N := some 54) (v := ?_) (a' := ?_) #[true, true, true, true, true, true, true, true, true, true, true, true, false] rfl rfl (any_of HT_.out (by kernel_rfl)) (fun _ _ _ h => h) (Or.inl ⟨by rfl, ?_⟩) ?_ ?_
      rotate_left
      ·intro w'
       go_simp
       with_reducible rfl
      rotate_left
      ·simp only [Act.put, List.setIfInBounds_toArray, List.set_cons_zero, List.set_cons_succ, i64_w, i32_w]
       rfl
      exact norm_ (by simp only [putAll, Act.put, List.setIfInBounds_toArray, List.set_cons_zero, List.set_cons_succ]) (hCont (.slice Ao26 t107.length co26, .slice Ao25 t110.length co25, gb113) _ ⟨hHeld, (by (with_reducible repeat (first | apply rA | apply rN | apply rD)); exact Kd.R_mono HO109.out (fun _ hk => hk.2)), (by (with_reducible repeat (first | apply rA | apply rN | apply rD)); exact Kd.R_mono HO112.out (fun _ hk => hk.2)), (by (with_reducible repeat (first | refine bN ?_ _ | refine bD ?_ | refine bA ?_ _)); exact BK101.out), (by (with_reducible repeat (first | refine bN ?_ _ | refine bD ?_ | refine bA ?_ _)); exact BK102.out), (by (with_reducible repeat (first | refine bN ?_ _ | refine bD ?_ | refine bA ?_ _)); exact BK103.out), (by (with_reducible repeat (first | refine bN ?_ _ | refine bD ?_ | refine bA ?_ _)); exact BK113.out), GW113.out, GE113.out, NB101_113.out, NB113_101.out, NB102_113.out, NB113_102.out, NB103_113.out, NB113_103.out, (by repeat (first | (with_reducible first | exact HB.out | apply wA | apply wN | apply wD | refine below_set ?_ GE101.out | refine below_set ?_ GE102.out | refine below_set ?_ GE103.out | refine below_set ?_ GE113.out) | exact HB.out))⟩)
    rintro ⟨v108, v111, gb113⟩ w27 ⟨hS_, h0_, h1_, h2_, h3_, h4_, h5_, h6_, h7_, h8_, h9_, h10_, h11_, h12_, h13_, h14_⟩
    have n0_ : Aside0 (Kd.R (Kd.int .i64) 3 w27 w.heap.size (fun k_ => some k_ ≠ (v111 : Value).ownBlock) v108 t107) := ⟨h0_⟩
    have n1_ : Aside0 (Kd.R (Kd.int .i64) 3 w27 w.heap.size (fun k_ => some k_ ≠ (v108 : Value).ownBlock) v111 t110) := ⟨h1_⟩
    have n2_ : Aside0 (w27.heap[gb101]? = some (.cells #[.slice A0_0 l0_0.length c0_0, .slice A0_1 l0_1.length c0_1] 25 (0, 0))) := ⟨h2_⟩
    have n3_ : Aside0 (w27.heap[gb102]? = some (.cells #[.slice none 0 0, .slice none 0 0] 25 (0, 0))) := ⟨h3_⟩
    have n4_ : Aside0 (w27.heap[gb103]? = some (.cells #[.slice none 0 0, .slice none 0 0] 29 (0, 0))) := ⟨h4_⟩
    have n5_ : Aside0 (w27.heap[gb113]? = some (.cells #[.slice none 0 0, .slice none 0 0] 29 (0, 0))) := ⟨h5_⟩
    have n6_ : Aside0 (w.heap.size ≤ gb113) := ⟨h6_⟩
    have n7_ : Aside0 (w.heap.size ≤ gb113) := ⟨h7_⟩
    have n8_ : Aside0 (gb101 ≠ gb113) := ⟨h8_⟩
    have n9_ : Aside0 (gb113 ≠ gb101) := ⟨h9_⟩
    have n10_ : Aside0 (gb102 ≠ gb113) := ⟨h10_⟩
    have n11_ : Aside0 (gb113 ≠ gb102) := ⟨h11_⟩
    have n12_ : Aside0 (gb103 ≠ gb113) := ⟨h12_⟩
    have n13_ : Aside0 (gb113 ≠ gb103) := ⟨h13_⟩
    have n14_ : Aside0 (Below w.heap.size w w27) := ⟨h14_⟩
    clear BK101
    clear BK102
    clear BK103
    clear HB
    clear h0_ h1_ h2_ h3_ h4_ h5_ h6_ h7_ h8_ h9_ h10_ h11_ h12_ h13_ h14_
    have HO109 := n0_
    have HO112 := n1_
    have BK101 := n2_
    have BK102 := n3_
    have BK103 := n4_
    have BK113 := n5_
    have GW113 := n6_
    have GE113 := n7_
    have NB101_113 := n8_
    have NB113_101 := n9_
    have NB102_113 := n10_
    have NB113_102 := n11_
    have NB103_113 := n12_
    have NB113_103 := n13_
    have HB := n14_
    clear n0_ n1_ n2_ n3_ n4_ n5_ n6_ n7_ n8_ n9_ n10_ n11_ n12_ n13_ n14_
    have hHeld : w27.cell? ⟨gb101, 0, none⟩ = some (.slice A0_0 l0_0.length c0_0) ∧ w27.cell? ⟨gb101, 1, none⟩ = some (.slice A0_1 l0_1.length c0_1) := hS_
    obtain ⟨Ao28, co28, eo28⟩ := Kd.R_slice HO112.out
    (first | subst eo28 | (injection eo28 with f1_ f2_ f3_; have f4_ := f1_.symm; have f5_ := f3_.symm; clear f1_ f2_ f3_; subst f4_; subst f5_))
    obtain ⟨Ao29, co29, eo29⟩ := Kd.R_slice HO109.out
    (first | subst eo29 | (injection eo29 with f1_ f2_ f3_; have f4_ := f1_.symm; have f5_ := f3_.symm; clear f1_ f2_ f3_; subst f4_; subst f5_))
    refine norm_ (a' := ?_) ?_ ?_
    rotate_left
    ·simp only [putAll, Act.put, List.setIfInBounds_toArray, List.set_cons_zero, List.set_cons_succ]
     rfl
    refine one_ (i := 12) (N := none) #[true, true, true, true, true, true, true, true, true, true, true, true, true] rfl rfl (one_of HT_.out (by kernel_rfl)) (by decide) (fun K hK => ?_)
    have hs30 : w27.cell? ⟨gb113, 0, none⟩ = some (.slice none 0 0) := (blk_cell BK113.out 0).trans rfl
    have hfs30 := blk_frozen BK113.out 0
    have hns30_0 := NB101_113.out
    have hns30_1 := NB102_113.out
    have hns30_2 := NB103_113.out
    have hms30_0 := NB113_101.out
    have hms30_1 := NB113_102.out
    have hms30_2 := NB113_103.out
    have hs31 : w27.cell? ⟨gb113, 1, none⟩ = some (.slice none 0 0) := (blk_cell BK113.out 1).trans rfl
    have hfs31 := blk_frozen BK113.out 1
    have hns31_0 := NB101_113.out
    have hns31_1 := NB102_113.out
    have hns31_2 := NB103_113.out
    have hms31_0 := NB113_101.out
    have hms31_1 := NB113_102.out
    have hms31_2 := NB113_103.out
    refine skip_ (w1 := ?_) (by rfl) rfl ?_ ?_
    rotate_left
    ·go_simp
     rfl
    refine hK.out _ _ ⟨((cell_far (p := ⟨gb113, _, none⟩) NB101_113.out _).trans (((cell_far (p := ⟨gb113, _, none⟩) NB101_113.out _).trans (hHeld.1)))), ((cell_far (p := ⟨gb113, _, none⟩) NB101_113.out _).trans (((cell_far (p := ⟨gb113, _, none⟩) NB101_113.out _).trans (hHeld.2))))⟩ (fun hHeld => ?_)
    clear hK K
    refine done_ (done_of HT_.out (by kernel_rfl)) ?_
    try go_wp2_with (first | ((with_reducible refine gate_dst (N := 13) rfl ?_); refine box_event ?hg (N := 13) ?hd (cs := #[.slice none 0 0, .slice none 0 0]) (t := 25) ?hr ?_; (case hd => rfl); (case hg => rfl); (case hr => first | (go_simp; done) | (go_simp; rfl)); intro gb114 hg w32 hbox hb; have n0_ := Aside0.mk (rB (by (with_reducible repeat (first | apply rA | apply rN | apply rD)); exact (Kd.R_mono (Kd.R_far (p := ⟨gb113, 1, none⟩) (Kd.R_far (p := ⟨gb113, 0, none⟩) (Kd.R_types HO109.out BK113.out (by decide)) (fun _ hk => hk.2) (.slice Ao29 t107.length co29)) (fun _ hk => hk.2) (.slice Ao28 t110.length co28)) (fun _ h_ => h_.1))) hb); have n1_ := Aside0.mk (rB (by (with_reducible repeat (first | apply rA | apply rN | apply rD)); exact (Kd.R_mono (Kd.R_far (p := ⟨gb113, 1, none⟩) (Kd.R_far (p := ⟨gb113, 0, none⟩) (Kd.R_types HO112.out BK113.out (by decide)) (fun _ hk => hk.2) (.slice Ao29 t107.length co29)) (fun _ hk => hk.2) (.slice Ao28 t110.length co28)) (fun _ h_ => h_.1))) hb); have n2_ := Aside0.mk (bB (g := gb101) (o := .cells #[.slice A0_0 l0_0.length c0_0, .slice A0_1 l0_1.length c0_1] 25 (0, 0)) (by (with_reducible repeat (first | refine bN ?_ _ | refine bD ?_ | refine bA ?_ _)); refine blk_far ?_ NB101_113.out _; (with_reducible repeat (first | refine bN ?_ _ | refine bD ?_ | refine bA ?_ _)); refine blk_far ?_ NB101_113.out _; (with_reducible repeat (first | refine bN ?_ _ | refine bD ?_ | refine bA ?_ _)); exact BK101.out) hb); have n3_ := Aside0.mk (bB (g := gb102) (o := .cells #[.slice none 0 0, .slice none 0 0] 25 (0, 0)) (by (with_reducible repeat (first | refine bN ?_ _ | refine bD ?_ | refine bA ?_ _)); refine blk_far ?_ NB102_113.out _; (with_reducible repeat (first | refine bN ?_ _ | refine bD ?_ | refine bA ?_ _)); refine blk_far ?_ NB102_113.out _; (with_reducible repeat (first | refine bN ?_ _ | refine bD ?_ | refine bA ?_ _)); exact BK102.out) hb); have n4_ := Aside0.mk (bB (g := gb103) (o := .cells #[.slice none 0 0, .slice none 0 0] 29 (0, 0)) (by (with_reducible repeat (first | refine bN ?_ _ | refine bD ?_ | refine bA ?_ _)); refine blk_far ?_ NB103_113.out _; (with_reducible repeat (first | refine bN ?_ _ | refine bD ?_ | refine bA ?_ _)); refine blk_far ?_ NB103_113.out _; (with_reducible repeat (first | refine bN ?_ _ | refine bD ?_ | refine bA ?_ _)); exact BK103.out) hb); have n5_ := Aside0.mk (bB (g := gb113) (o := .cells #[.slice Ao29 t107.length co29, .slice Ao28 t110.length co28] 29 (0, 0)) (by (with_reducible repeat (first | refine bN ?_ _ | refine bD ?_ | refine bA ?_ _)); refine blk_put (cs := #[.slice Ao29 t107.length co29, .slice none 0 0]) ?_ 1 _ rfl; (with_reducible repeat (first | refine bN ?_ _ | refine bD ?_ | refine bA ?_ _)); refine blk_put (cs := #[.slice none 0 0, .slice none 0 0]) ?_ 0 _ rfl; (with_reducible repeat (first | refine bN ?_ _ | refine bD ?_ | refine bA ?_ _)); exact BK113.out) hb); have n6_ := Aside0.mk (wS (by repeat (first | (with_reducible first | exact HB.out | apply wA | apply wN | apply wD | refine below_set ?_ GE101.out | refine below_set ?_ GE102.out | refine below_set ?_ GE103.out | refine below_set ?_ GE113.out) | exact HB.out)) hb); have n7_ := Aside0.mk (hbox); have n8_ := Aside0.mk ((by rw [hg]; exact (below_size (by repeat (first | (with_reducible first | exact HB.out | apply wA | apply wN | apply wD | refine below_set ?_ GE101.out | refine below_set ?_ GE102.out | refine below_set ?_ GE103.out | refine below_set ?_ GE113.out) | exact HB.out))) : w.heap.size ≤ gb114)); have n9_ := Aside0.mk ((by rw [hg]; exact (below_size (by repeat (first | (with_reducible first | exact HB.out | apply wA | apply wN | apply wD | refine below_set ?_ GE101.out | refine below_set ?_ GE102.out | refine below_set ?_ GE103.out | refine below_set ?_ GE113.out) | exact HB.out))) : w.heap.size ≤ gb114)); have n10_ := Aside0.mk ((by rw [hg]; exact Nat.ne_of_lt (blk_lt (g := gb101) (o := .cells #[.slice A0_0 l0_0.length c0_0, .slice A0_1 l0_1.length c0_1] 25 (0, 0)) (by (with_reducible repeat (first | refine bN ?_ _ | refine bD ?_ | refine bA ?_ _)); refine blk_far ?_ NB101_113.out _; (with_reducible repeat (first | refine bN ?_ _ | refine bD ?_ | refine bA ?_ _)); refine blk_far ?_ NB101_113.out _; (with_reducible repeat (first | refine bN ?_ _ | refine bD ?_ | refine bA ?_ _)); exact BK101.out)) : gb101 ≠ gb114)); have n11_ := Aside0.mk ((by rw [hg]; exact Nat.ne_of_gt (blk_lt (g := gb101) (o := .cells #[.slice A0_0 l0_0.length c0_0, .slice A0_1 l0_1.length c0_1] 25 (0, 0)) (by (with_reducible repeat (first | refine bN ?_ _ | refine bD ?_ | refine bA ?_ _)); refine blk_far ?_ NB101_113.out _; (with_reducible repeat (first | refine bN ?_ _ | refine bD ?_ | refine bA ?_ _)); refine blk_far ?_ NB101_113.out _; (with_reducible repeat (first | refine bN ?_ _ | refine bD ?_ | refine bA ?_ _)); exact BK101.out)) : gb114 ≠ gb101)); have n12_ := Aside0.mk ((by rw [hg]; exact Nat.ne_of_lt (blk_lt (g := gb102) (o := .cells #[.slice none 0 0, .slice none 0 0] 25 (0, 0)) (by (with_reducible repeat (first | refine bN ?_ _ | refine bD ?_ | refine bA ?_ _)); refine blk_far ?_ NB102_113.out _; (with_reducible repeat (first | refine bN ?_ _ | refine bD ?_ | refine bA ?_ _)); refine blk_far ?_ NB102_113.out _; (with_reducible repeat (first | refine bN ?_ _ | refine bD ?_ | refine bA ?_ _)); exact BK102.out)) : gb102 ≠ gb114)); have n13_ := Aside0.mk ((by rw [hg]; exact Nat.ne_of_gt (blk_lt (g := gb102) (o := .cells #[.slice none 0 0, .slice none 0 0] 25 (0, 0)) (by (with_reducible repeat (first | refine bN ?_ _ | refine bD ?_ | refine bA ?_ _)); refine blk_far ?_ NB102_113.out _; (with_reducible repeat (first | refine bN ?_ _ | refine bD ?_ | refine bA ?_ _)); refine blk_far ?_ NB102_113.out _; (with_reducible repeat (first | refine bN ?_ _ | refine bD ?_ | refine bA ?_ _)); exact BK102.out)) : gb114 ≠ gb102)); have n14_ := Aside0.mk ((by rw [hg]; exact Nat.ne_of_lt (blk_lt (g := gb103) (o := .cells #[.slice none 0 0, .slice none 0 0] 29 (0, 0)) (by (with_reducible repeat (first | refine bN ?_ _ | refine bD ?_ | refine bA ?_ _)); refine blk_far ?_ NB103_113.out _; (with_reducible repeat (first | refine bN ?_ _ | refine bD ?_ | refine bA ?_ _)); refine blk_far ?_ NB103_113.out _; (with_reducible repeat (first | refine bN ?_ _ | refine bD ?_ | refine bA ?_ _)); exact BK103.out)) : gb103 ≠ gb114)); have n15_ := Aside0.mk ((by rw [hg]; exact Nat.ne_of_gt (blk_lt (g := gb103) (o := .cells #[.slice none 0 0, .slice none 0 0] 29 (0, 0)) (by (with_reducible repeat (first | refine bN ?_ _ | refine bD ?_ | refine bA ?_ _)); refine blk_far ?_ NB103_113.out _; (with_reducible repeat (first | refine bN ?_ _ | refine bD ?_ | refine bA ?_ _)); refine blk_far ?_ NB103_113.out _; (with_reducible repeat (first | refine bN ?_ _ | refine bD ?_ | refine bA ?_ _)); exact BK103.out)) : gb114 ≠ gb103)); have n16_ := Aside0.mk ((by rw [hg]; exact Nat.ne_of_lt (blk_lt (g := gb113) (o := .cells #[.slice Ao29 t107.length co29, .slice Ao28 t110.length co28] 29 (0, 0)) (by (with_reducible repeat (first | refine bN ?_ _ | refine bD ?_ | refine bA ?_ _)); refine blk_put (cs := #[.slice Ao29 t107.length co29, .slice none 0 0]) ?_ 1 _ rfl; (with_reducible repeat (first | refine bN ?_ _ | refine bD ?_ | refine bA ?_ _)); refine blk_put (cs := #[.slice none 0 0, .slice none 0 0]) ?_ 0 _ rfl; (with_reducible repeat (first | refine bN ?_ _ | refine bD ?_ | refine bA ?_ _)); exact BK113.out)) : gb113 ≠ gb114)); have n17_ := Aside0.mk ((by rw [hg]; exact Nat.ne_of_gt (blk_lt (g := gb113) (o := .cells #[.slice Ao29 t107.length co29, .slice Ao28 t110.length co28] 29 (0, 0)) (by (with_reducible repeat (first | refine bN ?_ _ | refine bD ?_ | refine bA ?_ _)); refine blk_put (cs := #[.slice Ao29 t107.length co29, .slice none 0 0]) ?_ 1 _ rfl; (with_reducible repeat (first | refine bN ?_ _ | refine bD ?_ | refine bA ?_ _)); refine blk_put (cs := #[.slice none 0 0, .slice none 0 0]) ?_ 0 _ rfl; (with_reducible repeat (first | refine bN ?_ _ | refine bD ?_ | refine bA ?_ _)); exact BK113.out)) : gb114 ≠ gb113)); clear HO109; clear HO112; clear BK101; clear BK102; clear BK103; clear BK113; clear HB; have HO109 := n0_; have HO112 := n1_; have BK101 := n2_; have BK102 := n3_; have BK103 := n4_; have BK113 := n5_; have HB := n6_; have BK114 := n7_; have GW114 := n8_; have GE114 := n9_; have NB101_114 := n10_; have NB114_101 := n11_; have NB102_114 := n12_; have NB114_102 := n13_; have NB103_114 := n14_; have NB114_103 := n15_; have NB113_114 := n16_; have NB114_113 := n17_; clear n0_ n1_ n2_ n3_ n4_ n5_ n6_ n7_ n8_ n9_ n10_ n11_ n12_ n13_ n14_ n15_ n16_ n17_; clear hb hbox hg))
    go_loopg [14] k (fun kq v14 w' => ∃ (x14_1 : Int) (x115000_1 : List Int) (u115000 : Value), v14 = .int .i64 x14_1 ∧ Aside0 (scarfjointref05_Remove.l0 kq x14_1 l0_0 l0_1 t107 t110 x115000_1 = some (r1, r2, r3, r4, r5)) ∧ Aside0 (kq ≤ k) ∧ Aside0 (Kd.R (Kd.int .i64) 3 w' w.heap.size (fun k_ => some k_ ≠ ((.slice Ao28 t110.length co28) : Value).ownBlock ∧ some k_ ≠ (u115000 : Value).ownBlock) (.slice Ao29 t107.length co29) t107) ∧ Aside0 (Kd.R (Kd.int .i64) 3 w' w.heap.size (fun k_ => some k_ ≠ ((.slice Ao29 t107.length co29) : Value).ownBlock ∧ some k_ ≠ (u115000 : Value).ownBlock) (.slice Ao28 t110.length co28) t110) ∧ Aside0 (Kd.R (Kd.int .i64) 3 w' w.heap.size (fun k_ => some k_ ≠ ((.slice Ao29 t107.length co29) : Value).ownBlock ∧ some k_ ≠ ((.slice Ao28 t110.length co28) : Value).ownBlock) u115000 x115000_1) ∧ Aside0 (w'.heap[gb101]? = some (.cells #[(.slice A0_0 l0_0.length c0_0), (.slice A0_1 l0_1.length c0_1)] 25 (0, 0))) ∧ Aside0 (w'.heap[gb102]? = some (.cells #[(.slice none 0 0), (.slice none 0 0)] 25 (0, 0))) ∧ Aside0 (w'.heap[gb103]? = some (.cells #[(.slice none 0 0), (.slice none 0 0)] 29 (0, 0))) ∧ Aside0 (w'.heap[gb113]? = some (.cells #[(.slice Ao29 t107.length co29), (.slice Ao28 t110.length co28)] 29 (0, 0))) ∧ Aside0 (w'.heap[gb114]? = some (.cells #[u115000, (.slice none 0 0)] 25 (0, 0))) ∧ Aside0 (Below w.heap.size w w'))
    case atStart => exact ⟨(0), (([] : List Int)), (.slice none 0 0), rS, H', ⟨Nat.le_refl _⟩, ⟨by (with_reducible repeat (first | apply rA | apply rN | apply rD)); exact Kd.R_mono HO109.out (fun _ hk => ⟨hk, (by simp [Value.ownBlock])⟩)⟩, ⟨by (with_reducible repeat (first | apply rA | apply rN | apply rD)); exact Kd.R_mono HO112.out (fun _ hk => ⟨hk, (by simp [Value.ownBlock])⟩)⟩, ⟨by first | exact Kd.R_nil _ _ _ _ _ | exact Kd.N_nil _ _ _ _ _ | exact Kd.V_nil _ _ _ _ _ | exact Kd.Q_nil _ _ _ _ _ | exact Kd.S_nil _ _ _ _ _⟩, ⟨by (with_reducible repeat (first | refine bN ?_ _ | refine bD ?_ | refine bA ?_ _)); exact BK101.out⟩, ⟨by (with_reducible repeat (first | refine bN ?_ _ | refine bD ?_ | refine bA ?_ _)); exact BK102.out⟩, ⟨by (with_reducible repeat (first | refine bN ?_ _ | refine bD ?_ | refine bA ?_ _)); exact BK103.out⟩, ⟨by (with_reducible repeat (first | refine bN ?_ _ | refine bD ?_ | refine bA ?_ _)); exact BK113.out⟩, ⟨by (with_reducible repeat (first | refine bN ?_ _ | refine bD ?_ | refine bA ?_ _)); exact BK114.out⟩, ⟨by repeat (first | (with_reducible first | exact HB.out | apply wA | apply wN | apply wD | refine below_set ?_ GE101.out | refine below_set ?_ GE102.out | refine below_set ?_ GE103.out | refine below_set ?_ GE113.out | refine below_set ?_ GE114.out) | exact HB.out)⟩⟩
    case round =>
     clear H'
     try clear c1
     try clear c2
     try clear p2
     try clear c4
     try clear c5
     try clear c5b0
     try clear c5b1
     try clear c7
     try clear c7b0
     try clear c7b1
     try clear c9
     try clear c9b0
     try clear c9b1
     try clear c15
     try clear c16
     try clear c27
     try clear hcz17_0
     try clear hcz17_1
     try clear hcz19_0
     try clear hcz19_1
     try clear hcz20_0
     try clear hcz20_1
     try clear hfz17_0
     try clear hfz17_1
     try clear hfz19_0
     try clear hfz19_1
     try clear hfz20_0
     try clear hfz20_1
     obtain ⟨x14_1, x115000_1, u115000, rfl, HA, HK1, HO_114000, HO_114001, HO_115000, BK101, BK102, BK103, BK113, BK114, HB⟩ := hrel
     cases gk with
     | zero => exact absurd HA.out (by simp [scarfjointref05_Remove.l0])
     | succ k1 =>
      have H := HA.out
      clear HA
      simp only [scarfjointref05_Remove.l0] at H
      by_cases c33 : x14_1 < (l0_0.length : Int)
      ·rw [if_pos c33] at H
       have c33b0 : decide (x14_1 < (l0_0.length : Int)) = true := decide_eq_true c33
       clear c33
       by_cases c34 : 0 ≤ x14_1
       ·rw [if_pos c34] at H
        have c34b0 : decide (0 ≤ x14_1) = true := decide_eq_true c34
        clear c34
        by_cases c35 : x14_1 < (t107.length : Int)
        ·rw [if_pos c35] at H
         have c35b0 : decide (x14_1 < (t107.length : Int)) = true := decide_eq_true c35
         clear c35
         by_cases c36 : (rd t107 x14_1) ≥ 0
         ·rw [if_pos c36] at H
          have c36b0 : decide (0 ≤ (rd t107 x14_1)) = true := decide_eq_true c36
          clear c36
          by_cases c37 : x115000_1.length < 17592186044416
          ·rw [if_pos c37] at H
           have LMc37 := Aside0.mk c37
           clear c37
           obtain ⟨y117, hy117⟩ : ∃ y_ : List Int, y_ = (x115000_1 ++ [rd l0_0 x14_1]) := ⟨_, rfl⟩
           replace H : (scarfjointref05_Remove.l0 k1 (wrap64 (x14_1 + 1)) l0_0 l0_1 t107 t110 y117) = some (r1, r2, r3, r4, r5) := by first | (rw [hy117]; with_reducible exact H) | (have H2_ := (Option.bind_some _ _).symm.trans H; rw [hy117]; with_reducible exact H2_) | (have H2_ := (Option.bind_some _ _).symm.trans H; with_reducible exact H2_) | with_reducible exact H | (rw [hy117]; exact H) | exact H
           have Ny117 := Aside0.mk hy117
           clear hy117
           have H' := Aside0.mk H
           clear H
           have hnb38 := NB101_102.out
           have hnc38 := NB102_101.out
           have hnb39 := NB101_103.out
           have hnc39 := NB103_101.out
           have hnb40 := NB101_113.out
           have hnc40 := NB113_101.out
           have hnb41 := NB101_114.out
           have hnc41 := NB114_101.out
           have hcz42_0 : wr.cell? ⟨gb101, 0, none⟩ = some (.slice A0_0 l0_0.length c0_0) := (blk_cell BK101.out 0).trans rfl
           have hcz42_1 : wr.cell? ⟨gb101, 1, none⟩ = some (.slice A0_1 l0_1.length c0_1) := (blk_cell BK101.out 1).trans rfl
           have hfz42_0 := blk_frozen BK101.out 0
           have hfz42_1 := blk_frozen BK101.out 1
           have hnb43 := NB113_102.out
           have hnc43 := NB102_113.out
           have hnb44 := NB113_103.out
           have hnc44 := NB103_113.out
           have hnb45 := NB113_114.out
           have hnc45 := NB114_113.out
           have hcz46_0 : wr.cell? ⟨gb113, 0, none⟩ = some (.slice Ao29 t107.length co29) := (blk_cell BK113.out 0).trans rfl
           have hcz46_1 : wr.cell? ⟨gb113, 1, none⟩ = some (.slice Ao28 t110.length co28) := (blk_cell BK113.out 1).trans rfl
           have hfz46_0 := blk_frozen BK113.out 0
           have hfz46_1 := blk_frozen BK113.out 1
           have p115 : 0 ≤ (x14_1 : Int) := oT
           have q115 : x14_1 < (t107.length : Int) := oT
           obtain ⟨ad115, e115, hx115_0⟩ := Kd.at_int (Kd.R_reads' HO_114000.out).2.2 x14_1 p115 q115
           cases e115
           replace p115 := eq_true p115
           replace q115 := eq_true q115
           try go_wp2
           have n0_ := Aside0.mk (rD HO_114000.out)
           have n1_ := Aside0.mk (rD HO_114001.out)
           have n2_ := Aside0.mk (rD HO_115000.out)
           have n3_ := Aside0.mk (bD BK101.out)
           have n4_ := Aside0.mk (bD BK102.out)
           have n5_ := Aside0.mk (bD BK103.out)
           have n6_ := Aside0.mk (bD BK113.out)
           have n7_ := Aside0.mk (bD BK114.out)
           have n8_ := Aside0.mk (wD HB.out)
           clear HO_114000
           clear HO_114001
           clear HO_115000
           clear BK101
           clear BK102
           clear BK103
           clear BK113
           clear BK114
           clear HB
           have HO_114000 := n0_
           have HO_114001 := n1_
           have HO_115000 := n2_
           have BK101 := n3_
           have BK102 := n4_
           have BK103 := n5_
           have BK113 := n6_
           have BK114 := n7_
           have HB := n8_
           clear n0_ n1_ n2_ n3_ n4_ n5_ n6_ n7_ n8_
           have p116 : 0 ≤ (x14_1 : Int) := oT
           have q116 : x14_1 < (l0_0.length : Int) := oT
           obtain ⟨ad116, e116, hx116_0⟩ := Kd.at_int HR0_0.out x14_1 p116 q116
           have hw116_0 := hx116_0
           cases e116
           replace hx116_0 := (HB.out.cell (World.block_lt_of_cell? w _ hx116_0)).trans hx116_0
           replace p116 := eq_true p116
           replace q116 := eq_true q116
           refine start_ (n := 11) (S := fun w' => w'.cell? ⟨gb114, 0, none⟩ = some (u115000) ∧ w'.cell? ⟨gb114, 1, none⟩ = some (.slice none 0 0) ∧ w'.cell? ⟨gb101, 0, none⟩ = some (.slice (some ad116) l0_0.length c0_0) ∧ w'.cell? ⟨gb101, 1, none⟩ = some (.slice A0_1 l0_1.length c0_1) ∧ w'.cell? (ad116.add (x14_1).toNat) = some (.int .i64 (rd l0_0 x14_1))) (ds := [10]) #[false, false, false, false, false, false, false, false, false, false, false] (by kernel_rfl) rfl rfl ⟨(blk_cell BK114.out 0).trans rfl, (blk_cell BK114.out 1).trans rfl, (blk_cell BK101.out 0).trans rfl, (blk_cell BK101.out 1).trans rfl, ((HB.out.cell (World.block_lt_of_cell? w _ hw116_0)).trans hw116_0)⟩ (fun hHeld => ?_); refine with_tabW scarfjointref05_Remove.tab16 scarfjointref05_Remove.bits16 (fun HT_ HW_ => ?_)
           generalize wr.drew = w47 at HO_114000 HO_114001 HO_115000 BK101 BK102 BK103 BK113 BK114 HB hx116_0 hHeld ⊢
           refine pure_ (i := 0) (N := some 68) (v := ?_) (a' := ?_) #[true, false, false, false, false, false, false, false, false, false, false] rfl rfl (any_of HT_.out (by kernel_rfl)) (fun _ _ _ h => h) (Or.inl ⟨by rfl, ?_⟩) ?_ ?_
           rotate_left
           ·intro w'
            go_simp
            with_reducible rfl
           rotate_left
           ·simp only [Act.put, List.setIfInBounds_toArray, List.set_cons_zero, List.set_cons_succ, i64_w, i32_w]
            rfl
           refine pure_ (i := 2) (N := some 70) (v := ?_) (a' := ?_) #[true, false, true, false, false, false, false, false, false, false, false] rfl rfl (any_of HT_.out (by kernel_rfl)) (fun _ _ _ h => h) (Or.inl ⟨by rfl, ?_⟩) ?_ ?_
           rotate_left
           ·intro w'
            go_simp
            with_reducible rfl
           rotate_left
           ·simp only [Act.put, List.setIfInBounds_toArray, List.set_cons_zero, List.set_cons_succ, i64_w, i32_w]
            rfl
           refine pure_ (i := 4) (N := some 72) (v := ?_) (a' := ?_) #[true, false, true, false, true, false, false, false, false, false, false] rfl rfl (any_of HT_.out (by kernel_rfl)) (fun _ _ _ h => h) (Or.inl ⟨by rfl, ?_⟩) ?_ ?_
           rotate_left
           ·intro w'
            go_simp
            with_reducible rfl
           rotate_left
           ·simp only [Act.put, List.setIfInBounds_toArray, List.set_cons_zero, List.set_cons_succ, i64_w, i32_w]
            rfl
           refine take_ (i := 1) (N := some 69) (v := ?_) (a' := ?_) #[true, true, true, false, true, false, false, false, false, false, false] rfl rfl (take_ofW HT_.out HW_.out (by kernel_rfl)) (fun _ _ _ h => h) (Or.inl ⟨by rfl, ?_⟩) hHeld ?_ ?_
           rotate_left
           ·rintro w' ⟨s0, s1, s2, s3, s4⟩
            go_simp
            with_reducible rfl
           rotate_left
           ·simp only [Act.put, List.setIfInBounds_toArray, List.set_cons_zero, List.set_cons_succ, i64_w, i32_w]
            rfl
           refine take_ (i := 3) (N := some 71) (v := ?_) (a' := ?_) #[true, true, true, true, true, false, false, false, false, false, false] rfl rfl (take_ofW HT_.out HW_.out (by kernel_rfl)) (fun _ _ _ h => h) (Or.inl ⟨by rfl, ?_⟩) hHeld ?_ ?_
           rotate_left
           ·rintro w' ⟨s0, s1, s2, s3, s4⟩
            go_simp
            with_reducible rfl
           rotate_left
           ·simp only [Act.put, List.setIfInBounds_toArray, List.set_cons_zero, List.set_cons_succ, i64_w, i32_w]
            rfl
           refine pure_ (i := 5) (N := some 73) (v := ?_) (a' := ?_) #[true, true, true, true, true, true, false, false, false, false, false] rfl rfl (any_of HT_.out (by kernel_rfl)) (fun _ _ _ h => h) (Or.inl ⟨by rfl, ?_⟩) ?_ ?_
           rotate_left
           ·intro w'
            go_simp
            with_reducible rfl
           rotate_left
           ·simp only [Act.put, List.setIfInBounds_toArray, List.set_cons_zero, List.set_cons_succ, i64_w, i32_w]
            rfl
           refine take_ (i := 6) (N := some 74) (v := ?_) (a' := ?_) #[true, true, true, true, true, true, true, false, false, false, false] rfl rfl (take_ofW HT_.out HW_.out (by kernel_rfl)) (fun _ _ _ h => h) (Or.inl ⟨by rfl, ?_⟩) hHeld ?_ ?_
           rotate_left
           ·rintro w' ⟨s0, s1, s2, s3, s4⟩
            go_simp
            with_reducible rfl
           rotate_left
           ·simp only [Act.put, List.setIfInBounds_toArray, List.set_cons_zero, List.set_cons_succ, i64_w, i32_w]
            rfl
           refine one_ (i := 7) (N := some 75) #[true, true, true, true, true, true, true, true, false, false, false] rfl rfl (one_of HT_.out (by kernel_rfl)) (by decide) (fun K hK => ?_)
           refine value_ (w1 := ?_) (v := ?_) (by rfl) rfl ?_ ?_
           rotate_left 2
           ·go_simp
            constructor
            ·rfl
            ·rfl
           refine hK.out _ _ ⟨(blk_cell (bA BK114.out _) 0).trans rfl, (blk_cell (bA BK114.out _) 1).trans rfl, (blk_cell (bA BK101.out _) 0).trans rfl, (blk_cell (bA BK101.out _) 1).trans rfl, (World.cell?_alloc_lt _ _ _ (World.block_lt_of_cell? _ _ (((HB.out.cell (World.block_lt_of_cell? w _ hw116_0)).trans hw116_0)))).trans (((HB.out.cell (World.block_lt_of_cell? w _ hw116_0)).trans hw116_0))⟩ (fun hHeld => ?_)
           clear hK K
           refine norm_ (a' := ?_) ?_ ?_
           rotate_left
           ·show Act.put _ (some 75) _ = _
            simp only [Act.put, List.setIfInBounds_toArray, List.set_cons_zero, List.set_cons_succ, i64_w, i32_w]
            rfl
           refine one_ (i := 8) (N := some 76) #[true, true, true, true, true, true, true, true, true, false, false] rfl rfl (one_of HT_.out (by kernel_rfl)) (by decide) (fun K hK => ?_)
           refine Kd.R_append_step (Kd.int .i64) (w0 := w) w.heap.size (by rfl) (.tmp 69) (.tmp 75) 22 3 (.int .i64 0) 8 rfl Try.underlying22 info3 rfl (by decide) (by omega) u115000 x115000_1 (rd l0_0 x14_1) [.int .i64 (rd l0_0 x14_1)] (fun k_ => some k_ ≠ (.slice (some ad115) t107.length co29 : Value).ownBlock ∧ some k_ ≠ (.slice Ao28 t110.length co28 : Value).ownBlock) (fun _ => False) rfl rfl ?aP (fun _ hk => hk.elim) ?aF ?aO ?aB ?aS ?aL ?_
           (case aP => exact rfl)
           (case aB => exact (by repeat (first | (with_reducible first | exact HB.out | apply wA | apply wN | apply wD | refine below_set ?_ GE101.out | refine below_set ?_ GE102.out | refine below_set ?_ GE103.out | refine below_set ?_ GE113.out | refine below_set ?_ GE114.out) | exact HB.out)))
           (case aF => exact (fun k_ hk => ⟨Kd.fresh' (Kd.R_lt (by (with_reducible repeat (first | apply rA | apply rN | apply rD)); exact HO_114000.out)) k_ hk, Kd.fresh' (Kd.R_lt (by (with_reducible repeat (first | apply rA | apply rN | apply rD)); exact HO_114001.out)) k_ hk⟩))
           (case aO => exact (by (with_reducible repeat (first | apply rA | apply rN | apply rD)); exact HO_115000.out))
           (case aS => exact (below_size (by repeat (first | (with_reducible first | exact HB.out | apply wA | apply wN | apply wD | refine below_set ?_ GE101.out | refine below_set ?_ GE102.out | refine below_set ?_ GE103.out | refine below_set ?_ GE113.out | refine below_set ?_ GE114.out) | exact HB.out))))
           (case aL => have := LMc37.out; omega)
           intro v118 w48 ho hb hg hat
           rw [← Ny117.out] at ho
           have n0_ := Aside0.mk (Kd.R_after (ok := (fun k_ => some k_ ≠ (.slice Ao28 t110.length co28 : Value).ownBlock)) (by (with_reducible repeat (first | apply rA | apply rN | apply rD)); exact HO_114000.out) hg hat)
           have n1_ := Aside0.mk (Kd.R_after (ok := (fun k_ => some k_ ≠ (.slice (some ad115) t107.length co29 : Value).ownBlock)) (by (with_reducible repeat (first | apply rA | apply rN | apply rD)); exact HO_114001.out) hg hat)
           have n2_ := Aside0.mk (bG (g := gb101) (o := .cells #[.slice (some ad116) l0_0.length c0_0, .slice A0_1 l0_1.length c0_1] 25 (0, 0)) (by (with_reducible repeat (first | refine bN ?_ _ | refine bD ?_ | refine bA ?_ _)); exact BK101.out) hg (Kd.R_ne HO_115000.out BK101.out (by decide)))
           have n3_ := Aside0.mk (bG (g := gb102) (o := .cells #[.slice none 0 0, .slice none 0 0] 25 (0, 0)) (by (with_reducible repeat (first | refine bN ?_ _ | refine bD ?_ | refine bA ?_ _)); exact BK102.out) hg (Kd.R_ne HO_115000.out BK102.out (by decide)))
           have n4_ := Aside0.mk (bG (g := gb103) (o := .cells #[.slice none 0 0, .slice none 0 0] 29 (0, 0)) (by (with_reducible repeat (first | refine bN ?_ _ | refine bD ?_ | refine bA ?_ _)); exact BK103.out) hg (Kd.R_ne HO_115000.out BK103.out (by decide)))
           have n5_ := Aside0.mk (bG (g := gb113) (o := .cells #[.slice (some ad115) t107.length co29, .slice Ao28 t110.length co28] 29 (0, 0)) (by (with_reducible repeat (first | refine bN ?_ _ | refine bD ?_ | refine bA ?_ _)); exact BK113.out) hg (Kd.R_ne HO_115000.out BK113.out (by decide)))
           have n6_ := Aside0.mk (bG (g := gb114) (o := .cells #[u115000, .slice none 0 0] 25 (0, 0)) (by (with_reducible repeat (first | refine bN ?_ _ | refine bD ?_ | refine bA ?_ _)); exact BK114.out) hg (Kd.R_ne HO_115000.out BK114.out (by decide)))
           have n7_ := Aside0.mk (hb)
           have n8_ := Aside0.mk (ho)
           clear HO_114000
           clear HO_114001
           clear BK101
           clear BK102
           clear BK103
           clear BK113
           clear BK114
           clear HB
           clear HO_115000
           have HO_114000 := n0_
           have HO_114001 := n1_
           have BK101 := n2_
           have BK102 := n3_
           have BK103 := n4_
           have BK113 := n5_
           have BK114 := n6_
           have HB := n7_
           have HO119 := n8_
           clear n0_ n1_ n2_ n3_ n4_ n5_ n6_ n7_ n8_
           clear ho hb hg hat
           obtain ⟨Ao49, co49, eo49⟩ := Kd.R_slice HO119.out
           (first | subst eo49 | (injection eo49 with f1_ f2_ f3_; have f4_ := f1_.symm; have f5_ := f3_.symm; clear f1_ f2_ f3_; subst f4_; subst f5_))
           refine hK.out _ _ ⟨(blk_cell BK114.out 0).trans rfl, (blk_cell BK114.out 1).trans rfl, (blk_cell BK101.out 0).trans rfl, (blk_cell BK101.out 1).trans rfl, ((HB.out.cell (World.block_lt_of_cell? w _ hw116_0)).trans hw116_0)⟩ (fun hHeld => ?_)
           clear hK K
           refine norm_ (a' := ?_) ?_ ?_
           rotate_left
           ·show Act.put _ (some 76) _ = _
            simp only [Act.put, List.setIfInBounds_toArray, List.set_cons_zero, List.set_cons_succ, i64_w, i32_w]
            rfl
           refine pure_ (i := 9) (N := some 77) (v := ?_) (a' := ?_) #[true, true, true, true, true, true, true, true, true, true, false] rfl rfl (any_of HT_.out (by kernel_rfl)) (fun _ _ _ h => h) (Or.inl ⟨by rfl, ?_⟩) ?_ ?_
           rotate_left
           ·intro w'
            go_simp
            with_reducible rfl
           rotate_left
           ·simp only [Act.put, List.setIfInBounds_toArray, List.set_cons_zero, List.set_cons_succ, i64_w, i32_w]
            rfl
           refine last_ (i := 10) (N := none) #[true, true, true, true, true, true, true, true, true, true, true] rfl rfl (one_of HT_.out (by kernel_rfl)) (by decide) (fun K hK => ?_)
           have hs50 : w48.cell? ⟨gb114, 0, none⟩ = some (u115000) := (blk_cell BK114.out 0).trans rfl
           have hfs50 := blk_frozen BK114.out 0
           have hns50_0 := NB101_114.out
           have hns50_1 := NB102_114.out
           have hns50_2 := NB103_114.out
           have hns50_3 := NB113_114.out
           have hms50_0 := NB114_101.out
           have hms50_1 := NB114_102.out
           have hms50_2 := NB114_103.out
           have hms50_3 := NB114_113.out
           refine skip_ (w1 := ?_) (by rfl) rfl ?_ ?_
           rotate_left
           ·go_simp
            rfl
           refine hK.out _ _ ?_
           clear hK K
           refine done_ (done_of HT_.out (by kernel_rfl)) ?_
           try go_wp2
           go_roundg k1
           case measure => have := HK1.out; omega
           case rel => exact ⟨(wrap64 (x14_1 + 1)), (y117), (.slice Ao49 y117.length co49), rS, H', ⟨by have := HK1.out; omega⟩, ⟨by (with_reducible repeat (first | apply rA | apply rN | apply rD)); exact Kd.R_mono (Kd.R_far (p := ⟨gb114, 0, none⟩) (Kd.R_types HO_114000.out BK114.out (by decide)) (fun _ hk => hk.2) (.slice Ao49 y117.length co49)) (fun _ hk => ⟨hk.1.1, hk.1.2⟩)⟩, ⟨by (with_reducible repeat (first | apply rA | apply rN | apply rD)); exact Kd.R_mono (Kd.R_far (p := ⟨gb114, 0, none⟩) (Kd.R_types HO_114001.out BK114.out (by decide)) (fun _ hk => hk.2) (.slice Ao49 y117.length co49)) (fun _ hk => ⟨hk.1.1, hk.1.2⟩)⟩, ⟨by (with_reducible repeat (first | apply rA | apply rN | apply rD)); exact Kd.R_mono (Kd.R_far (p := ⟨gb114, 0, none⟩) (Kd.R_types HO119.out BK114.out (by decide)) (fun _ hk => hk.2) (.slice Ao49 y117.length co49)) (fun _ hk => ⟨hk.1.1, hk.1.2⟩)⟩, ⟨by (with_reducible repeat (first | refine bN ?_ _ | refine bD ?_ | refine bA ?_ _)); refine blk_far ?_ NB101_114.out _; (with_reducible repeat (first | refine bN ?_ _ | refine bD ?_ | refine bA ?_ _)); exact BK101.out⟩, ⟨by (with_reducible repeat (first | refine bN ?_ _ | refine bD ?_ | refine bA ?_ _)); refine blk_far ?_ NB102_114.out _; (with_reducible repeat (first | refine bN ?_ _ | refine bD ?_ | refine bA ?_ _)); exact BK102.out⟩, ⟨by (with_reducible repeat (first | refine bN ?_ _ | refine bD ?_ | refine bA ?_ _)); refine blk_far ?_ NB103_114.out _; (with_reducible repeat (first | refine bN ?_ _ | refine bD ?_ | refine bA ?_ _)); exact BK103.out⟩, ⟨by (with_reducible repeat (first | refine bN ?_ _ | refine bD ?_ | refine bA ?_ _)); refine blk_far ?_ NB113_114.out _; (with_reducible repeat (first | refine bN ?_ _ | refine bD ?_ | refine bA ?_ _)); exact BK113.out⟩, ⟨by (with_reducible repeat (first | refine bN ?_ _ | refine bD ?_ | refine bA ?_ _)); refine blk_put (cs := #[u115000, .slice none 0 0]) ?_ 0 _ rfl; (with_reducible repeat (first | refine bN ?_ _ | refine bD ?_ | refine bA ?_ _)); exact BK114.out⟩, ⟨by repeat (first | (with_reducible first | exact HB.out | apply wA | apply wN | apply wD | refine below_set ?_ GE101.out | refine below_set ?_ GE102.out | refine below_set ?_ GE103.out | refine below_set ?_ GE113.out | refine below_set ?_ GE114.out) | exact HB.out)⟩⟩
          ·rw [if_neg c37] at H
           exact absurd H (by simp)
         ·rw [if_neg c36] at H
          have c36b0 : decide (0 ≤ (rd t107 x14_1)) = false := decide_eq_false c36
          clear c36
          have H' := Aside0.mk H
          clear H
          have hnb51 := NB101_102.out
          have hnc51 := NB102_101.out
          have hnb52 := NB101_103.out
          have hnc52 := NB103_101.out
          have hnb53 := NB101_113.out
          have hnc53 := NB113_101.out
          have hnb54 := NB101_114.out
          have hnc54 := NB114_101.out
          have hcz55_0 : wr.cell? ⟨gb101, 0, none⟩ = some (.slice A0_0 l0_0.length c0_0) := (blk_cell BK101.out 0).trans rfl
          have hcz55_1 : wr.cell? ⟨gb101, 1, none⟩ = some (.slice A0_1 l0_1.length c0_1) := (blk_cell BK101.out 1).trans rfl
          have hfz55_0 := blk_frozen BK101.out 0
          have hfz55_1 := blk_frozen BK101.out 1
          have hnb56 := NB113_102.out
          have hnc56 := NB102_113.out
          have hnb57 := NB113_103.out
          have hnc57 := NB103_113.out
          have hnb58 := NB113_114.out
          have hnc58 := NB114_113.out
          have hcz59_0 : wr.cell? ⟨gb113, 0, none⟩ = some (.slice Ao29 t107.length co29) := (blk_cell BK113.out 0).trans rfl
          have hcz59_1 : wr.cell? ⟨gb113, 1, none⟩ = some (.slice Ao28 t110.length co28) := (blk_cell BK113.out 1).trans rfl
          have hfz59_0 := blk_frozen BK113.out 0
          have hfz59_1 := blk_frozen BK113.out 1
          have p115 : 0 ≤ (x14_1 : Int) := oT
          have q115 : x14_1 < (t107.length : Int) := oT
          obtain ⟨ad115, e115, hx115_0⟩ := Kd.at_int (Kd.R_reads' HO_114000.out).2.2 x14_1 p115 q115
          cases e115
          replace p115 := eq_true p115
          replace q115 := eq_true q115
          go_wp2
          go_roundg k1
          case measure => have := HK1.out; omega
          case rel => exact ⟨(wrap64 (x14_1 + 1)), (x115000_1), (u115000), rS, H', ⟨by have := HK1.out; omega⟩, ⟨by (with_reducible repeat (first | apply rA | apply rN | apply rD)); exact HO_114000.out⟩, ⟨by (with_reducible repeat (first | apply rA | apply rN | apply rD)); exact HO_114001.out⟩, ⟨by (with_reducible repeat (first | apply rA | apply rN | apply rD)); exact HO_115000.out⟩, ⟨by (with_reducible repeat (first | refine bN ?_ _ | refine bD ?_ | refine bA ?_ _)); exact BK101.out⟩, ⟨by (with_reducible repeat (first | refine bN ?_ _ | refine bD ?_ | refine bA ?_ _)); exact BK102.out⟩, ⟨by (with_reducible repeat (first | refine bN ?_ _ | refine bD ?_ | refine bA ?_ _)); exact BK103.out⟩, ⟨by (with_reducible repeat (first | refine bN ?_ _ | refine bD ?_ | refine bA ?_ _)); exact BK113.out⟩, ⟨by (with_reducible repeat (first | refine bN ?_ _ | refine bD ?_ | refine bA ?_ _)); exact BK114.out⟩, ⟨by repeat (first | (with_reducible first | exact HB.out | apply wA | apply wN | apply wD | refine below_set ?_ GE101.out | refine below_set ?_ GE102.out | refine below_set ?_ GE103.out | refine below_set ?_ GE113.out | refine below_set ?_ GE114.out) | exact HB.out)⟩⟩
        ·rw [if_neg c35] at H
         exact absurd H (by simp)
       ·rw [if_neg c34] at H
        exact absurd H (by simp)
      ·rw [if_neg c33] at H
       have c33b0 : decide (x14_1 < (l0_0.length : Int)) = false := decide_eq_false c33
       clear c33
       have H' := Aside0.mk H
       clear H
       have hnb60 := NB101_102.out
       have hnc60 := NB102_101.out
       have hnb61 := NB101_103.out
       have hnc61 := NB103_101.out
       have hnb62 := NB101_113.out
       have hnc62 := NB113_101.out
       have hnb63 := NB101_114.out
       have hnc63 := NB114_101.out
       have hcz64_0 : wr.cell? ⟨gb101, 0, none⟩ = some (.slice A0_0 l0_0.length c0_0) := (blk_cell BK101.out 0).trans rfl
       have hcz64_1 : wr.cell? ⟨gb101, 1, none⟩ = some (.slice A0_1 l0_1.length c0_1) := (blk_cell BK101.out 1).trans rfl
       have hfz64_0 := blk_frozen BK101.out 0
       have hfz64_1 := blk_frozen BK101.out 1
       go_wp2
       go_loopg [15] k1 (fun kq v15 w' => ∃ (x15_2 : Int) (x115001_2 : List (S38)) (u115001 : Value), v15 = .int .i64 x15_2 ∧ Aside0 (scarfjointref05_Remove.l1 kq x15_2 l0_0 l0_1 t107 t110 x115000_1 x115001_2 = some (r1, r2, r3, r4, r5)) ∧ Aside0 (kq ≤ k1) ∧ Aside0 (Kd.R (Kd.int .i64) 3 w' w.heap.size (fun k_ => some k_ ≠ ((.slice Ao28 t110.length co28) : Value).ownBlock ∧ some k_ ≠ (u115000 : Value).ownBlock) (.slice Ao29 t107.length co29) t107) ∧ Aside0 (Kd.R (Kd.int .i64) 3 w' w.heap.size (fun k_ => some k_ ≠ ((.slice Ao29 t107.length co29) : Value).ownBlock ∧ some k_ ≠ (u115000 : Value).ownBlock) (.slice Ao28 t110.length co28) t110) ∧ Aside0 (Kd.R (Kd.int .i64) 3 w' w.heap.size (fun k_ => some k_ ≠ ((.slice Ao29 t107.length co29) : Value).ownBlock ∧ some k_ ≠ ((.slice Ao28 t110.length co28) : Value).ownBlock) u115000 x115000_1) ∧ Aside0 (Kd.R k38 38 w' w.heap.size (fun _ => True) u115001 x115001_2) ∧ Aside0 (w'.heap[gb101]? = some (.cells #[(.slice A0_0 l0_0.length c0_0), (.slice A0_1 l0_1.length c0_1)] 25 (0, 0))) ∧ Aside0 (w'.heap[gb102]? = some (.cells #[(.slice none 0 0), (.slice none 0 0)] 25 (0, 0))) ∧ Aside0 (w'.heap[gb103]? = some (.cells #[(.slice none 0 0), (.slice none 0 0)] 29 (0, 0))) ∧ Aside0 (w'.heap[gb113]? = some (.cells #[(.slice Ao29 t107.length co29), (.slice Ao28 t110.length co28)] 29 (0, 0))) ∧ Aside0 (w'.heap[gb114]? = some (.cells #[u115000, u115001] 25 (0, 0))) ∧ Aside0 (Below w.heap.size w w'))
       case atStart => exact ⟨(0), (([] : List (S38))), (.slice none 0 0), rS, H', ⟨Nat.le_refl _⟩, ⟨by (with_reducible repeat (first | apply rA | apply rN | apply rD)); exact HO_114000.out⟩, ⟨by (with_reducible repeat (first | apply rA | apply rN | apply rD)); exact HO_114001.out⟩, ⟨by (with_reducible repeat (first | apply rA | apply rN | apply rD)); exact HO_115000.out⟩, ⟨by first | exact Kd.R_nil _ _ _ _ _ | exact Kd.N_nil _ _ _ _ _ | exact Kd.V_nil _ _ _ _ _ | exact Kd.Q_nil _ _ _ _ _ | exact Kd.S_nil _ _ _ _ _⟩, ⟨by (with_reducible repeat (first | refine bN ?_ _ | refine bD ?_ | refine bA ?_ _)); exact BK101.out⟩, ⟨by (with_reducible repeat (first | refine bN ?_ _ | refine bD ?_ | refine bA ?_ _)); exact BK102.out⟩, ⟨by (with_reducible repeat (first | refine bN ?_ _ | refine bD ?_ | refine bA ?_ _)); exact BK103.out⟩, ⟨by (with_reducible repeat (first | refine bN ?_ _ | refine bD ?_ | refine bA ?_ _)); exact BK113.out⟩, ⟨by (with_reducible repeat (first | refine bN ?_ _ | refine bD ?_ | refine bA ?_ _)); exact BK114.out⟩, ⟨by repeat (first | (with_reducible first | exact HB.out | apply wA | apply wN | apply wD | refine below_set ?_ GE101.out | refine below_set ?_ GE102.out | refine below_set ?_ GE103.out | refine below_set ?_ GE113.out | refine below_set ?_ GE114.out) | exact HB.out)⟩⟩
       case round =>
        clear H'
        try clear c1
        try clear p1
        try clear q1
        try clear hx1
        try clear c2
        try clear p2
        try clear c3
        try clear c4
        try clear c5
        try clear c5b0
        try clear c5b1
        try clear c6
        try clear p6
        try clear c7
        try clear c7b0
        try clear c7b1
        try clear c9
        try clear c9b0
        try clear c9b1
        try clear c15
        try clear p15
        try clear q15
        try clear hx15
        try clear c16
        try clear c27
        try clear c33
        try clear c33b0
        try clear c34
        try clear c34b0
        try clear c35
        try clear c35b0
        try clear c36
        try clear c36b0
        try clear c37
        try clear c38
        try clear c39
        try clear c40
        try clear c41
        try clear c42
        try clear c43
        try clear c44
        try clear c45
        try clear c51
        try clear c52
        try clear c53
        try clear c54
        try clear c56
        try clear c57
        try clear c58
        try clear c60
        try clear c61
        try clear c62
        try clear c63
        try clear p64
        try clear hcz17_0
        try clear hcz17_1
        try clear hcz19_0
        try clear hcz19_1
        try clear hcz20_0
        try clear hcz20_1
        try clear hcz42_0
        try clear hcz42_1
        try clear hcz46_0
        try clear hcz46_1
        try clear hcz55_0
        try clear hcz55_1
        try clear hcz59_0
        try clear hcz59_1
        try clear hcz64_0
        try clear hcz64_1
        try clear hfz17_0
        try clear hfz17_1
        try clear hfz19_0
        try clear hfz19_1
        try clear hfz20_0
        try clear hfz20_1
        try clear hfz42_0
        try clear hfz42_1
        try clear hfz46_0
        try clear hfz46_1
        try clear hfz55_0
        try clear hfz55_1
        try clear hfz59_0
        try clear hfz59_1
        try clear hfz64_0
        try clear hfz64_1
        try clear hx115_0
        try clear hx116_0
        try clear p115
        try clear p116
        try clear p2
        try clear q115
        try clear q116
        obtain ⟨x15_2, x115001_2, u115001, rfl, HA, HK2, HO_114000, HO_114001, HO_115000, HO_115001, BK101, BK102, BK103, BK113, BK114, HB⟩ := hrel
        cases gk with
        | zero => exact absurd HA.out (by simp [scarfjointref05_Remove.l1])
        | succ k2 =>
         have H := HA.out
         clear HA
         simp only [scarfjointref05_Remove.l1] at H
         by_cases c65 : x15_2 < (l0_1.length : Int)
         ·rw [if_pos c65] at H
          have c65b0 : decide (x15_2 < (l0_1.length : Int)) = true := decide_eq_true c65
          clear c65
          by_cases c66 : 0 ≤ x15_2
          ·rw [if_pos c66] at H
           have c66b0 : decide (0 ≤ x15_2) = true := decide_eq_true c66
           clear c66
           by_cases c67 : x15_2 < (t110.length : Int)
           ·rw [if_pos c67] at H
            have c67b0 : decide (x15_2 < (t110.length : Int)) = true := decide_eq_true c67
            clear c67
            by_cases c68 : (rd t110 x15_2) < 0
            ·rw [if_pos c68] at H
             have c68b0 : decide ((rd t110 x15_2) < 0) = true := decide_eq_true c68
             clear c68
             have H' := Aside0.mk H
             clear H
             have hnb69 := NB101_102.out
             have hnc69 := NB102_101.out
             have hnb70 := NB101_103.out
             have hnc70 := NB103_101.out
             have hnb71 := NB101_113.out
             have hnc71 := NB113_101.out
             have hnb72 := NB101_114.out
             have hnc72 := NB114_101.out
             have hcz73_0 : wr.cell? ⟨gb101, 0, none⟩ = some (.slice A0_0 l0_0.length c0_0) := (blk_cell BK101.out 0).trans rfl
             have hcz73_1 : wr.cell? ⟨gb101, 1, none⟩ = some (.slice A0_1 l0_1.length c0_1) := (blk_cell BK101.out 1).trans rfl
             have hfz73_0 := blk_frozen BK101.out 0
             have hfz73_1 := blk_frozen BK101.out 1
             have hnb74 := NB113_102.out
             have hnc74 := NB102_113.out
             have hnb75 := NB113_103.out
             have hnc75 := NB103_113.out
             have hnb76 := NB113_114.out
             have hnc76 := NB114_113.out
             have hcz77_0 : wr.cell? ⟨gb113, 0, none⟩ = some (.slice Ao29 t107.length co29) := (blk_cell BK113.out 0).trans rfl
             have hcz77_1 : wr.cell? ⟨gb113, 1, none⟩ = some (.slice Ao28 t110.length co28) := (blk_cell BK113.out 1).trans rfl
             have hfz77_0 := blk_frozen BK113.out 0
             have hfz77_1 := blk_frozen BK113.out 1
             have p120 : 0 ≤ (x15_2 : Int) := oT
             have q120 : x15_2 < (t110.length : Int) := oT
             obtain ⟨ad120, e120, hx120_0⟩ := Kd.at_int (Kd.R_reads' HO_114001.out).2.2 x15_2 p120 q120
             cases e120
             replace p120 := eq_true p120
             replace q120 := eq_true q120
             go_wp2
             go_roundg k2
             case measure => have := HK1.out; have := HK2.out; omega
             case rel => exact ⟨(wrap64 (x15_2 + 1)), (x115001_2), (u115001), rS, H', ⟨by have := HK1.out; have := HK2.out; omega⟩, ⟨by (with_reducible repeat (first | apply rA | apply rN | apply rD)); exact HO_114000.out⟩, ⟨by (with_reducible repeat (first | apply rA | apply rN | apply rD)); exact HO_114001.out⟩, ⟨by (with_reducible repeat (first | apply rA | apply rN | apply rD)); exact HO_115000.out⟩, ⟨by (with_reducible repeat (first | apply rA | apply rN | apply rD)); exact HO_115001.out⟩, ⟨by (with_reducible repeat (first | refine bN ?_ _ | refine bD ?_ | refine bA ?_ _)); exact BK101.out⟩, ⟨by (with_reducible repeat (first | refine bN ?_ _ | refine bD ?_ | refine bA ?_ _)); exact BK102.out⟩, ⟨by (with_reducible repeat (first | refine bN ?_ _ | refine bD ?_ | refine bA ?_ _)); exact BK103.out⟩, ⟨by (with_reducible repeat (first | refine bN ?_ _ | refine bD ?_ | refine bA ?_ _)); exact BK113.out⟩, ⟨by (with_reducible repeat (first | refine bN ?_ _ | refine bD ?_ | refine bA ?_ _)); exact BK114.out⟩, ⟨by repeat (first | (with_reducible first | exact HB.out | apply wA | apply wN | apply wD | refine below_set ?_ GE101.out | refine below_set ?_ GE102.out | refine below_set ?_ GE103.out | refine below_set ?_ GE113.out | refine below_set ?_ GE114.out) | exact HB.out)⟩⟩
            ·rw [if_neg c68] at H
             have c68b0 : decide ((rd t110 x15_2) < 0) = false := decide_eq_false c68
             clear c68
             by_cases c78 : 0 ≤ ((rd_T38 l0_1 x15_2).f1)
             ·rw [if_pos c78] at H
              have c78b0 : decide (0 ≤ ((rd_T38 l0_1 x15_2).f1)) = true := decide_eq_true c78
              clear c78
              by_cases c79 : ((rd_T38 l0_1 x15_2).f1) < (t107.length : Int)
              ·rw [if_pos c79] at H
               have c79b0 : decide (((rd_T38 l0_1 x15_2).f1) < (t107.length : Int)) = true := decide_eq_true c79
               clear c79
               by_cases c80 : 0 ≤ ((rd_T38 l0_1 x15_2).f2)
               ·rw [if_pos c80] at H
                have c80b0 : decide (0 ≤ ((rd_T38 l0_1 x15_2).f2)) = true := decide_eq_true c80
                clear c80
                by_cases c81 : ((rd_T38 l0_1 x15_2).f2) < (t107.length : Int)
                ·rw [if_pos c81] at H
                 have c81b0 : decide (((rd_T38 l0_1 x15_2).f2) < (t107.length : Int)) = true := decide_eq_true c81
                 clear c81
                 have HC82 := Aside0.mk H
                 clear H
                 have hnb83 := NB101_102.out
                 have hnc83 := NB102_101.out
                 have hnb84 := NB101_103.out
                 have hnc84 := NB103_101.out
                 have hnb85 := NB101_113.out
                 have hnc85 := NB113_101.out
                 have hnb86 := NB101_114.out
                 have hnc86 := NB114_101.out
                 have hcz87_0 : wr.cell? ⟨gb101, 0, none⟩ = some (.slice A0_0 l0_0.length c0_0) := (blk_cell BK101.out 0).trans rfl
                 have hcz87_1 : wr.cell? ⟨gb101, 1, none⟩ = some (.slice A0_1 l0_1.length c0_1) := (blk_cell BK101.out 1).trans rfl
                 have hfz87_0 := blk_frozen BK101.out 0
                 have hfz87_1 := blk_frozen BK101.out 1
                 have hnb88 := NB113_102.out
                 have hnc88 := NB102_113.out
                 have hnb89 := NB113_103.out
                 have hnc89 := NB103_113.out
                 have hnb90 := NB113_114.out
                 have hnc90 := NB114_113.out
                 have hcz91_0 : wr.cell? ⟨gb113, 0, none⟩ = some (.slice Ao29 t107.length co29) := (blk_cell BK113.out 0).trans rfl
                 have hcz91_1 : wr.cell? ⟨gb113, 1, none⟩ = some (.slice Ao28 t110.length co28) := (blk_cell BK113.out 1).trans rfl
                 have hfz91_0 := blk_frozen BK113.out 0
                 have hfz91_1 := blk_frozen BK113.out 1
                 have p120 : 0 ≤ (x15_2 : Int) := oT
                 have q120 : x15_2 < (t110.length : Int) := oT
                 obtain ⟨ad120, e120, hx120_0⟩ := Kd.at_int (Kd.R_reads' HO_114001.out).2.2 x15_2 p120 q120
                 cases e120
                 replace p120 := eq_true p120
                 replace q120 := eq_true q120
                 try go_wp2
                 have n0_ := Aside0.mk (rD HO_114000.out)
                 have n1_ := Aside0.mk (rD HO_114001.out)
                 have n2_ := Aside0.mk (rD HO_115000.out)
                 have n3_ := Aside0.mk (rD HO_115001.out)
                 have n4_ := Aside0.mk (bD BK101.out)
                 have n5_ := Aside0.mk (bD BK102.out)
                 have n6_ := Aside0.mk (bD BK103.out)
                 have n7_ := Aside0.mk (bD BK113.out)
                 have n8_ := Aside0.mk (bD BK114.out)
                 have n9_ := Aside0.mk (wD HB.out)
                 clear HO_114000
                 clear HO_114001
                 clear HO_115000
                 clear HO_115001
                 clear BK101
                 clear BK102
                 clear BK103
                 clear BK113
                 clear BK114
                 clear HB
                 have HO_114000 := n0_
                 have HO_114001 := n1_
                 have HO_115000 := n2_
                 have HO_115001 := n3_
                 have BK101 := n4_
                 have BK102 := n5_
                 have BK103 := n6_
                 have BK113 := n7_
                 have BK114 := n8_
                 have HB := n9_
                 clear n0_ n1_ n2_ n3_ n4_ n5_ n6_ n7_ n8_ n9_
                 have p121 : 0 ≤ (x15_2 : Int) := oT
                 have q121 : x15_2 < (l0_1.length : Int) := oT
                 obtain ⟨ad121, e121, hx121_0, hx121_1, hx121_2⟩ := at_T38 HR0_1.out x15_2 p121 q121
                 have hw121_2 := hx121_2
                 have hw121_1 := hx121_1
                 have hw121_0 := hx121_0
                 cases e121
                 replace hx121_0 := (HB.out.cell (World.block_lt_of_cell? w _ hx121_0)).trans hx121_0
                 replace hx121_1 := (HB.out.cell (World.block_lt_of_cell? w _ hx121_1)).trans hx121_1
                 replace hx121_2 := (HB.out.cell (World.block_lt_of_cell? w _ hx121_2)).trans hx121_2
                 replace p121 := eq_true p121
                 replace q121 := eq_true q121
                 have p122 : 0 ≤ (x15_2 : Int) := oT
                 have q122 : x15_2 < (l0_1.length : Int) := oT
                 obtain ⟨ad122, e122, hx122_0, hx122_1, hx122_2⟩ := at_T38 HR0_1.out x15_2 p122 q122
                 have hw122_2 := hx122_2
                 have hw122_1 := hx122_1
                 have hw122_0 := hx122_0
                 obtain rfl : ad121 = ad122 := (by injection e122)
                 replace hx122_0 := (HB.out.cell (World.block_lt_of_cell? w _ hx122_0)).trans hx122_0
                 replace hx122_1 := (HB.out.cell (World.block_lt_of_cell? w _ hx122_1)).trans hx122_1
                 replace hx122_2 := (HB.out.cell (World.block_lt_of_cell? w _ hx122_2)).trans hx122_2
                 replace p122 := eq_true p122
                 replace q122 := eq_true q122
                 have p123 : 0 ≤ (((rd_T38 l0_1 x15_2).f1) : Int) := oT
                 have q123 : ((rd_T38 l0_1 x15_2).f1) < (t107.length : Int) := oT
                 obtain ⟨ad123, e123, hx123_0⟩ := Kd.at_int (Kd.R_reads' HO_114000.out).2.2 ((rd_T38 l0_1 x15_2).f1) p123 q123
                 cases e123
                 replace p123 := eq_true p123
                 replace q123 := eq_true q123
                 have p124 : 0 ≤ (x15_2 : Int) := oT
                 have q124 : x15_2 < (l0_1.length : Int) := oT
                 obtain ⟨ad124, e124, hx124_0, hx124_1, hx124_2⟩ := at_T38 HR0_1.out x15_2 p124 q124
                 have hw124_2 := hx124_2
                 have hw124_1 := hx124_1
                 have hw124_0 := hx124_0
                 obtain rfl : ad121 = ad124 := (by injection e124)
                 replace hx124_0 := (HB.out.cell (World.block_lt_of_cell? w _ hx124_0)).trans hx124_0
                 replace hx124_1 := (HB.out.cell (World.block_lt_of_cell? w _ hx124_1)).trans hx124_1
                 replace hx124_2 := (HB.out.cell (World.block_lt_of_cell? w _ hx124_2)).trans hx124_2
                 replace p124 := eq_true p124
                 replace q124 := eq_true q124
                 have p125 : 0 ≤ (((rd_T38 l0_1 x15_2).f2) : Int) := oT
                 have q125 : ((rd_T38 l0_1 x15_2).f2) < (t107.length : Int) := oT
                 obtain ⟨ad125, e125, hx125_0⟩ := Kd.at_int (Kd.R_reads' HO_114000.out).2.2 ((rd_T38 l0_1 x15_2).f2) p125 q125
                 obtain rfl : ad123 = ad125 := (by injection e125)
                 replace p125 := eq_true p125
                 replace q125 := eq_true q125
                 refine start_ (n := 29) (S := fun w' => w'.cell? ⟨gb101, 0, none⟩ = some (.slice A0_0 l0_0.length c0_0) ∧ w'.cell? ⟨gb101, 1, none⟩ = some (.slice (some ad121) l0_1.length c0_1) ∧ w'.cell? ⟨gb113, 0, none⟩ = some (.slice (some ad123) t107.length co29) ∧ w'.cell? ⟨gb113, 1, none⟩ = some (.slice (some ad120) t110.length co28) ∧ w'.cell? (ad121.add ((x15_2).toNat * 3)) = some (.int .i64 ((rd_T38 l0_1 x15_2).f0)) ∧ w'.cell? ⟨(ad121.add ((x15_2).toNat * 3)).block, (ad121.add ((x15_2).toNat * 3)).off + 1, none⟩ = some (.int .i64 ((rd_T38 l0_1 x15_2).f1)) ∧ w'.cell? ⟨(ad121.add ((x15_2).toNat * 3)).block, (ad121.add ((x15_2).toNat * 3)).off + 2, none⟩ = some (.int .i64 ((rd_T38 l0_1 x15_2).f2)) ∧ w'.cell? (ad121.add ((x15_2).toNat * 3)) = some (.int .i64 ((rd_T38 l0_1 x15_2).f0)) ∧ w'.cell? ⟨(ad121.add ((x15_2).toNat * 3)).block, (ad121.add ((x15_2).toNat * 3)).off + 1, none⟩ = some (.int .i64 ((rd_T38 l0_1 x15_2).f1)) ∧ w'.cell? ⟨(ad121.add ((x15_2).toNat * 3)).block, (ad121.add ((x15_2).toNat * 3)).off + 2, none⟩ = some (.int .i64 ((rd_T38 l0_1 x15_2).f2)) ∧ w'.cell? (ad123.add (((rd_T38 l0_1 x15_2).f1)).toNat) = some (.int .i64 (rd t107 ((rd_T38 l0_1 x15_2).f1))) ∧ w'.cell? (ad121.add ((x15_2).toNat * 3)) = some (.int .i64 ((rd_T38 l0_1 x15_2).f0)) ∧ w'.cell? ⟨(ad121.add ((x15_2).toNat * 3)).block, (ad121.add ((x15_2).toNat * 3)).off + 1, none⟩ = some (.int .i64 ((rd_T38 l0_1 x15_2).f1)) ∧ w'.cell? ⟨(ad121.add ((x15_2).toNat * 3)).block, (ad121.add ((x15_2).toNat * 3)).off + 2, none⟩ = some (.int .i64 ((rd_T38 l0_1 x15_2).f2)) ∧ w'.cell? (ad123.add (((rd_T38 l0_1 x15_2).f2)).toNat) = some (.int .i64 (rd t107 ((rd_T38 l0_1 x15_2).f2)))) (ds := []) #[false, false, false, false, false, false, false, false, false, false, false, false, false, false, false, false, false, false, false, false, false, false, false, false, false, false, false, false, false] (by kernel_rfl) rfl rfl ⟨(blk_cell BK101.out 0).trans rfl, (blk_cell BK101.out 1).trans rfl, (blk_cell BK113.out 0).trans rfl, (blk_cell BK113.out 1).trans rfl, ((HB.out.cell (World.block_lt_of_cell? w _ hw121_0)).trans hw121_0), ((HB.out.cell (World.block_lt_of_cell? w _ hw121_1)).trans hw121_1), ((HB.out.cell (World.block_lt_of_cell? w _ hw121_2)).trans hw121_2), ((HB.out.cell (World.block_lt_of_cell? w _ hw122_0)).trans hw122_0), ((HB.out.cell (World.block_lt_of_cell? w _ hw122_1)).trans hw122_1), ((HB.out.cell (World.block_lt_of_cell? w _ hw122_2)).trans hw122_2), hx123_0, ((HB.out.cell (World.block_lt_of_cell? w _ hw124_0)).trans hw124_0), ((HB.out.cell (World.block_lt_of_cell? w _ hw124_1)).trans hw124_1), ((HB.out.cell (World.block_lt_of_cell? w _ hw124_2)).trans hw124_2), hx125_0⟩ (fun hHeld => ?_); refine with_tabW scarfjointref05_Remove.tab21 scarfjointref05_Remove.bits21 (fun HT_ HW_ => ?_)
                 generalize wr.drew = w92 at HO_114000 HO_114001 HO_115000 HO_115001 BK101 BK102 BK103 BK113 BK114 HB hx121_0 hx121_1 hx121_2 hx122_0 hx122_1 hx122_2 hx123_0 hx124_0 hx124_1 hx124_2 hx125_0 hHeld ⊢
                 refine pure_ (i := 0) (N := some 91) (v := ?_) (a' := ?_) #[true, false, false, false, false, false, false, false, false, false, false, false, false, false, false, false, false, false, false, false, false, false, false, false, false, false, false, false, false] rfl rfl (any_of HT_.out (by kernel_rfl)) (fun _ _ _ h => h) (Or.inl ⟨by rfl, ?_⟩) ?_ ?_
                 rotate_left
                 ·intro w'
                  go_simp
                  with_reducible rfl
                 rotate_left
                 ·simp only [Act.put, List.setIfInBounds_toArray, List.set_cons_zero, List.set_cons_succ, i64_w, i32_w]
                  rfl
                 refine pure_ (i := 2) (N := some 93) (v := ?_) (a' := ?_) #[true, false, true, false, false, false, false, false, false, false, false, false, false, false, false, false, false, false, false, false, false, false, false, false, false, false, false, false, false] rfl rfl (any_of HT_.out (by kernel_rfl)) (fun _ _ _ h => h) (Or.inl ⟨by rfl, ?_⟩) ?_ ?_
                 rotate_left
                 ·intro w'
                  go_simp
                  with_reducible rfl
                 rotate_left
                 ·simp only [Act.put, List.setIfInBounds_toArray, List.set_cons_zero, List.set_cons_succ, i64_w, i32_w]
                  rfl
                 refine pure_ (i := 6) (N := some 97) (v := ?_) (a' := ?_) #[true, false, true, false, false, false, true, false, false, false, false, false, false, false, false, false, false, false, false, false, false, false, false, false, false, false, false, false, false] rfl rfl (any_of HT_.out (by kernel_rfl)) (fun _ _ _ h => h) (Or.inl ⟨by rfl, ?_⟩) ?_ ?_
                 rotate_left
                 ·intro w'
                  go_simp
                  with_reducible rfl
                 rotate_left
                 ·simp only [Act.put, List.setIfInBounds_toArray, List.set_cons_zero, List.set_cons_succ, i64_w, i32_w]
                  rfl
                 refine pure_ (i := 8) (N := some 99) (v := ?_) (a' := ?_) #[true, false, true, false, false, false, true, false, true, false, false, false, false, false, false, false, false, false, false, false, false, false, false, false, false, false, false, false, false] rfl rfl (any_of HT_.out (by kernel_rfl)) (fun _ _ _ h => h) (Or.inl ⟨by rfl, ?_⟩) ?_ ?_
                 rotate_left
                 ·intro w'
                  go_simp
                  with_reducible rfl
                 rotate_left
                 ·simp only [Act.put, List.setIfInBounds_toArray, List.set_cons_zero, List.set_cons_succ, i64_w, i32_w]
                  rfl
                 refine pure_ (i := 10) (N := some 101) (v := ?_) (a' := ?_) #[true, false, true, false, false, false, true, false, true, false, true, false, false, false, false, false, false, false, false, false, false, false, false, false, false, false, false, false, false] rfl rfl (any_of HT_.out (by kernel_rfl)) (fun _ _ _ h => h) (Or.inl ⟨by rfl, ?_⟩) ?_ ?_
                 rotate_left
                 ·intro w'
                  go_simp
                  with_reducible rfl
                 rotate_left
                 ·simp only [Act.put, List.setIfInBounds_toArray, List.set_cons_zero, List.set_cons_succ, i64_w, i32_w]
                  rfl
                 refine pure_ (i := 16) (N := some 107) (v := ?_) (a' := ?_) #[true, false, true, false, false, false, true, false, true, false, true, false, false, false, false, false, true, false, false, false, false, false, false, false, false, false, false, false, false] rfl rfl (any_of HT_.out (by kernel_rfl)) (fun _ _ _ h => h) (Or.inl ⟨by rfl, ?_⟩) ?_ ?_
                 rotate_left
                 ·intro w'
                  go_simp
                  with_reducible rfl
                 rotate_left
                 ·simp only [Act.put, List.setIfInBounds_toArray, List.set_cons_zero, List.set_cons_succ, i64_w, i32_w]
                  rfl
                 refine pure_ (i := 18) (N := some 109) (v := ?_) (a' := ?_) #[true, false, true, false, false, false, true, false, true, false, true, false, false, false, false, false, true, false, true, false, false, false, false, false, false, false, false, false, false] rfl rfl (any_of HT_.out (by kernel_rfl)) (fun _ _ _ h => h) (Or.inl ⟨by rfl, ?_⟩) ?_ ?_
                 rotate_left
                 ·intro w'
                  go_simp
                  with_reducible rfl
                 rotate_left
                 ·simp only [Act.put, List.setIfInBounds_toArray, List.set_cons_zero, List.set_cons_succ, i64_w, i32_w]
                  rfl
                 refine pure_ (i := 20) (N := some 111) (v := ?_) (a' := ?_) #[true, false, true, false, false, false, true, false, true, false, true, false, false, false, false, false, true, false, true, false, true, false, false, false, false, false, false, false, false] rfl rfl (any_of HT_.out (by kernel_rfl)) (fun _ _ _ h => h) (Or.inl ⟨by rfl, ?_⟩) ?_ ?_
                 rotate_left
                 ·intro w'
                  go_simp
                  with_reducible rfl
                 rotate_left
                 ·simp only [Act.put, List.setIfInBounds_toArray, List.set_cons_zero, List.set_cons_succ, i64_w, i32_w]
                  rfl
                 refine take_ (i := 1) (N := some 92) (v := ?_) (a' := ?_) #[true, true, true, false, false, false, true, false, true, false, true, false, false, false, false, false, true, false, true, false, true, false, false, false, false, false, false, false, false] rfl rfl (take_ofW HT_.out HW_.out (by kernel_rfl)) (fun _ _ _ h => h) (Or.inl ⟨by rfl, ?_⟩) hHeld ?_ ?_
                 rotate_left
                 ·rintro w' ⟨s0, s1, s2, s3, s4, s5, s6, s7, s8, s9, s10, s11, s12, s13, s14⟩
                  go_simp
                  with_reducible rfl
                 rotate_left
                 ·simp only [Act.put, List.setIfInBounds_toArray, List.set_cons_zero, List.set_cons_succ, i64_w, i32_w]
                  rfl
                 refine pure_ (i := 3) (N := some 94) (v := ?_) (a' := ?_) #[true, true, true, true, false, false, true, false, true, false, true, false, false, false, false, false, true, false, true, false, true, false, false, false, false, false, false, false, false] rfl rfl (any_of HT_.out (by kernel_rfl)) (fun _ _ _ h => h) (Or.inl ⟨by rfl, ?_⟩) ?_ ?_
                 rotate_left
                 ·intro w'
                  go_simp
                  with_reducible rfl
                 rotate_left
                 ·simp only [Act.put, List.setIfInBounds_toArray, List.set_cons_zero, List.set_cons_succ, i64_w, i32_w]
                  rfl
                 refine pure_ (i := 4) (N := some 95) (v := ?_) (a' := ?_) #[true, true, true, true, true, false, true, false, true, false, true, false, false, false, false, false, true, false, true, false, true, false, false, false, false, false, false, false, false] rfl rfl (any_of HT_.out (by kernel_rfl)) (fun _ _ _ h => h) (Or.inl ⟨by rfl, ?_⟩) ?_ ?_
                 rotate_left
                 ·intro w'
                  go_simp
                  with_reducible rfl
                 rotate_left
                 ·simp only [Act.put, List.setIfInBounds_toArray, List.set_cons_zero, List.set_cons_succ, i64_w, i32_w]
                  rfl
                 refine take_ (i := 5) (N := some 96) (v := ?_) (a' := ?_) #[true, true, true, true, true, true, true, false, true, false, true, false, false, false, false, false, true, false, true, false, true, false, false, false, false, false, false, false, false] rfl rfl (take_ofW HT_.out HW_.out (by kernel_rfl)) (fun _ _ _ h => h) (Or.inl ⟨by rfl, ?_⟩) hHeld ?_ ?_
                 rotate_left
                 ·rintro w' ⟨s0, s1, s2, s3, s4, s5, s6, s7, s8, s9, s10, s11, s12, s13, s14⟩
                  go_simp
                  with_reducible rfl
                 rotate_left
                 ·simp only [Act.put, List.setIfInBounds_toArray, List.set_cons_zero, List.set_cons_succ, i64_w, i32_w]
                  rfl
                 refine take_ (i := 7) (N := some 98) (v := ?_) (a' := ?_) #[true, true, true, true, true, true, true, true, true, false, true, false, false, false, false, false, true, false, true, false, true, false, false, false, false, false, false, false, false] rfl rfl (take_ofW HT_.out HW_.out (by kernel_rfl)) (fun _ _ _ h => h) (Or.inl ⟨by rfl, ?_⟩) hHeld ?_ ?_
                 rotate_left
                 ·rintro w' ⟨s0, s1, s2, s3, s4, s5, s6, s7, s8, s9, s10, s11, s12, s13, s14⟩
                  go_simp
                  with_reducible rfl
                 rotate_left
                 ·simp only [Act.put, List.setIfInBounds_toArray, List.set_cons_zero, List.set_cons_succ, i64_w, i32_w]
                  rfl
                 refine take_ (i := 9) (N := some 100) (v := ?_) (a' := ?_) #[true, true, true, true, true, true, true, true, true, true, true, false, false, false, false, false, true, false, true, false, true, false, false, false, false, false, false, false, false] rfl rfl (take_ofW HT_.out HW_.out (by kernel_rfl)) (fun _ _ _ h => h) (Or.inl ⟨by rfl, ?_⟩) hHeld ?_ ?_
                 rotate_left
                 ·rintro w' ⟨s0, s1, s2, s3, s4, s5, s6, s7, s8, s9, s10, s11, s12, s13, s14⟩
                  go_simp
                  with_reducible rfl
                 rotate_left
                 ·simp only [Act.put, List.setIfInBounds_toArray, List.set_cons_zero, List.set_cons_succ, i64_w, i32_w]
                  rfl
                 refine pure_ (i := 11) (N := some 102) (v := ?_) (a' := ?_) #[true, true, true, true, true, true, true, true, true, true, true, true, false, false, false, false, true, false, true, false, true, false, false, false, false, false, false, false, false] rfl rfl (any_of HT_.out (by kernel_rfl)) (fun _ _ _ h => h) (Or.inl ⟨by rfl, ?_⟩) ?_ ?_
                 rotate_left
                 ·intro w'
                  go_simp
                  with_reducible rfl
                 rotate_left
                 ·simp only [Act.put, List.setIfInBounds_toArray, List.set_cons_zero, List.set_cons_succ, i64_w, i32_w]
                  rfl
                 refine pure_ (i := 12) (N := some 103) (v := ?_) (a' := ?_) #[true, true, true, true, true, true, true, true, true, true, true, true, true, false, false, false, true, false, true, false, true, false, false, false, false, false, false, false, false] rfl rfl (any_of HT_.out (by kernel_rfl)) (fun _ _ _ h => h) (Or.inl ⟨by rfl, ?_⟩) ?_ ?_
                 rotate_left
                 ·intro w'
                  go_simp
                  with_reducible rfl
                 rotate_left
                 ·simp only [Act.put, List.setIfInBounds_toArray, List.set_cons_zero, List.set_cons_succ, i64_w, i32_w]
                  rfl
                 refine take_ (i := 13) (N := some 104) (v := ?_) (a' := ?_) #[true, true, true, true, true, true, true, true, true, true, true, true, true, true, false, false, true, false, true, false, true, false, false, false, false, false, false, false, false] rfl rfl (take_ofW HT_.out HW_.out (by kernel_rfl)) (fun _ _ _ h => h) (Or.inl ⟨by rfl, ?_⟩) hHeld ?_ ?_
                 rotate_left
                 ·rintro w' ⟨s0, s1, s2, s3, s4, s5, s6, s7, s8, s9, s10, s11, s12, s13, s14⟩
                  go_simp
                  with_reducible rfl
                 rotate_left
                 ·simp only [Act.put, List.setIfInBounds_toArray, List.set_cons_zero, List.set_cons_succ, i64_w, i32_w]
                  rfl
                 refine pure_ (i := 14) (N := some 105) (v := ?_) (a' := ?_) #[true, true, true, true, true, true, true, true, true, true, true, true, true, true, true, false, true, false, true, false, true, false, false, false, false, false, false, false, false] rfl rfl (any_of HT_.out (by kernel_rfl)) (fun _ _ _ h => h) (Or.inl ⟨by rfl, ?_⟩) ?_ ?_
                 rotate_left
                 ·intro w'
                  go_simp
                  with_reducible rfl
                 rotate_left
                 ·simp only [Act.put, List.setIfInBounds_toArray, List.set_cons_zero, List.set_cons_succ, i64_w, i32_w]
                  rfl
                 refine take_ (i := 15) (N := some 106) (v := ?_) (a' := ?_) #[true, true, true, true, true, true, true, true, true, true, true, true, true, true, true, true, true, false, true, false, true, false, false, false, false, false, false, false, false] rfl rfl (take_ofW HT_.out HW_.out (by kernel_rfl)) (fun _ _ _ h => h) (Or.inl ⟨by rfl, ?_⟩) hHeld ?_ ?_
                 rotate_left
                 ·rintro w' ⟨s0, s1, s2, s3, s4, s5, s6, s7, s8, s9, s10, s11, s12, s13, s14⟩
                  go_simp
                  with_reducible rfl
                 rotate_left
                 ·simp only [Act.put, List.setIfInBounds_toArray, List.set_cons_zero, List.set_cons_succ, i64_w, i32_w]
                  rfl
                 refine take_ (i := 17) (N := some 108) (v := ?_) (a' := ?_) #[true, true, true, true, true, true, true, true, true, true, true, true, true, true, true, true, true, true, true, false, true, false, false, false, false, false, false, false, false] rfl rfl (take_ofW HT_.out HW_.out (by kernel_rfl)) (fun _ _ _ h => h) (Or.inl ⟨by rfl, ?_⟩) hHeld ?_ ?_
                 rotate_left
                 ·rintro w' ⟨s0, s1, s2, s3, s4, s5, s6, s7, s8, s9, s10, s11, s12, s13, s14⟩
                  go_simp
                  with_reducible rfl
                 rotate_left
                 ·simp only [Act.put, List.setIfInBounds_toArray, List.set_cons_zero, List.set_cons_succ, i64_w, i32_w]
                  rfl
                 refine take_ (i := 19) (N := some 110) (v := ?_) (a' := ?_) #[true, true, true, true, true, true, true, true, true, true, true, true, true, true, true, true, true, true, true, true, true, false, false, false, false, false, false, false, false] rfl rfl (take_ofW HT_.out HW_.out (by kernel_rfl)) (fun _ _ _ h => h) (Or.inl ⟨by rfl, ?_⟩) hHeld ?_ ?_
                 rotate_left
                 ·rintro w' ⟨s0, s1, s2, s3, s4, s5, s6, s7, s8, s9, s10, s11, s12, s13, s14⟩
                  go_simp
                  with_reducible rfl
                 rotate_left
                 ·simp only [Act.put, List.setIfInBounds_toArray, List.set_cons_zero, List.set_cons_succ, i64_w, i32_w]
                  rfl
                 refine pure_ (i := 21) (N := some 112) (v := ?_) (a' := ?_) #[true, true, true, true, true, true, true, true, true, true, true, true, true, true, true, true, true, true, true, true, true, true, false, false, false, false, false, false, false] rfl rfl (any_of HT_.out (by kernel_rfl)) (fun _ _ _ h => h) (Or.inl ⟨by rfl, ?_⟩) ?_ ?_
                 rotate_left
                 ·intro w'
                  go_simp
                  with_reducible rfl
                 rotate_left
                 ·simp only [Act.put, List.setIfInBounds_toArray, List.set_cons_zero, List.set_cons_succ, i64_w, i32_w]
                  rfl
                 refine pure_ (i := 22) (N := some 113) (v := ?_) (a' := ?_) #[true, true, true, true, true, true, true, true, true, true, true, true, true, true, true, true, true, true, true, true, true, true, true, false, false, false, false, false, false] rfl rfl (any_of HT_.out (by kernel_rfl)) (fun _ _ _ h => h) (Or.inl ⟨by rfl, ?_⟩) ?_ ?_
                 rotate_left
                 ·intro w'
                  go_simp
                  with_reducible rfl
                 rotate_left
                 ·simp only [Act.put, List.setIfInBounds_toArray, List.set_cons_zero, List.set_cons_succ, i64_w, i32_w]
                  rfl
                 refine take_ (i := 23) (N := some 114) (v := ?_) (a' := ?_) #[true, true, true, true, true, true, true, true, true, true, true, true, true, true, true, true, true, true, true, true, true, true, true, true, false, false, false, false, false] rfl rfl (take_ofW HT_.out HW_.out (by kernel_rfl)) (fun _ _ _ h => h) (Or.inl ⟨by rfl, ?_⟩) hHeld ?_ ?_
                 rotate_left
                 ·rintro w' ⟨s0, s1, s2, s3, s4, s5, s6, s7, s8, s9, s10, s11, s12, s13, s14⟩
                  go_simp
                  with_reducible rfl
                 rotate_left
                 ·simp only [Act.put, List.setIfInBounds_toArray, List.set_cons_zero, List.set_cons_succ, i64_w, i32_w]
                  rfl
                 refine pure_ (i := 24) (N := some 115) (v := ?_) (a' := ?_) #[true, true, true, true, true, true, true, true, true, true, true, true, true, true, true, true, true, true, true, true, true, true, true, true, true, false, false, false, false] rfl rfl (any_of HT_.out (by kernel_rfl)) (fun _ _ _ h => h) (Or.inl ⟨by rfl, ?_⟩) ?_ ?_
                 rotate_left
                 ·intro w'
                  go_simp
                  with_reducible rfl
                 rotate_left
                 ·simp only [Act.put, List.setIfInBounds_toArray, List.set_cons_zero, List.set_cons_succ, i64_w, i32_w]
                  rfl
                 refine take_ (i := 25) (N := some 116) (v := ?_) (a' := ?_) #[true, true, true, true, true, true, true, true, true, true, true, true, true, true, true, true, true, true, true, true, true, true, true, true, true, true, false, false, false] rfl rfl (take_ofW HT_.out HW_.out (by kernel_rfl)) (fun _ _ _ h => h) (Or.inl ⟨by rfl, ?_⟩) hHeld ?_ ?_
                 rotate_left
                 ·rintro w' ⟨s0, s1, s2, s3, s4, s5, s6, s7, s8, s9, s10, s11, s12, s13, s14⟩
                  go_simp
                  with_reducible rfl
                 rotate_left
                 ·simp only [Act.put, List.setIfInBounds_toArray, List.set_cons_zero, List.set_cons_succ, i64_w, i32_w]
                  rfl
                 refine pure_ (i := 26) (N := some 117) (v := ?_) (a' := ?_) #[true, true, true, true, true, true, true, true, true, true, true, true, true, true, true, true, true, true, true, true, true, true, true, true, true, true, true, false, false] rfl rfl (any_of HT_.out (by kernel_rfl)) (fun _ _ _ h => h) (Or.inl ⟨by rfl, ?_⟩) ?_ ?_
                 rotate_left
                 ·intro w'
                  go_simp
                  with_reducible rfl
                 rotate_left
                 ·simp only [Act.put, List.setIfInBounds_toArray, List.set_cons_zero, List.set_cons_succ, i64_w, i32_w]
                  rfl
                 refine one_ (i := 27) (N := some 16) #[true, true, true, true, true, true, true, true, true, true, true, true, true, true, true, true, true, true, true, true, true, true, true, true, true, true, true, true, false] rfl rfl (one_of HT_.out (by kernel_rfl)) (by decide) (fun K hK => ?_)
                 refine box_step ?hg (N := 16) ?hd (cs := #[.int .i64 0, .int .i64 0, .int .i64 0]) (t := 38) ?hr ?_; (case hd => rfl); (case hg => rfl); (case hr => first | (go_simp; done) | (go_simp; rfl))
                 intro gb126 hg w93 hbox hb
                 have HS10_ := (hb.cell (World.block_lt_of_cell? _ _ (hHeld.2.2.2.2.2.2.2.2.2.2.1))).trans (hHeld.2.2.2.2.2.2.2.2.2.2.1)
                 have HS14_ := (hb.cell (World.block_lt_of_cell? _ _ (hHeld.2.2.2.2.2.2.2.2.2.2.2.2.2.2))).trans (hHeld.2.2.2.2.2.2.2.2.2.2.2.2.2.2)
                 have n0_ := Aside0.mk (rB (by (with_reducible repeat (first | apply rA | apply rN | apply rD)); exact HO_114000.out) hb)
                 have n1_ := Aside0.mk (rB (by (with_reducible repeat (first | apply rA | apply rN | apply rD)); exact HO_114001.out) hb)
                 have n2_ := Aside0.mk (rB (by (with_reducible repeat (first | apply rA | apply rN | apply rD)); exact HO_115000.out) hb)
                 have n3_ := Aside0.mk (rB (Kd.R_elderB (by (with_reducible repeat (first | apply rA | apply rN | apply rD)); exact HO_115001.out) gb126 (Nat.le_of_eq hg.symm)) hb)
                 have n4_ := Aside0.mk (bB (g := gb101) (o := .cells #[.slice A0_0 l0_0.length c0_0, .slice (some ad121) l0_1.length c0_1] 25 (0, 0)) (by (with_reducible repeat (first | refine bN ?_ _ | refine bD ?_ | refine bA ?_ _)); exact BK101.out) hb)
                 have n5_ := Aside0.mk (bB (g := gb102) (o := .cells #[.slice none 0 0, .slice none 0 0] 25 (0, 0)) (by (with_reducible repeat (first | refine bN ?_ _ | refine bD ?_ | refine bA ?_ _)); exact BK102.out) hb)
                 have n6_ := Aside0.mk (bB (g := gb103) (o := .cells #[.slice none 0 0, .slice none 0 0] 29 (0, 0)) (by (with_reducible repeat (first | refine bN ?_ _ | refine bD ?_ | refine bA ?_ _)); exact BK103.out) hb)
                 have n7_ := Aside0.mk (bB (g := gb113) (o := .cells #[.slice (some ad123) t107.length co29, .slice (some ad120) t110.length co28] 29 (0, 0)) (by (with_reducible repeat (first | refine bN ?_ _ | refine bD ?_ | refine bA ?_ _)); exact BK113.out) hb)
                 have n8_ := Aside0.mk (bB (g := gb114) (o := .cells #[u115000, u115001] 25 (0, 0)) (by (with_reducible repeat (first | refine bN ?_ _ | refine bD ?_ | refine bA ?_ _)); exact BK114.out) hb)
                 have n9_ := Aside0.mk (wS (by repeat (first | (with_reducible first | exact HB.out | apply wA | apply wN | apply wD | refine below_set ?_ GE101.out | refine below_set ?_ GE102.out | refine below_set ?_ GE103.out | refine below_set ?_ GE113.out | refine below_set ?_ GE114.out) | exact HB.out)) hb)
                 have n10_ := Aside0.mk (hbox)
                 have n11_ := Aside0.mk ((by rw [hg]; exact (below_size (by repeat (first | (with_reducible first | exact HB.out | apply wA | apply wN | apply wD | refine below_set ?_ GE101.out | refine below_set ?_ GE102.out | refine below_set ?_ GE103.out | refine below_set ?_ GE113.out | refine below_set ?_ GE114.out) | exact HB.out))) : w.heap.size ≤ gb126))
                 have n12_ := Aside0.mk ((by rw [hg]; exact (below_size (by repeat (first | (with_reducible first | exact HB.out | apply wA | apply wN | apply wD | refine below_set ?_ GE101.out | refine below_set ?_ GE102.out | refine below_set ?_ GE103.out | refine below_set ?_ GE113.out | refine below_set ?_ GE114.out) | exact HB.out))) : w.heap.size ≤ gb126))
                 have n13_ := Aside0.mk ((by rw [hg]; exact Nat.ne_of_lt (blk_lt (g := gb101) (o := .cells #[.slice A0_0 l0_0.length c0_0, .slice (some ad121) l0_1.length c0_1] 25 (0, 0)) (by (with_reducible repeat (first | refine bN ?_ _ | refine bD ?_ | refine bA ?_ _)); exact BK101.out)) : gb101 ≠ gb126))
                 have n14_ := Aside0.mk ((by rw [hg]; exact Nat.ne_of_gt (blk_lt (g := gb101) (o := .cells #[.slice A0_0 l0_0.length c0_0, .slice (some ad121) l0_1.length c0_1] 25 (0, 0)) (by (with_reducible repeat (first | refine bN ?_ _ | refine bD ?_ | refine bA ?_ _)); exact BK101.out)) : gb126 ≠ gb101))
                 have n15_ := Aside0.mk ((by rw [hg]; exact Nat.ne_of_lt (blk_lt (g := gb102) (o := .cells #[.slice none 0 0, .slice none 0 0] 25 (0, 0)) (by (with_reducible repeat (first | refine bN ?_ _ | refine bD ?_ | refine bA ?_ _)); exact BK102.out)) : gb102 ≠ gb126))
                 have n16_ := Aside0.mk ((by rw [hg]; exact Nat.ne_of_gt (blk_lt (g := gb102) (o := .cells #[.slice none 0 0, .slice none 0 0] 25 (0, 0)) (by (with_reducible repeat (first | refine bN ?_ _ | refine bD ?_ | refine bA ?_ _)); exact BK102.out)) : gb126 ≠ gb102))
                 have n17_ := Aside0.mk ((by rw [hg]; exact Nat.ne_of_lt (blk_lt (g := gb103) (o := .cells #[.slice none 0 0, .slice none 0 0] 29 (0, 0)) (by (with_reducible repeat (first | refine bN ?_ _ | refine bD ?_ | refine bA ?_ _)); exact BK103.out)) : gb103 ≠ gb126))
                 have n18_ := Aside0.mk ((by rw [hg]; exact Nat.ne_of_gt (blk_lt (g := gb103) (o := .cells #[.slice none 0 0, .slice none 0 0] 29 (0, 0)) (by (with_reducible repeat (first | refine bN ?_ _ | refine bD ?_ | refine bA ?_ _)); exact BK103.out)) : gb126 ≠ gb103))
                 have n19_ := Aside0.mk ((by rw [hg]; exact Nat.ne_of_lt (blk_lt (g := gb113) (o := .cells #[.slice (some ad123) t107.length co29, .slice (some ad120) t110.length co28] 29 (0, 0)) (by (with_reducible repeat (first | refine bN ?_ _ | refine bD ?_ | refine bA ?_ _)); exact BK113.out)) : gb113 ≠ gb126))
                 have n20_ := Aside0.mk ((by rw [hg]; exact Nat.ne_of_gt (blk_lt (g := gb113) (o := .cells #[.slice (some ad123) t107.length co29, .slice (some ad120) t110.length co28] 29 (0, 0)) (by (with_reducible repeat (first | refine bN ?_ _ | refine bD ?_ | refine bA ?_ _)); exact BK113.out)) : gb126 ≠ gb113))
                 have n21_ := Aside0.mk ((by rw [hg]; exact Nat.ne_of_lt (blk_lt (g := gb114) (o := .cells #[u115000, u115001] 25 (0, 0)) (by (with_reducible repeat (first | refine bN ?_ _ | refine bD ?_ | refine bA ?_ _)); exact BK114.out)) : gb114 ≠ gb126))
                 have n22_ := Aside0.mk ((by rw [hg]; exact Nat.ne_of_gt (blk_lt (g := gb114) (o := .cells #[u115000, u115001] 25 (0, 0)) (by (with_reducible repeat (first | refine bN ?_ _ | refine bD ?_ | refine bA ?_ _)); exact BK114.out)) : gb126 ≠ gb114))
                 clear HO_114000
                 clear HO_114001
                 clear HO_115000
                 clear HO_115001
                 clear BK101
                 clear BK102
                 clear BK103
                 clear BK113
                 clear BK114
                 clear HB
                 have HO_114000 := n0_
                 have HO_114001 := n1_
                 have HO_115000 := n2_
                 have HO_115001 := n3_
                 have BK101 := n4_
                 have BK102 := n5_
                 have BK103 := n6_
                 have BK113 := n7_
                 have BK114 := n8_
                 have HB := n9_
                 have BK126 := n10_
                 have GW126 := n11_
                 have GE126 := n12_
                 have NB101_126 := n13_
                 have NB126_101 := n14_
                 have NB102_126 := n15_
                 have NB126_102 := n16_
                 have NB103_126 := n17_
                 have NB126_103 := n18_
                 have NB113_126 := n19_
                 have NB126_113 := n20_
                 have NB114_126 := n21_
                 have NB126_114 := n22_
                 clear n0_ n1_ n2_ n3_ n4_ n5_ n6_ n7_ n8_ n9_ n10_ n11_ n12_ n13_ n14_ n15_ n16_ n17_ n18_ n19_ n20_ n21_ n22_
                 clear hb hbox hg
                 refine hK.out _ _ ⟨(blk_cell BK101.out 0).trans rfl, (blk_cell BK101.out 1).trans rfl, (blk_cell BK113.out 0).trans rfl, (blk_cell BK113.out 1).trans rfl, ((HB.out.cell (World.block_lt_of_cell? w _ hw121_0)).trans hw121_0), ((HB.out.cell (World.block_lt_of_cell? w _ hw121_1)).trans hw121_1), ((HB.out.cell (World.block_lt_of_cell? w _ hw121_2)).trans hw121_2), ((HB.out.cell (World.block_lt_of_cell? w _ hw122_0)).trans hw122_0), ((HB.out.cell (World.block_lt_of_cell? w _ hw122_1)).trans hw122_1), ((HB.out.cell (World.block_lt_of_cell? w _ hw122_2)).trans hw122_2), HS10_, ((HB.out.cell (World.block_lt_of_cell? w _ hw124_0)).trans hw124_0), ((HB.out.cell (World.block_lt_of_cell? w _ hw124_1)).trans hw124_1), ((HB.out.cell (World.block_lt_of_cell? w _ hw124_2)).trans hw124_2), HS14_⟩ (fun hHeld => ?_)
                 clear hK K
                 refine norm_ (a' := ?_) ?_ ?_
                 rotate_left
                 ·show Act.put _ (some 16) _ = _
                  simp only [Act.put, List.setIfInBounds_toArray, List.set_cons_zero, List.set_cons_succ, i64_w, i32_w]
                  rfl
                 refine one_ (i := 28) (N := none) #[true, true, true, true, true, true, true, true, true, true, true, true, true, true, true, true, true, true, true, true, true, true, true, true, true, true, true, true, true] rfl rfl (one_of HT_.out (by kernel_rfl)) (by decide) (fun K hK => ?_)
                 have hs94 : w93.cell? ⟨gb126, 0, none⟩ = some (.int .i64 0) := (blk_cell BK126.out 0).trans rfl
                 have hfs94 := blk_frozen BK126.out 0
                 have hns94_0 := NB101_126.out
                 have hns94_1 := NB102_126.out
                 have hns94_2 := NB103_126.out
                 have hns94_3 := NB113_126.out
                 have hns94_4 := NB114_126.out
                 have hms94_0 := NB126_101.out
                 have hms94_1 := NB126_102.out
                 have hms94_2 := NB126_103.out
                 have hms94_3 := NB126_113.out
                 have hms94_4 := NB126_114.out
                 have hs95 : w93.cell? ⟨gb126, 1, none⟩ = some (.int .i64 0) := (blk_cell BK126.out 1).trans rfl
                 have hfs95 := blk_frozen BK126.out 1
                 have hns95_0 := NB101_126.out
                 have hns95_1 := NB102_126.out
                 have hns95_2 := NB103_126.out
                 have hns95_3 := NB113_126.out
                 have hns95_4 := NB114_126.out
                 have hms95_0 := NB126_101.out
                 have hms95_1 := NB126_102.out
                 have hms95_2 := NB126_103.out
                 have hms95_3 := NB126_113.out
                 have hms95_4 := NB126_114.out
                 have hs96 : w93.cell? ⟨gb126, 2, none⟩ = some (.int .i64 0) := (blk_cell BK126.out 2).trans rfl
                 have hfs96 := blk_frozen BK126.out 2
                 have hns96_0 := NB101_126.out
                 have hns96_1 := NB102_126.out
                 have hns96_2 := NB103_126.out
                 have hns96_3 := NB113_126.out
                 have hns96_4 := NB114_126.out
                 have hms96_0 := NB126_101.out
                 have hms96_1 := NB126_102.out
                 have hms96_2 := NB126_103.out
                 have hms96_3 := NB126_113.out
                 have hms96_4 := NB126_114.out
                 refine skip_ (w1 := ?_) (by rfl) rfl ?_ ?_
                 rotate_left
                 ·go_simp
                  rfl
                 refine hK.out _ _ ⟨((cell_far (p := ⟨gb126, _, none⟩) NB101_126.out _).trans (((cell_far (p := ⟨gb126, _, none⟩) NB101_126.out _).trans (((cell_far (p := ⟨gb126, _, none⟩) NB101_126.out _).trans (hHeld.1)))))), ((cell_far (p := ⟨gb126, _, none⟩) NB101_126.out _).trans (((cell_far (p := ⟨gb126, _, none⟩) NB101_126.out _).trans (((cell_far (p := ⟨gb126, _, none⟩) NB101_126.out _).trans (hHeld.2.1)))))), ((cell_far (p := ⟨gb126, _, none⟩) NB113_126.out _).trans (((cell_far (p := ⟨gb126, _, none⟩) NB113_126.out _).trans (((cell_far (p := ⟨gb126, _, none⟩) NB113_126.out _).trans (hHeld.2.2.1)))))), ((cell_far (p := ⟨gb126, _, none⟩) NB113_126.out _).trans (((cell_far (p := ⟨gb126, _, none⟩) NB113_126.out _).trans (((cell_far (p := ⟨gb126, _, none⟩) NB113_126.out _).trans (hHeld.2.2.2.1)))))), ((cell_far (p := ⟨gb126, _, none⟩) (by first | exact Nat.ne_of_lt (Nat.lt_of_lt_of_le (by have := World.block_lt_of_cell? _ _ hw121_0; first | rwa [add_block] at this | exact this) GW126.out) | (rw [add_block]; exact Nat.ne_of_lt (Nat.lt_of_lt_of_le (by have := World.block_lt_of_cell? _ _ hw121_0; first | rwa [add_block] at this | exact this) GW126.out)) | (show (Addr.add _ _).block ≠ _; rw [add_block]; exact Nat.ne_of_lt (Nat.lt_of_lt_of_le (by have := World.block_lt_of_cell? _ _ hw121_0; first | rwa [add_block] at this | exact this) GW126.out)) | (dsimp only; exact Nat.ne_of_lt (Nat.lt_of_lt_of_le (by have := World.block_lt_of_cell? _ _ hw121_0; first | rwa [add_block] at this | exact this) GW126.out))) _).trans (((cell_far (p := ⟨gb126, _, none⟩) (by first | exact Nat.ne_of_lt (Nat.lt_of_lt_of_le (by have := World.block_lt_of_cell? _ _ hw121_0; first | rwa [add_block] at this | exact this) GW126.out) | (rw [add_block]; exact Nat.ne_of_lt (Nat.lt_of_lt_of_le (by have := World.block_lt_of_cell? _ _ hw121_0; first | rwa [add_block] at this | exact this) GW126.out)) | (show (Addr.add _ _).block ≠ _; rw [add_block]; exact Nat.ne_of_lt (Nat.lt_of_lt_of_le (by have := World.block_lt_of_cell? _ _ hw121_0; first | rwa [add_block] at this | exact this) GW126.out)) | (dsimp only; exact Nat.ne_of_lt (Nat.lt_of_lt_of_le (by have := World.block_lt_of_cell? _ _ hw121_0; first | rwa [add_block] at this | exact this) GW126.out))) _).trans (((cell_far (p := ⟨gb126, _, none⟩) (by first | exact Nat.ne_of_lt (Nat.lt_of_lt_of_le (by have := World.block_lt_of_cell? _ _ hw121_0; first | rwa [add_block] at this | exact this) GW126.out) | (rw [add_block]; exact Nat.ne_of_lt (Nat.lt_of_lt_of_le (by have := World.block_lt_of_cell? _ _ hw121_0; first | rwa [add_block] at this | exact this) GW126.out)) | (show (Addr.add _ _).block ≠ _; rw [add_block]; exact Nat.ne_of_lt (Nat.lt_of_lt_of_le (by have := World.block_lt_of_cell? _ _ hw121_0; first | rwa [add_block] at this | exact this) GW126.out)) | (dsimp only; exact Nat.ne_of_lt (Nat.lt_of_lt_of_le (by have := World.block_lt_of_cell? _ _ hw121_0; first | rwa [add_block] at this | exact this) GW126.out))) _).trans (hHeld.2.2.2.2.1)))))), ((cell_far (p := ⟨gb126, _, none⟩) (by first | exact Nat.ne_of_lt (Nat.lt_of_lt_of_le (by have := World.block_lt_of_cell? _ _ hw121_1; first | rwa [add_block] at this | exact this) GW126.out) | (rw [add_block]; exact Nat.ne_of_lt (Nat.lt_of_lt_of_le (by have := World.block_lt_of_cell? _ _ hw121_1; first | rwa [add_block] at this | exact this) GW126.out)) | (show (Addr.add _ _).block ≠ _; rw [add_block]; exact Nat.ne_of_lt (Nat.lt_of_lt_of_le (by have := World.block_lt_of_cell? _ _ hw121_1; first | rwa [add_block] at this | exact this) GW126.out)) | (dsimp only; exact Nat.ne_of_lt (Nat.lt_of_lt_of_le (by have := World.block_lt_of_cell? _ _ hw121_1; first | rwa [add_block] at this | exact this) GW126.out))) _).trans (((cell_far (p := ⟨gb126, _, none⟩) (by first | exact Nat.ne_of_lt (Nat.lt_of_lt_of_le (by have := World.block_lt_of_cell? _ _ hw121_1; first | rwa [add_block] at this | exact this) GW126.out) | (rw [add_block]; exact Nat.ne_of_lt (Nat.lt_of_lt_of_le (by have := World.block_lt_of_cell? _ _ hw121_1; first | rwa [add_block] at this | exact this) GW126.out)) | (show (Addr.add _ _).block ≠ _; rw [add_block]; exact Nat.ne_of_lt (Nat.lt_of_lt_of_le (by have := World.block_lt_of_cell? _ _ hw121_1; first | rwa [add_block] at this | exact this) GW126.out)) | (dsimp only; exact Nat.ne_of_lt (Nat.lt_of_lt_of_le (by have := World.block_lt_of_cell? _ _ hw121_1; first | rwa [add_block] at this | exact this) GW126.out))) _).trans (((cell_far (p := ⟨gb126, _, none⟩) (by first | exact Nat.ne_of_lt (Nat.lt_of_lt_of_le (by have := World.block_lt_of_cell? _ _ hw121_1; first | rwa [add_block] at this | exact this) GW126.out) | (rw [add_block]; exact Nat.ne_of_lt (Nat.lt_of_lt_of_le (by have := World.block_lt_of_cell? _ _ hw121_1; first | rwa [add_block] at this | exact this) GW126.out)) | (show (Addr.add _ _).block ≠ _; rw [add_block]; exact Nat.ne_of_lt (Nat.lt_of_lt_of_le (by have := World.block_lt_of_cell? _ _ hw121_1; first | rwa [add_block] at this | exact this) GW126.out)) | (dsimp only; exact Nat.ne_of_lt (Nat.lt_of_lt_of_le (by have := World.block_lt_of_cell? _ _ hw121_1; first | rwa [add_block] at this | exact this) GW126.out))) _).trans (hHeld.2.2.2.2.2.1)))))), ((cell_far (p := ⟨gb126, _, none⟩) (by first | exact Nat.ne_of_lt (Nat.lt_of_lt_of_le (by have := World.block_lt_of_cell? _ _ hw121_2; first | rwa [add_block] at this | exact this) GW126.out) | (rw [add_block]; exact Nat.ne_of_lt (Nat.lt_of_lt_of_le (by have := World.block_lt_of_cell? _ _ hw121_2; first | rwa [add_block] at this | exact this) GW126.out)) | (show (Addr.add _ _).block ≠ _; rw [add_block]; exact Nat.ne_of_lt (Nat.lt_of_lt_of_le (by have := World.block_lt_of_cell? _ _ hw121_2; first | rwa [add_block] at this | exact this) GW126.out)) | (dsimp only; exact Nat.ne_of_lt (Nat.lt_of_lt_of_le (by have := World.block_lt_of_cell? _ _ hw121_2; first | rwa [add_block] at this | exact this) GW126.out))) _).trans (((cell_far (p := ⟨gb126, _, none⟩) (by first | exact Nat.ne_of_lt (Nat.lt_of_lt_of_le (by have := World.block_lt_of_cell? _ _ hw121_2; first | rwa [add_block] at this | exact this) GW126.out) | (rw [add_block]; exact Nat.ne_of_lt (Nat.lt_of_lt_of_le (by have := World.block_lt_of_cell? _ _ hw121_2; first | rwa [add_block] at this | exact this) GW126.out)) | (show (Addr.add _ _).block ≠ _; rw [add_block]; exact Nat.ne_of_lt (Nat.lt_of_lt_of_le (by have := World.block_lt_of_cell? _ _ hw121_2; first | rwa [add_block] at this | exact this) GW126.out)) | (dsimp only; exact Nat.ne_of_lt (Nat.lt_of_lt_of_le (by have := World.block_lt_of_cell? _ _ hw121_2; first | rwa [add_block] at this | exact this) GW126.out))) _).trans (((cell_far (p := ⟨gb126, _, none⟩) (by first | exact Nat.ne_of_lt (Nat.lt_of_lt_of_le (by have := World.block_lt_of_cell? _ _ hw121_2; first | rwa [add_block] at this | exact this) GW126.out) | (rw [add_block]; exact Nat.ne_of_lt (Nat.lt_of_lt_of_le (by have := World.block_lt_of_cell? _ _ hw121_2; first | rwa [add_block] at this | exact this) GW126.out)) | (show (Addr.add _ _).block ≠ _; rw [add_block]; exact Nat.ne_of_lt (Nat.lt_of_lt_of_le (by have := World.block_lt_of_cell? _ _ hw121_2; first | rwa [add_block] at this | exact this) GW126.out)) | (dsimp only; exact Nat.ne_of_lt (Nat.lt_of_lt_of_le (by have := World.block_lt_of_cell? _ _ hw121_2; first | rwa [add_block] at this | exact this) GW126.out))) _).trans (hHeld.2.2.2.2.2.2.1)))))), ((cell_far (p := ⟨gb126, _, none⟩) (by first | exact Nat.ne_of_lt (Nat.lt_of_lt_of_le (by have := World.block_lt_of_cell? _ _ hw122_0; first | rwa [add_block] at this | exact this) GW126.out) | (rw [add_block]; exact Nat.ne_of_lt (Nat.lt_of_lt_of_le (by have := World.block_lt_of_cell? _ _ hw122_0; first | rwa [add_block] at this | exact this) GW126.out)) | (show (Addr.add _ _).block ≠ _; rw [add_block]; exact Nat.ne_of_lt (Nat.lt_of_lt_of_le (by have := World.block_lt_of_cell? _ _ hw122_0; first | rwa [add_block] at this | exact this) GW126.out)) | (dsimp only; exact Nat.ne_of_lt (Nat.lt_of_lt_of_le (by have := World.block_lt_of_cell? _ _ hw122_0; first | rwa [add_block] at this | exact this) GW126.out))) _).trans (((cell_far (p := ⟨gb126, _, none⟩) (by first | exact Nat.ne_of_lt (Nat.lt_of_lt_of_le (by have := World.block_lt_of_cell? _ _ hw122_0; first | rwa [add_block] at this | exact this) GW126.out) | (rw [add_block]; exact Nat.ne_of_lt (Nat.lt_of_lt_of_le (by have := World.block_lt_of_cell? _ _ hw122_0; first | rwa [add_block] at this | exact this) GW126.out)) | (show (Addr.add _ _).block ≠ _; rw [add_block]; exact Nat.ne_of_lt (Nat.lt_of_lt_of_le (by have := World.block_lt_of_cell? _ _ hw122_0; first | rwa [add_block] at this | exact this) GW126.out)) | (dsimp only; exact Nat.ne_of_lt (Nat.lt_of_lt_of_le (by have := World.block_lt_of_cell? _ _ hw122_0; first | rwa [add_block] at this | exact this) GW126.out))) _).trans (((cell_far (p := ⟨gb126, _, none⟩) (by first | exact Nat.ne_of_lt (Nat.lt_of_lt_of_le (by have := World.block_lt_of_cell? _ _ hw122_0; first | rwa [add_block] at this | exact this) GW126.out) | (rw [add_block]; exact Nat.ne_of_lt (Nat.lt_of_lt_of_le (by have := World.block_lt_of_cell? _ _ hw122_0; first | rwa [add_block] at this | exact this) GW126.out)) | (show (Addr.add _ _).block ≠ _; rw [add_block]; exact Nat.ne_of_lt (Nat.lt_of_lt_of_le (by have := World.block_lt_of_cell? _ _ hw122_0; first | rwa [add_block] at this | exact this) GW126.out)) | (dsimp only; exact Nat.ne_of_lt (Nat.lt_of_lt_of_le (by have := World.block_lt_of_cell? _ _ hw122_0; first | rwa [add_block] at this | exact this) GW126.out))) _).trans (hHeld.2.2.2.2.2.2.2.1)))))), ((cell_far (p := ⟨gb126, _, none⟩) (by first | exact Nat.ne_of_lt (Nat.lt_of_lt_of_le (by have := World.block_lt_of_cell? _ _ hw122_1; first | rwa [add_block] at this | exact this) GW126.out) | (rw [add_block]; exact Nat.ne_of_lt (Nat.lt_of_lt_of_le (by have := World.block_lt_of_cell? _ _ hw122_1; first | rwa [add_block] at this | exact this) GW126.out)) | (show (Addr.add _ _).block ≠ _; rw [add_block]; exact Nat.ne_of_lt (Nat.lt_of_lt_of_le (by have := World.block_lt_of_cell? _ _ hw122_1; first | rwa [add_block] at this | exact this) GW126.out)) | (dsimp only; exact Nat.ne_of_lt (Nat.lt_of_lt_of_le (by have := World.block_lt_of_cell? _ _ hw122_1; first | rwa [add_block] at this | exact this) GW126.out))) _).trans (((cell_far (p := ⟨gb126, _, none⟩) (by first | exact Nat.ne_of_lt (Nat.lt_of_lt_of_le (by have := World.block_lt_of_cell? _ _ hw122_1; first | rwa [add_block] at this | exact this) GW126.out) | (rw [add_block]; exact Nat.ne_of_lt (Nat.lt_of_lt_of_le (by have := World.block_lt_of_cell? _ _ hw122_1; first | rwa [add_block] at this | exact this) GW126.out)) | (show (Addr.add _ _).block ≠ _; rw [add_block]; exact Nat.ne_of_lt (Nat.lt_of_lt_of_le (by have := World.block_lt_of_cell? _ _ hw122_1; first | rwa [add_block] at this | exact this) GW126.out)) | (dsimp only; exact Nat.ne_of_lt (Nat.lt_of_lt_of_le (by have := World.block_lt_of_cell? _ _ hw122_1; first | rwa [add_block] at this | exact this) GW126.out))) _).trans (((cell_far (p := ⟨gb126, _, none⟩) (by first | exact Nat.ne_of_lt (Nat.lt_of_lt_of_le (by have := World.block_lt_of_cell? _ _ hw122_1; first | rwa [add_block] at this | exact this) GW126.out) | (rw [add_block]; exact Nat.ne_of_lt (Nat.lt_of_lt_of_le (by have := World.block_lt_of_cell? _ _ hw122_1; first | rwa [add_block] at this | exact this) GW126.out)) | (show (Addr.add _ _).block ≠ _; rw [add_block]; exact Nat.ne_of_lt (Nat.lt_of_lt_of_le (by have := World.block_lt_of_cell? _ _ hw122_1; first | rwa [add_block] at this | exact this) GW126.out)) | (dsimp only; exact Nat.ne_of_lt (Nat.lt_of_lt_of_le (by have := World.block_lt_of_cell? _ _ hw122_1; first | rwa [add_block] at this | exact this) GW126.out))) _).trans (hHeld.2.2.2.2.2.2.2.2.1)))))), ((cell_far (p := ⟨gb126, _, none⟩) (by first | exact Nat.ne_of_lt (Nat.lt_of_lt_of_le (by have := World.block_lt_of_cell? _ _ hw122_2; first | rwa [add_block] at this | exact this) GW126.out) | (rw [add_block]; exact Nat.ne_of_lt (Nat.lt_of_lt_of_le (by have := World.block_lt_of_cell? _ _ hw122_2; first | rwa [add_block] at this | exact this) GW126.out)) | (show (Addr.add _ _).block ≠ _; rw [add_block]; exact Nat.ne_of_lt (Nat.lt_of_lt_of_le (by have := World.block_lt_of_cell? _ _ hw122_2; first | rwa [add_block] at this | exact this) GW126.out)) | (dsimp only; exact Nat.ne_of_lt (Nat.lt_of_lt_of_le (by have := World.block_lt_of_cell? _ _ hw122_2; first | rwa [add_block] at this | exact this) GW126.out))) _).trans (((cell_far (p := ⟨gb126, _, none⟩) (by first | exact Nat.ne_of_lt (Nat.lt_of_lt_of_le (by have := World.block_lt_of_cell? _ _ hw122_2; first | rwa [add_block] at this | exact this) GW126.out) | (rw [add_block]; exact Nat.ne_of_lt (Nat.lt_of_lt_of_le (by have := World.block_lt_of_cell? _ _ hw122_2; first | rwa [add_block] at this | exact this) GW126.out)) | (show (Addr.add _ _).block ≠ _; rw [add_block]; exact Nat.ne_of_lt (Nat.lt_of_lt_of_le (by have := World.block_lt_of_cell? _ _ hw122_2; first | rwa [add_block] at this | exact this) GW126.out)) | (dsimp only; exact Nat.ne_of_lt (Nat.lt_of_lt_of_le (by have := World.block_lt_of_cell? _ _ hw122_2; first | rwa [add_block] at this | exact this) GW126.out))) _).trans (((cell_far (p := ⟨gb126, _, none⟩) (by first | exact Nat.ne_of_lt (Nat.lt_of_lt_of_le (by have := World.block_lt_of_cell? _ _ hw122_2; first | rwa [add_block] at this | exact this) GW126.out) | (rw [add_block]; exact Nat.ne_of_lt (Nat.lt_of_lt_of_le (by have := World.block_lt_of_cell? _ _ hw122_2; first | rwa [add_block] at this | exact this) GW126.out)) | (show (Addr.add _ _).block ≠ _; rw [add_block]; exact Nat.ne_of_lt (Nat.lt_of_lt_of_le (by have := World.block_lt_of_cell? _ _ hw122_2; first | rwa [add_block] at this | exact this) GW126.out)) | (dsimp only; exact Nat.ne_of_lt (Nat.lt_of_lt_of_le (by have := World.block_lt_of_cell? _ _ hw122_2; first | rwa [add_block] at this | exact this) GW126.out))) _).trans (hHeld.2.2.2.2.2.2.2.2.2.1)))))), ((cell_far (p := ⟨gb126, _, none⟩) (by first | exact Kd.own_blk (Kd.R_ne HO_114000.out BK126.out (by decide)) | (rw [add_block]; exact Kd.own_blk (Kd.R_ne HO_114000.out BK126.out (by decide))) | (show (Addr.add _ _).block ≠ _; rw [add_block]; exact Kd.own_blk (Kd.R_ne HO_114000.out BK126.out (by decide))) | (dsimp only; exact Kd.own_blk (Kd.R_ne HO_114000.out BK126.out (by decide)))) _).trans (((cell_far (p := ⟨gb126, _, none⟩) (by first | exact Kd.own_blk (Kd.R_ne HO_114000.out BK126.out (by decide)) | (rw [add_block]; exact Kd.own_blk (Kd.R_ne HO_114000.out BK126.out (by decide))) | (show (Addr.add _ _).block ≠ _; rw [add_block]; exact Kd.own_blk (Kd.R_ne HO_114000.out BK126.out (by decide))) | (dsimp only; exact Kd.own_blk (Kd.R_ne HO_114000.out BK126.out (by decide)))) _).trans (((cell_far (p := ⟨gb126, _, none⟩) (by first | exact Kd.own_blk (Kd.R_ne HO_114000.out BK126.out (by decide)) | (rw [add_block]; exact Kd.own_blk (Kd.R_ne HO_114000.out BK126.out (by decide))) | (show (Addr.add _ _).block ≠ _; rw [add_block]; exact Kd.own_blk (Kd.R_ne HO_114000.out BK126.out (by decide))) | (dsimp only; exact Kd.own_blk (Kd.R_ne HO_114000.out BK126.out (by decide)))) _).trans (hHeld.2.2.2.2.2.2.2.2.2.2.1)))))), ((cell_far (p := ⟨gb126, _, none⟩) (by first | exact Nat.ne_of_lt (Nat.lt_of_lt_of_le (by have := World.block_lt_of_cell? _ _ hw124_0; first | rwa [add_block] at this | exact this) GW126.out) | (rw [add_block]; exact Nat.ne_of_lt (Nat.lt_of_lt_of_le (by have := World.block_lt_of_cell? _ _ hw124_0; first | rwa [add_block] at this | exact this) GW126.out)) | (show (Addr.add _ _).block ≠ _; rw [add_block]; exact Nat.ne_of_lt (Nat.lt_of_lt_of_le (by have := World.block_lt_of_cell? _ _ hw124_0; first | rwa [add_block] at this | exact this) GW126.out)) | (dsimp only; exact Nat.ne_of_lt (Nat.lt_of_lt_of_le (by have := World.block_lt_of_cell? _ _ hw124_0; first | rwa [add_block] at this | exact this) GW126.out))) _).trans (((cell_far (p := ⟨gb126, _, none⟩) (by first | exact Nat.ne_of_lt (Nat.lt_of_lt_of_le (by have := World.block_lt_of_cell? _ _ hw124_0; first | rwa [add_block] at this | exact this) GW126.out) | (rw [add_block]; exact Nat.ne_of_lt (Nat.lt_of_lt_of_le (by have := World.block_lt_of_cell? _ _ hw124_0; first | rwa [add_block] at this | exact this) GW126.out)) | (show (Addr.add _ _).block ≠ _; rw [add_block]; exact Nat.ne_of_lt (Nat.lt_of_lt_of_le (by have := World.block_lt_of_cell? _ _ hw124_0; first | rwa [add_block] at this | exact this) GW126.out)) | (dsimp only; exact Nat.ne_of_lt (Nat.lt_of_lt_of_le (by have := World.block_lt_of_cell? _ _ hw124_0; first | rwa [add_block] at this | exact this) GW126.out))) _).trans (((cell_far (p := ⟨gb126, _, none⟩) (by first | exact Nat.ne_of_lt (Nat.lt_of_lt_of_le (by have := World.block_lt_of_cell? _ _ hw124_0; first | rwa [add_block] at this | exact this) GW126.out) | (rw [add_block]; exact Nat.ne_of_lt (Nat.lt_of_lt_of_le (by have := World.block_lt_of_cell? _ _ hw124_0; first | rwa [add_block] at this | exact this) GW126.out)) | (show (Addr.add _ _).block ≠ _; rw [add_block]; exact Nat.ne_of_lt (Nat.lt_of_lt_of_le (by have := World.block_lt_of_cell? _ _ hw124_0; first | rwa [add_block] at this | exact this) GW126.out)) | (dsimp only; exact Nat.ne_of_lt (Nat.lt_of_lt_of_le (by have := World.block_lt_of_cell? _ _ hw124_0; first | rwa [add_block] at this | exact this) GW126.out))) _).trans (hHeld.2.2.2.2.2.2.2.2.2.2.2.1)))))), ((cell_far (p := ⟨gb126, _, none⟩) (by first | exact Nat.ne_of_lt (Nat.lt_of_lt_of_le (by have := World.block_lt_of_cell? _ _ hw124_1; first | rwa [add_block] at this | exact this) GW126.out) | (rw [add_block]; exact Nat.ne_of_lt (Nat.lt_of_lt_of_le (by have := World.block_lt_of_cell? _ _ hw124_1; first | rwa [add_block] at this | exact this) GW126.out)) | (show (Addr.add _ _).block ≠ _; rw [add_block]; exact Nat.ne_of_lt (Nat.lt_of_lt_of_le (by have := World.block_lt_of_cell? _ _ hw124_1; first | rwa [add_block] at this | exact this) GW126.out)) | (dsimp only; exact Nat.ne_of_lt (Nat.lt_of_lt_of_le (by have := World.block_lt_of_cell? _ _ hw124_1; first | rwa [add_block] at this | exact this) GW126.out))) _).trans (((cell_far (p := ⟨gb126, _, none⟩) (by first | exact Nat.ne_of_lt (Nat.lt_of_lt_of_le (by have := World.block_lt_of_cell? _ _ hw124_1; first | rwa [add_block] at this | exact this) GW126.out) | (rw [add_block]; exact Nat.ne_of_lt (Nat.lt_of_lt_of_le (by have := World.block_lt_of_cell? _ _ hw124_1; first | rwa [add_block] at this | exact this) GW126.out)) | (show (Addr.add _ _).block ≠ _; rw [add_block]; exact Nat.ne_of_lt (Nat.lt_of_lt_of_le (by have := World.block_lt_of_cell? _ _ hw124_1; first | rwa [add_block] at this | exact this) GW126.out)) | (dsimp only; exact Nat.ne_of_lt (Nat.lt_of_lt_of_le (by have := World.block_lt_of_cell? _ _ hw124_1; first | rwa [add_block] at this | exact this) GW126.out))) _).trans (((cell_far (p := ⟨gb126, _, none⟩) (by first | exact Nat.ne_of_lt (Nat.lt_of_lt_of_le (by have := World.block_lt_of_cell? _ _ hw124_1; first | rwa [add_block] at this | exact this) GW126.out) | (rw [add_block]; exact Nat.ne_of_lt (Nat.lt_of_lt_of_le (by have := World.block_lt_of_cell? _ _ hw124_1; first | rwa [add_block] at this | exact this) GW126.out)) | (show (Addr.add _ _).block ≠ _; rw [add_block]; exact Nat.ne_of_lt (Nat.lt_of_lt_of_le (by have := World.block_lt_of_cell? _ _ hw124_1; first | rwa [add_block] at this | exact this) GW126.out)) | (dsimp only; exact Nat.ne_of_lt (Nat.lt_of_lt_of_le (by have := World.block_lt_of_cell? _ _ hw124_1; first | rwa [add_block] at this | exact this) GW126.out))) _).trans (hHeld.2.2.2.2.2.2.2.2.2.2.2.2.1)))))), ((cell_far (p := ⟨gb126, _, none⟩) (by first | exact Nat.ne_of_lt (Nat.lt_of_lt_of_le (by have := World.block_lt_of_cell? _ _ hw124_2; first | rwa [add_block] at this | exact this) GW126.out) | (rw [add_block]; exact Nat.ne_of_lt (Nat.lt_of_lt_of_le (by have := World.block_lt_of_cell? _ _ hw124_2; first | rwa [add_block] at this | exact this) GW126.out)) | (show (Addr.add _ _).block ≠ _; rw [add_block]; exact Nat.ne_of_lt (Nat.lt_of_lt_of_le (by have := World.block_lt_of_cell? _ _ hw124_2; first | rwa [add_block] at this | exact this) GW126.out)) | (dsimp only; exact Nat.ne_of_lt (Nat.lt_of_lt_of_le (by have := World.block_lt_of_cell? _ _ hw124_2; first | rwa [add_block] at this | exact this) GW126.out))) _).trans (((cell_far (p := ⟨gb126, _, none⟩) (by first | exact Nat.ne_of_lt (Nat.lt_of_lt_of_le (by have := World.block_lt_of_cell? _ _ hw124_2; first | rwa [add_block] at this | exact this) GW126.out) | (rw [add_block]; exact Nat.ne_of_lt (Nat.lt_of_lt_of_le (by have := World.block_lt_of_cell? _ _ hw124_2; first | rwa [add_block] at this | exact this) GW126.out)) | (show (Addr.add _ _).block ≠ _; rw [add_block]; exact Nat.ne_of_lt (Nat.lt_of_lt_of_le (by have := World.block_lt_of_cell? _ _ hw124_2; first | rwa [add_block] at this | exact this) GW126.out)) | (dsimp only; exact Nat.ne_of_lt (Nat.lt_of_lt_of_le (by have := World.block_lt_of_cell? _ _ hw124_2; first | rwa [add_block] at this | exact this) GW126.out))) _).trans (((cell_far (p := ⟨gb126, _, none⟩) (by first | exact Nat.ne_of_lt (Nat.lt_of_lt_of_le (by have := World.block_lt_of_cell? _ _ hw124_2; first | rwa [add_block] at this | exact this) GW126.out) | (rw [add_block]; exact Nat.ne_of_lt (Nat.lt_of_lt_of_le (by have := World.block_lt_of_cell? _ _ hw124_2; first | rwa [add_block] at this | exact this) GW126.out)) | (show (Addr.add _ _).block ≠ _; rw [add_block]; exact Nat.ne_of_lt (Nat.lt_of_lt_of_le (by have := World.block_lt_of_cell? _ _ hw124_2; first | rwa [add_block] at this | exact this) GW126.out)) | (dsimp only; exact Nat.ne_of_lt (Nat.lt_of_lt_of_le (by have := World.block_lt_of_cell? _ _ hw124_2; first | rwa [add_block] at this | exact this) GW126.out))) _).trans (hHeld.2.2.2.2.2.2.2.2.2.2.2.2.2.1)))))), ((cell_far (p := ⟨gb126, _, none⟩) (by first | exact Kd.own_blk (Kd.R_ne HO_114000.out BK126.out (by decide)) | (rw [add_block]; exact Kd.own_blk (Kd.R_ne HO_114000.out BK126.out (by decide))) | (show (Addr.add _ _).block ≠ _; rw [add_block]; exact Kd.own_blk (Kd.R_ne HO_114000.out BK126.out (by decide))) | (dsimp only; exact Kd.own_blk (Kd.R_ne HO_114000.out BK126.out (by decide)))) _).trans (((cell_far (p := ⟨gb126, _, none⟩) (by first | exact Kd.own_blk (Kd.R_ne HO_114000.out BK126.out (by decide)) | (rw [add_block]; exact Kd.own_blk (Kd.R_ne HO_114000.out BK126.out (by decide))) | (show (Addr.add _ _).block ≠ _; rw [add_block]; exact Kd.own_blk (Kd.R_ne HO_114000.out BK126.out (by decide))) | (dsimp only; exact Kd.own_blk (Kd.R_ne HO_114000.out BK126.out (by decide)))) _).trans (((cell_far (p := ⟨gb126, _, none⟩) (by first | exact Kd.own_blk (Kd.R_ne HO_114000.out BK126.out (by decide)) | (rw [add_block]; exact Kd.own_blk (Kd.R_ne HO_114000.out BK126.out (by decide))) | (show (Addr.add _ _).block ≠ _; rw [add_block]; exact Kd.own_blk (Kd.R_ne HO_114000.out BK126.out (by decide))) | (dsimp only; exact Kd.own_blk (Kd.R_ne HO_114000.out BK126.out (by decide)))) _).trans (hHeld.2.2.2.2.2.2.2.2.2.2.2.2.2.2))))))⟩ (fun hHeld => ?_)
                 clear hK K
                 refine done_ (done_of HT_.out (by kernel_rfl)) ?_
                 go_upto_region 22 with (fail)
                 go_cut [125] (fun v125 wc => ∃ (kq : Nat) (x125_81 : Bool), v125 = .bool x125_81 ∧ Aside0 (scarfjointref05_Remove.j2 kq x15_2 x125_81 l0_0 l0_1 t107 t110 x115000_1 x115001_2 ((rd_T38 l0_1 x15_2).f0) (rd t107 ((rd_T38 l0_1 x15_2).f1)) (rd t107 ((rd_T38 l0_1 x15_2).f2)) = some (r1, r2, r3, r4, r5)) ∧ Aside0 (kq ≤ k2) ∧ Aside0 (Kd.R (Kd.int .i64) 3 wc w.heap.size (fun k_ => some k_ ≠ ((.slice (some ad120) t110.length co28) : Value).ownBlock ∧ some k_ ≠ (u115000 : Value).ownBlock) (.slice (some ad123) t107.length co29) t107) ∧ Aside0 (Kd.R (Kd.int .i64) 3 wc w.heap.size (fun k_ => some k_ ≠ ((.slice (some ad123) t107.length co29) : Value).ownBlock ∧ some k_ ≠ (u115000 : Value).ownBlock) (.slice (some ad120) t110.length co28) t110) ∧ Aside0 (Kd.R (Kd.int .i64) 3 wc w.heap.size (fun k_ => some k_ ≠ ((.slice (some ad123) t107.length co29) : Value).ownBlock ∧ some k_ ≠ ((.slice (some ad120) t110.length co28) : Value).ownBlock) u115000 x115000_1) ∧ Aside0 (Kd.R k38 38 wc w.heap.size (fun k_ => k_ ≠ gb126) u115001 x115001_2) ∧ Aside0 (wc.heap[gb101]? = some (.cells #[(.slice A0_0 l0_0.length c0_0), (.slice (some ad121) l0_1.length c0_1)] 25 (0, 0))) ∧ Aside0 (wc.heap[gb102]? = some (.cells #[(.slice none 0 0), (.slice none 0 0)] 25 (0, 0))) ∧ Aside0 (wc.heap[gb103]? = some (.cells #[(.slice none 0 0), (.slice none 0 0)] 29 (0, 0))) ∧ Aside0 (wc.heap[gb113]? = some (.cells #[(.slice (some ad123) t107.length co29), (.slice (some ad120) t110.length co28)] 29 (0, 0))) ∧ Aside0 (wc.heap[gb114]? = some (.cells #[u115000, u115001] 25 (0, 0))) ∧ Aside0 (wc.heap[gb126]? = some (.cells #[.int .i64 ((rd_T38 l0_1 x15_2).f0), .int .i64 (rd t107 ((rd_T38 l0_1 x15_2).f1)), .int .i64 (rd t107 ((rd_T38 l0_1 x15_2).f2))] 38 (0, 0))) ∧ Aside0 (Below w.heap.size w wc))
                 case first =>
                  have H := HC82.out
                  clear HC82
                  by_cases c97 : (rd t107 ((rd_T38 l0_1 x15_2).f1)) < 0
                  ·rw [if_pos c97] at H
                   have c97b0 : decide ((rd t107 ((rd_T38 l0_1 x15_2).f1)) < 0) = true := decide_eq_true c97
                   clear c97
                   (first | rw [c97b0] | (simp only [i64_w, i32_w]; rw [c97b0]) | skip)
                   have H' := Aside0.mk H
                   clear H
                   have hnb98 := NB126_101.out
                   have hnc98 := NB101_126.out
                   have hnb99 := NB126_102.out
                   have hnc99 := NB102_126.out
                   have hnb100 := NB126_103.out
                   have hnc100 := NB103_126.out
                   have hnb101 := NB126_113.out
                   have hnc101 := NB113_126.out
                   have hnb102 := NB126_114.out
                   have hnc102 := NB114_126.out
                   have hcz103_0 : w93.cell? ⟨gb126, 0, none⟩ = some (.int .i64 0) := (blk_cell BK126.out 0).trans rfl
                   have hcz103_1 : w93.cell? ⟨gb126, 1, none⟩ = some (.int .i64 0) := (blk_cell BK126.out 1).trans rfl
                   have hcz103_2 : w93.cell? ⟨gb126, 2, none⟩ = some (.int .i64 0) := (blk_cell BK126.out 2).trans rfl
                   have hfz103_0 := blk_frozen BK126.out 0
                   have hfz103_1 := blk_frozen BK126.out 1
                   have hfz103_2 := blk_frozen BK126.out 2
                   go_wp2
                   go_meet
                   case rel => exact ⟨_, (true), rS, H', ⟨by have := HK1.out; have := HK2.out; first | omega | exact Nat.le_refl _⟩, ⟨by (with_reducible repeat (first | apply rA | apply rN | apply rD)); exact Kd.R_mono (Kd.R_far (p := ⟨gb126, 2, none⟩) (Kd.R_far (p := ⟨gb126, 1, none⟩) (Kd.R_far (p := ⟨gb126, 0, none⟩) (Kd.R_types HO_114000.out BK126.out (by decide)) (fun _ hk => hk.2) (.int .i64 ((rd_T38 l0_1 x15_2).f0))) (fun _ hk => hk.2) (.int .i64 (rd t107 ((rd_T38 l0_1 x15_2).f1)))) (fun _ hk => hk.2) (.int .i64 (rd t107 ((rd_T38 l0_1 x15_2).f2)))) (fun _ hk => ⟨hk.1.1, hk.1.2⟩)⟩, ⟨by (with_reducible repeat (first | apply rA | apply rN | apply rD)); exact Kd.R_mono (Kd.R_far (p := ⟨gb126, 2, none⟩) (Kd.R_far (p := ⟨gb126, 1, none⟩) (Kd.R_far (p := ⟨gb126, 0, none⟩) (Kd.R_types HO_114001.out BK126.out (by decide)) (fun _ hk => hk.2) (.int .i64 ((rd_T38 l0_1 x15_2).f0))) (fun _ hk => hk.2) (.int .i64 (rd t107 ((rd_T38 l0_1 x15_2).f1)))) (fun _ hk => hk.2) (.int .i64 (rd t107 ((rd_T38 l0_1 x15_2).f2)))) (fun _ hk => ⟨hk.1.1, hk.1.2⟩)⟩, ⟨by (with_reducible repeat (first | apply rA | apply rN | apply rD)); exact Kd.R_mono (Kd.R_far (p := ⟨gb126, 2, none⟩) (Kd.R_far (p := ⟨gb126, 1, none⟩) (Kd.R_far (p := ⟨gb126, 0, none⟩) (Kd.R_types HO_115000.out BK126.out (by decide)) (fun _ hk => hk.2) (.int .i64 ((rd_T38 l0_1 x15_2).f0))) (fun _ hk => hk.2) (.int .i64 (rd t107 ((rd_T38 l0_1 x15_2).f1)))) (fun _ hk => hk.2) (.int .i64 (rd t107 ((rd_T38 l0_1 x15_2).f2)))) (fun _ hk => ⟨hk.1.1, hk.1.2⟩)⟩, ⟨by (with_reducible repeat (first | apply rA | apply rN | apply rD)); exact Kd.R_mono (Kd.R_far (p := ⟨gb126, 2, none⟩) (Kd.R_far (p := ⟨gb126, 1, none⟩) (Kd.R_far (p := ⟨gb126, 0, none⟩) (Kd.R_mono HO_115001.out (fun k_ hk => (⟨hk, hk.2⟩ : _ ∧ k_ ≠ gb126))) (fun _ hk => hk.2) (.int .i64 ((rd_T38 l0_1 x15_2).f0))) (fun _ hk => hk.2) (.int .i64 (rd t107 ((rd_T38 l0_1 x15_2).f1)))) (fun _ hk => hk.2) (.int .i64 (rd t107 ((rd_T38 l0_1 x15_2).f2)))) (fun _ hk => hk.1.2)⟩, ⟨by (with_reducible repeat (first | refine bN ?_ _ | refine bD ?_ | refine bA ?_ _)); refine blk_far ?_ NB101_126.out _; (with_reducible repeat (first | refine bN ?_ _ | refine bD ?_ | refine bA ?_ _)); refine blk_far ?_ NB101_126.out _; (with_reducible repeat (first | refine bN ?_ _ | refine bD ?_ | refine bA ?_ _)); refine blk_far ?_ NB101_126.out _; (with_reducible repeat (first | refine bN ?_ _ | refine bD ?_ | refine bA ?_ _)); exact BK101.out⟩, ⟨by (with_reducible repeat (first | refine bN ?_ _ | refine bD ?_ | refine bA ?_ _)); refine blk_far ?_ NB102_126.out _; (with_reducible repeat (first | refine bN ?_ _ | refine bD ?_ | refine bA ?_ _)); refine blk_far ?_ NB102_126.out _; (with_reducible repeat (first | refine bN ?_ _ | refine bD ?_ | refine bA ?_ _)); refine blk_far ?_ NB102_126.out _; (with_reducible repeat (first | refine bN ?_ _ | refine bD ?_ | refine bA ?_ _)); exact BK102.out⟩, ⟨by (with_reducible repeat (first | refine bN ?_ _ | refine bD ?_ | refine bA ?_ _)); refine blk_far ?_ NB103_126.out _; (with_reducible repeat (first | refine bN ?_ _ | refine bD ?_ | refine bA ?_ _)); refine blk_far ?_ NB103_126.out _; (with_reducible repeat (first | refine bN ?_ _ | refine bD ?_ | refine bA ?_ _)); refine blk_far ?_ NB103_126.out _; (with_reducible repeat (first | refine bN ?_ _ | refine bD ?_ | refine bA ?_ _)); exact BK103.out⟩, ⟨by (with_reducible repeat (first | refine bN ?_ _ | refine bD ?_ | refine bA ?_ _)); refine blk_far ?_ NB113_126.out _; (with_reducible repeat (first | refine bN ?_ _ | refine bD ?_ | refine bA ?_ _)); refine blk_far ?_ NB113_126.out _; (with_reducible repeat (first | refine bN ?_ _ | refine bD ?_ | refine bA ?_ _)); refine blk_far ?_ NB113_126.out _; (with_reducible repeat (first | refine bN ?_ _ | refine bD ?_ | refine bA ?_ _)); exact BK113.out⟩, ⟨by (with_reducible repeat (first | refine bN ?_ _ | refine bD ?_ | refine bA ?_ _)); refine blk_far ?_ NB114_126.out _; (with_reducible repeat (first | refine bN ?_ _ | refine bD ?_ | refine bA ?_ _)); refine blk_far ?_ NB114_126.out _; (with_reducible repeat (first | refine bN ?_ _ | refine bD ?_ | refine bA ?_ _)); refine blk_far ?_ NB114_126.out _; (with_reducible repeat (first | refine bN ?_ _ | refine bD ?_ | refine bA ?_ _)); exact BK114.out⟩, ⟨by (with_reducible repeat (first | refine bN ?_ _ | refine bD ?_ | refine bA ?_ _)); refine blk_put (cs := #[.int .i64 ((rd_T38 l0_1 x15_2).f0), .int .i64 (rd t107 ((rd_T38 l0_1 x15_2).f1)), .int .i64 0]) ?_ 2 _ rfl; (with_reducible repeat (first | refine bN ?_ _ | refine bD ?_ | refine bA ?_ _)); refine blk_put (cs := #[.int .i64 ((rd_T38 l0_1 x15_2).f0), .int .i64 0, .int .i64 0]) ?_ 1 _ rfl; (with_reducible repeat (first | refine bN ?_ _ | refine bD ?_ | refine bA ?_ _)); refine blk_put (cs := #[.int .i64 0, .int .i64 0, .int .i64 0]) ?_ 0 _ rfl; (with_reducible repeat (first | refine bN ?_ _ | refine bD ?_ | refine bA ?_ _)); exact BK126.out⟩, ⟨by repeat (first | (with_reducible first | exact HB.out | apply wA | apply wN | apply wD | refine below_set ?_ GE101.out | refine below_set ?_ GE102.out | refine below_set ?_ GE103.out | refine below_set ?_ GE113.out | refine below_set ?_ GE114.out | refine below_set ?_ GE126.out) | exact HB.out)⟩⟩
                  ·rw [if_neg c97] at H
                   have c97b0 : decide ((rd t107 ((rd_T38 l0_1 x15_2).f1)) < 0) = false := decide_eq_false c97
                   clear c97
                   (first | rw [c97b0] | (simp only [i64_w, i32_w]; rw [c97b0]) | skip)
                   have H' := Aside0.mk H
                   clear H
                   have hnb104 := NB126_101.out
                   have hnc104 := NB101_126.out
                   have hnb105 := NB126_102.out
                   have hnc105 := NB102_126.out
                   have hnb106 := NB126_103.out
                   have hnc106 := NB103_126.out
                   have hnb107 := NB126_113.out
                   have hnc107 := NB113_126.out
                   have hnb108 := NB126_114.out
                   have hnc108 := NB114_126.out
                   have hcz109_0 : w93.cell? ⟨gb126, 0, none⟩ = some (.int .i64 0) := (blk_cell BK126.out 0).trans rfl
                   have hcz109_1 : w93.cell? ⟨gb126, 1, none⟩ = some (.int .i64 0) := (blk_cell BK126.out 1).trans rfl
                   have hcz109_2 : w93.cell? ⟨gb126, 2, none⟩ = some (.int .i64 0) := (blk_cell BK126.out 2).trans rfl
                   have hfz109_0 := blk_frozen BK126.out 0
                   have hfz109_1 := blk_frozen BK126.out 1
                   have hfz109_2 := blk_frozen BK126.out 2
                   go_wp2
                   go_meet
                   case rel => exact ⟨_, (decide ((rd t107 ((rd_T38 l0_1 x15_2).f2)) < 0)), rS, H', ⟨by have := HK1.out; have := HK2.out; first | omega | exact Nat.le_refl _⟩, ⟨by (with_reducible repeat (first | apply rA | apply rN | apply rD)); exact Kd.R_mono (Kd.R_far (p := ⟨gb126, 2, none⟩) (Kd.R_far (p := ⟨gb126, 1, none⟩) (Kd.R_far (p := ⟨gb126, 0, none⟩) (Kd.R_types HO_114000.out BK126.out (by decide)) (fun _ hk => hk.2) (.int .i64 ((rd_T38 l0_1 x15_2).f0))) (fun _ hk => hk.2) (.int .i64 (rd t107 ((rd_T38 l0_1 x15_2).f1)))) (fun _ hk => hk.2) (.int .i64 (rd t107 ((rd_T38 l0_1 x15_2).f2)))) (fun _ hk => ⟨hk.1.1, hk.1.2⟩)⟩, ⟨by (with_reducible repeat (first | apply rA | apply rN | apply rD)); exact Kd.R_mono (Kd.R_far (p := ⟨gb126, 2, none⟩) (Kd.R_far (p := ⟨gb126, 1, none⟩) (Kd.R_far (p := ⟨gb126, 0, none⟩) (Kd.R_types HO_114001.out BK126.out (by decide)) (fun _ hk => hk.2) (.int .i64 ((rd_T38 l0_1 x15_2).f0))) (fun _ hk => hk.2) (.int .i64 (rd t107 ((rd_T38 l0_1 x15_2).f1)))) (fun _ hk => hk.2) (.int .i64 (rd t107 ((rd_T38 l0_1 x15_2).f2)))) (fun _ hk => ⟨hk.1.1, hk.1.2⟩)⟩, ⟨by (with_reducible repeat (first | apply rA | apply rN | apply rD)); exact Kd.R_mono (Kd.R_far (p := ⟨gb126, 2, none⟩) (Kd.R_far (p := ⟨gb126, 1, none⟩) (Kd.R_far (p := ⟨gb126, 0, none⟩) (Kd.R_types HO_115000.out BK126.out (by decide)) (fun _ hk => hk.2) (.int .i64 ((rd_T38 l0_1 x15_2).f0))) (fun _ hk => hk.2) (.int .i64 (rd t107 ((rd_T38 l0_1 x15_2).f1)))) (fun _ hk => hk.2) (.int .i64 (rd t107 ((rd_T38 l0_1 x15_2).f2)))) (fun _ hk => ⟨hk.1.1, hk.1.2⟩)⟩, ⟨by (with_reducible repeat (first | apply rA | apply rN | apply rD)); exact Kd.R_mono (Kd.R_far (p := ⟨gb126, 2, none⟩) (Kd.R_far (p := ⟨gb126, 1, none⟩) (Kd.R_far (p := ⟨gb126, 0, none⟩) (Kd.R_mono HO_115001.out (fun k_ hk => (⟨hk, hk.2⟩ : _ ∧ k_ ≠ gb126))) (fun _ hk => hk.2) (.int .i64 ((rd_T38 l0_1 x15_2).f0))) (fun _ hk => hk.2) (.int .i64 (rd t107 ((rd_T38 l0_1 x15_2).f1)))) (fun _ hk => hk.2) (.int .i64 (rd t107 ((rd_T38 l0_1 x15_2).f2)))) (fun _ hk => hk.1.2)⟩, ⟨by (with_reducible repeat (first | refine bN ?_ _ | refine bD ?_ | refine bA ?_ _)); refine blk_far ?_ NB101_126.out _; (with_reducible repeat (first | refine bN ?_ _ | refine bD ?_ | refine bA ?_ _)); refine blk_far ?_ NB101_126.out _; (with_reducible repeat (first | refine bN ?_ _ | refine bD ?_ | refine bA ?_ _)); refine blk_far ?_ NB101_126.out _; (with_reducible repeat (first | refine bN ?_ _ | refine bD ?_ | refine bA ?_ _)); exact BK101.out⟩, ⟨by (with_reducible repeat (first | refine bN ?_ _ | refine bD ?_ | refine bA ?_ _)); refine blk_far ?_ NB102_126.out _; (with_reducible repeat (first | refine bN ?_ _ | refine bD ?_ | refine bA ?_ _)); refine blk_far ?_ NB102_126.out _; (with_reducible repeat (first | refine bN ?_ _ | refine bD ?_ | refine bA ?_ _)); refine blk_far ?_ NB102_126.out _; (with_reducible repeat (first | refine bN ?_ _ | refine bD ?_ | refine bA ?_ _)); exact BK102.out⟩, ⟨by (with_reducible repeat (first | refine bN ?_ _ | refine bD ?_ | refine bA ?_ _)); refine blk_far ?_ NB103_126.out _; (with_reducible repeat (first | refine bN ?_ _ | refine bD ?_ | refine bA ?_ _)); refine blk_far ?_ NB103_126.out _; (with_reducible repeat (first | refine bN ?_ _ | refine bD ?_ | refine bA ?_ _)); refine blk_far ?_ NB103_126.out _; (with_reducible repeat (first | refine bN ?_ _ | refine bD ?_ | refine bA ?_ _)); exact BK103.out⟩, ⟨by (with_reducible repeat (first | refine bN ?_ _ | refine bD ?_ | refine bA ?_ _)); refine blk_far ?_ NB113_126.out _; (with_reducible repeat (first | refine bN ?_ _ | refine bD ?_ | refine bA ?_ _)); refine blk_far ?_ NB113_126.out _; (with_reducible repeat (first | refine bN ?_ _ | refine bD ?_ | refine bA ?_ _)); refine blk_far ?_ NB113_126.out _; (with_reducible repeat (first | refine bN ?_ _ | refine bD ?_ | refine bA ?_ _)); exact BK113.out⟩, ⟨by (with_reducible repeat (first | refine bN ?_ _ | refine bD ?_ | refine bA ?_ _)); refine blk_far ?_ NB114_126.out _; (with_reducible repeat (first | refine bN ?_ _ | refine bD ?_ | refine bA ?_ _)); refine blk_far ?_ NB114_126.out _; (with_reducible repeat (first | refine bN ?_ _ | refine bD ?_ | refine bA ?_ _)); refine blk_far ?_ NB114_126.out _; (with_reducible repeat (first | refine bN ?_ _ | refine bD ?_ | refine bA ?_ _)); exact BK114.out⟩, ⟨by (with_reducible repeat (first | refine bN ?_ _ | refine bD ?_ | refine bA ?_ _)); refine blk_put (cs := #[.int .i64 ((rd_T38 l0_1 x15_2).f0), .int .i64 (rd t107 ((rd_T38 l0_1 x15_2).f1)), .int .i64 0]) ?_ 2 _ rfl; (with_reducible repeat (first | refine bN ?_ _ | refine bD ?_ | refine bA ?_ _)); refine blk_put (cs := #[.int .i64 ((rd_T38 l0_1 x15_2).f0), .int .i64 0, .int .i64 0]) ?_ 1 _ rfl; (with_reducible repeat (first | refine bN ?_ _ | refine bD ?_ | refine bA ?_ _)); refine blk_put (cs := #[.int .i64 0, .int .i64 0, .int .i64 0]) ?_ 0 _ rfl; (with_reducible repeat (first | refine bN ?_ _ | refine bD ?_ | refine bA ?_ _)); exact BK126.out⟩, ⟨by repeat (first | (with_reducible first | exact HB.out | apply wA | apply wN | apply wD | refine below_set ?_ GE101.out | refine below_set ?_ GE102.out | refine below_set ?_ GE103.out | refine below_set ?_ GE113.out | refine below_set ?_ GE114.out | refine below_set ?_ GE126.out) | exact HB.out)⟩⟩
                 case rest =>
                  clear HC82
                  try clear c1
                  try clear p1
                  try clear q1
                  try clear hx1
                  try clear p2
                  try clear c6
                  try clear p6
                  try clear c7
                  try clear c8
                  try clear c9
                  try clear c10
                  try clear p15
                  try clear q15
                  try clear hx15
                  try clear p64
                  try clear c65
                  try clear c65b0
                  try clear c66
                  try clear c66b0
                  try clear c67
                  try clear c67b0
                  try clear c68
                  try clear c68b0
                  try clear c69
                  try clear c70
                  try clear c71
                  try clear c72
                  try clear c74
                  try clear c75
                  try clear c76
                  try clear c78
                  try clear c78b0
                  try clear c79
                  try clear c79b0
                  try clear c80
                  try clear c80b0
                  try clear c81
                  try clear c81b0
                  try clear c83
                  try clear c84
                  try clear c85
                  try clear c86
                  try clear c88
                  try clear c89
                  try clear c90
                  try clear c97
                  try clear c97b0
                  try clear c98
                  try clear c99
                  try clear c100
                  try clear c101
                  try clear c102
                  try clear c104
                  try clear c105
                  try clear c106
                  try clear c107
                  try clear c108
                  try clear hcz103_0
                  try clear hcz103_1
                  try clear hcz103_2
                  try clear hcz109_0
                  try clear hcz109_1
                  try clear hcz109_2
                  try clear hcz64_1
                  try clear hcz73_0
                  try clear hcz73_1
                  try clear hcz77_0
                  try clear hcz77_1
                  try clear hcz87_0
                  try clear hcz87_1
                  try clear hcz91_0
                  try clear hcz91_1
                  try clear hfz103_0
                  try clear hfz103_1
                  try clear hfz103_2
                  try clear hfz109_0
                  try clear hfz109_1
                  try clear hfz109_2
                  try clear hfz17_0
                  try clear hfz17_1
                  try clear hfz19_0
                  try clear hfz19_1
                  try clear hfz20_0
                  try clear hfz20_1
                  try clear hfz42_0
                  try clear hfz42_1
                  try clear hfz46_0
                  try clear hfz46_1
                  try clear hfz55_0
                  try clear hfz55_1
                  try clear hfz59_0
                  try clear hfz59_1
                  try clear hfz64_0
                  try clear hfz64_1
                  try clear hfz73_0
                  try clear hfz73_1
                  try clear hfz77_0
                  try clear hfz77_1
                  try clear hfz87_0
                  try clear hfz87_1
                  try clear hfz91_0
                  try clear hfz91_1
                  try clear hx115_0
                  try clear hx116_0
                  try clear hx120_0
                  try clear hx121_0
                  try clear hx121_1
                  try clear hx121_2
                  try clear hx122_0
                  try clear hx122_1
                  try clear hx122_2
                  try clear hx123_0
                  try clear hx124_0
                  try clear hx124_1
                  try clear hx124_2
                  try clear hx125_0
                  try clear p115
                  try clear p116
                  try clear p120
                  try clear p121
                  try clear p122
                  try clear p123
                  try clear p124
                  try clear p125
                  try clear p2
                  try clear q115
                  try clear q116
                  try clear q120
                  try clear q121
                  try clear q122
                  try clear q123
                  try clear q124
                  try clear q125
                  obtain ⟨kq, x125_81, rfl, HA, HJ81, HO_114000, HO_114001, HO_115000, HO_115001, BK101, BK102, BK103, BK113, BK114, BK126, HB⟩ := hcut
                  cases kq with
                  | zero => exact absurd HA.out (by simp [scarfjointref05_Remove.j2])
                  | succ kj81 =>
                   have H := HA.out
                   clear HA
                   simp only [scarfjointref05_Remove.j2] at H
                   by_cases c110 : x125_81 = true
                   ·subst c110
                    have H1 : (some (([] : List Int), ([] : List (S38)), ([] : List Int), ([] : List Int), 14)) = some (r1, r2, r3, r4, r5) := by rw [if_pos rfl] at H; exact H
                    clear H
                    have H := H1
                    clear H1
                    simp only [Option.some.injEq, Prod.mk.injEq] at H
                    obtain ⟨rfl, rfl, rfl, rfl, rfl⟩ := H
                    have hnb111 := NB102_101.out
                    have hnc111 := NB101_102.out
                    have hnb112 := NB102_103.out
                    have hnc112 := NB103_102.out
                    have hnb113 := NB102_113.out
                    have hnc113 := NB113_102.out
                    have hnb114 := NB102_114.out
                    have hnc114 := NB114_102.out
                    have hnb115 := NB102_126.out
                    have hnc115 := NB126_102.out
                    have hcz116_0 : wc.cell? ⟨gb102, 0, none⟩ = some (.slice none 0 0) := (blk_cell BK102.out 0).trans rfl
                    have hcz116_1 : wc.cell? ⟨gb102, 1, none⟩ = some (.slice none 0 0) := (blk_cell BK102.out 1).trans rfl
                    have hfz116_0 := blk_frozen BK102.out 0
                    have hfz116_1 := blk_frozen BK102.out 1
                    have hnb117 := NB103_101.out
                    have hnc117 := NB101_103.out
                    have hnb118 := NB103_113.out
                    have hnc118 := NB113_103.out
                    have hnb119 := NB103_114.out
                    have hnc119 := NB114_103.out
                    have hnb120 := NB103_126.out
                    have hnc120 := NB126_103.out
                    have hcz121_0 : wc.cell? ⟨gb103, 0, none⟩ = some (.slice none 0 0) := (blk_cell BK103.out 0).trans rfl
                    have hcz121_1 : wc.cell? ⟨gb103, 1, none⟩ = some (.slice none 0 0) := (blk_cell BK103.out 1).trans rfl
                    have hfz121_0 := blk_frozen BK103.out 0
                    have hfz121_1 := blk_frozen BK103.out 1
                    go_wp2
                    refine bodyPost_ret (results_list (rs := [.cell 6 25, .cell 7 29, .tmp 8]) rfl (by simp) (.cell gb102 25 #[.slice none 0 0, .slice none 0 0] (0, 0) _ rfl (by (with_reducible repeat (first | refine bN ?_ _ | refine bD ?_ | refine bA ?_ _)); refine blk_far ?_ NB102_103.out _; (with_reducible repeat (first | refine bN ?_ _ | refine bD ?_ | refine bA ?_ _)); refine blk_far ?_ NB102_103.out _; (with_reducible repeat (first | refine bN ?_ _ | refine bD ?_ | refine bA ?_ _)); refine blk_put (cs := #[.slice none 0 0, .slice none 0 0]) ?_ 1 _ rfl; (with_reducible repeat (first | refine bN ?_ _ | refine bD ?_ | refine bA ?_ _)); refine blk_put (cs := #[.slice none 0 0, .slice none 0 0]) ?_ 0 _ rfl; (with_reducible repeat (first | refine bN ?_ _ | refine bD ?_ | refine bA ?_ _)); exact BK102.out) Try.underlying25 rfl (by kernel_rfl) (.cell gb103 29 #[.slice none 0 0, .slice none 0 0] (0, 0) _ rfl (by (with_reducible repeat (first | refine bN ?_ _ | refine bD ?_ | refine bA ?_ _)); refine blk_put (cs := #[.slice none 0 0, .slice none 0 0]) ?_ 1 _ rfl; (with_reducible repeat (first | refine bN ?_ _ | refine bD ?_ | refine bA ?_ _)); refine blk_put (cs := #[.slice none 0 0, .slice none 0 0]) ?_ 0 _ rfl; (with_reducible repeat (first | refine bN ?_ _ | refine bD ?_ | refine bA ?_ _)); refine blk_far ?_ NB103_102.out _; (with_reducible repeat (first | refine bN ?_ _ | refine bD ?_ | refine bA ?_ _)); refine blk_far ?_ NB103_102.out _; (with_reducible repeat (first | refine bN ?_ _ | refine bD ?_ | refine bA ?_ _)); exact BK103.out) Try.underlying29 rfl (by kernel_rfl) (.tmp .nil)))) rfl ?_
                    exact ⟨_, _, _, _, by first | rfl | (simp [errW_none, errW_some] <;> rfl) | (simp [*, errW_none, errW_some] <;> rfl), by first | exact Kd.R_nil _ _ _ _ _ | exact Kd.N_nil _ _ _ _ _ | exact Kd.V_nil _ _ _ _ _ | exact Kd.Q_nil _ _ _ _ _ | exact Kd.S_nil _ _ _ _ _, by first | exact Kd.R_nil _ _ _ _ _ | exact Kd.N_nil _ _ _ _ _ | exact Kd.V_nil _ _ _ _ _ | exact Kd.Q_nil _ _ _ _ _ | exact Kd.S_nil _ _ _ _ _, by first | exact Kd.R_nil _ _ _ _ _ | exact Kd.N_nil _ _ _ _ _ | exact Kd.V_nil _ _ _ _ _ | exact Kd.Q_nil _ _ _ _ _ | exact Kd.S_nil _ _ _ _ _, by first | exact Kd.R_nil _ _ _ _ _ | exact Kd.N_nil _ _ _ _ _ | exact Kd.V_nil _ _ _ _ _ | exact Kd.Q_nil _ _ _ _ _ | exact Kd.S_nil _ _ _ _ _, by repeat (first | (with_reducible first | exact HB.out | apply wA | apply wN | apply wD | refine below_set ?_ GE101.out | refine below_set ?_ GE102.out | refine below_set ?_ GE103.out | refine below_set ?_ GE113.out | refine below_set ?_ GE114.out | refine below_set ?_ GE126.out) | exact HB.out)⟩
                   ·replace c110 := Bool.eq_false_iff.mpr c110
                    subst c110
                    have H1 : (if x115001_2.length < 5864062014805 then (scarfjointref05_Remove.l1 kj81 (wrap64 (x15_2 + 1)) l0_0 l0_1 t107 t110 x115000_1 (x115001_2 ++ [(⟨((rd_T38 l0_1 x15_2).f0), (rd t107 ((rd_T38 l0_1 x15_2).f1)), (rd t107 ((rd_T38 l0_1 x15_2).f2))⟩ : S38)])) else (none)) = some (r1, r2, r3, r4, r5) := by rw [if_neg (show ¬ (false = true) by decide)] at H; exact H
                    clear H
                    have H := H1
                    clear H1
                    by_cases c122 : x115001_2.length < 5864062014805
                    ·rw [if_pos c122] at H
                     have LMc122 := Aside0.mk c122
                     clear c122
                     obtain ⟨y127, hy127⟩ : ∃ y_ : List (S38), y_ = (x115001_2 ++ [(⟨((rd_T38 l0_1 x15_2).f0), (rd t107 ((rd_T38 l0_1 x15_2).f1)), (rd t107 ((rd_T38 l0_1 x15_2).f2))⟩ : S38)]) := ⟨_, rfl⟩
                     replace H : (scarfjointref05_Remove.l1 kj81 (wrap64 (x15_2 + 1)) l0_0 l0_1 t107 t110 x115000_1 y127) = some (r1, r2, r3, r4, r5) := by first | (rw [hy127]; with_reducible exact H) | (have H2_ := (Option.bind_some _ _).symm.trans H; rw [hy127]; with_reducible exact H2_) | (have H2_ := (Option.bind_some _ _).symm.trans H; with_reducible exact H2_) | with_reducible exact H | (rw [hy127]; exact H) | exact H
                     have Ny127 := Aside0.mk hy127
                     clear hy127
                     have H' := Aside0.mk H
                     clear H
                     have hnb123 := NB114_101.out
                     have hnc123 := NB101_114.out
                     have hnb124 := NB114_102.out
                     have hnc124 := NB102_114.out
                     have hnb125 := NB114_103.out
                     have hnc125 := NB103_114.out
                     have hnb126 := NB114_113.out
                     have hnc126 := NB113_114.out
                     have hnb127 := NB114_126.out
                     have hnc127 := NB126_114.out
                     have hcz128_0 : wc.cell? ⟨gb114, 0, none⟩ = some (u115000) := (blk_cell BK114.out 0).trans rfl
                     have hcz128_1 : wc.cell? ⟨gb114, 1, none⟩ = some (u115001) := (blk_cell BK114.out 1).trans rfl
                     have hfz128_0 := blk_frozen BK114.out 0
                     have hfz128_1 := blk_frozen BK114.out 1
                     have hnb129 := NB126_101.out
                     have hnc129 := NB101_126.out
                     have hnb130 := NB126_102.out
                     have hnc130 := NB102_126.out
                     have hnb131 := NB126_103.out
                     have hnc131 := NB103_126.out
                     have hnb132 := NB126_113.out
                     have hnc132 := NB113_126.out
                     have hcz133_0 : wc.cell? ⟨gb126, 0, none⟩ = some (.int .i64 ((rd_T38 l0_1 x15_2).f0)) := (blk_cell BK126.out 0).trans rfl
                     have hcz133_1 : wc.cell? ⟨gb126, 1, none⟩ = some (.int .i64 (rd t107 ((rd_T38 l0_1 x15_2).f1))) := (blk_cell BK126.out 1).trans rfl
                     have hcz133_2 : wc.cell? ⟨gb126, 2, none⟩ = some (.int .i64 (rd t107 ((rd_T38 l0_1 x15_2).f2))) := (blk_cell BK126.out 2).trans rfl
                     have hfz133_0 := blk_frozen BK126.out 0
                     have hfz133_1 := blk_frozen BK126.out 1
                     have hfz133_2 := blk_frozen BK126.out 2
                     go_wp2_with (first | ((with_reducible refine gate_builtin (b := .append) (xs := #[.tmp 129, .tmp 131]) rfl ?_); at_builtin; refine Kd.R_append k38 (w0 := w) w.heap.size rfl (.tmp 129) (.tmp 131) 23 38 (.agg #[(.int .i64 0), (.int .i64 0), (.int .i64 0)]) 24 rfl Try.underlying23 info38 rfl (by decide) (by omega) u115001 x115001_2 (⟨((rd_T38 l0_1 x15_2).f0), (rd t107 ((rd_T38 l0_1 x15_2).f1)), (rd t107 ((rd_T38 l0_1 x15_2).f2))⟩ : S38) [.int .i64 ((rd_T38 l0_1 x15_2).f0), .int .i64 (rd t107 ((rd_T38 l0_1 x15_2).f1)), .int .i64 (rd t107 ((rd_T38 l0_1 x15_2).f2))] (fun k_ => k_ ≠ gb126) (fun _ => False) rfl rfl ?aP (fun _ hk => hk.elim) ?aF ?aO ?aB ?aS ?aL ?_; (case aP => exact k38_mkM _ _ _ (⟨((rd_T38 l0_1 x15_2).f0), (rd t107 ((rd_T38 l0_1 x15_2).f1)), (rd t107 ((rd_T38 l0_1 x15_2).f2))⟩ : S38)); (case aB => exact (by repeat (first | (with_reducible first | exact HB.out | apply wA | apply wN | apply wD | refine below_set ?_ GE101.out | refine below_set ?_ GE102.out | refine below_set ?_ GE103.out | refine below_set ?_ GE113.out | refine below_set ?_ GE114.out | refine below_set ?_ GE126.out) | exact HB.out))); (case aF => exact (fun k_ hk => Kd.freshB (g := gb126) (o := .cells #[.int .i64 ((rd_T38 l0_1 x15_2).f0), .int .i64 (rd t107 ((rd_T38 l0_1 x15_2).f1)), .int .i64 (rd t107 ((rd_T38 l0_1 x15_2).f2))] 38 (0, 0)) (by (with_reducible repeat (first | refine bN ?_ _ | refine bD ?_ | refine bA ?_ _)); exact BK126.out) k_ hk)); (case aO => exact (by (with_reducible repeat (first | apply rA | apply rN | apply rD)); exact HO_115001.out)); (case aS => exact (below_size (by repeat (first | (with_reducible first | exact HB.out | apply wA | apply wN | apply wD | refine below_set ?_ GE101.out | refine below_set ?_ GE102.out | refine below_set ?_ GE103.out | refine below_set ?_ GE113.out | refine below_set ?_ GE114.out | refine below_set ?_ GE126.out) | exact HB.out)))); (case aL => have := LMc122.out; omega); intro v128 w134 ho hb hg hat; rw [← Ny127.out] at ho; have n0_ := Aside0.mk (Kd.R_over' (by (with_reducible repeat (first | apply rA | apply rN | apply rD)); exact HO_114000.out) (Kd.R_typed (by (with_reducible repeat (first | apply rA | apply rN | apply rD)); exact HO_115001.out)) (by decide) hg); have n1_ := Aside0.mk (Kd.R_over' (by (with_reducible repeat (first | apply rA | apply rN | apply rD)); exact HO_114001.out) (Kd.R_typed (by (with_reducible repeat (first | apply rA | apply rN | apply rD)); exact HO_115001.out)) (by decide) hg); have n2_ := Aside0.mk (Kd.R_over' (by (with_reducible repeat (first | apply rA | apply rN | apply rD)); exact HO_115000.out) (Kd.R_typed (by (with_reducible repeat (first | apply rA | apply rN | apply rD)); exact HO_115001.out)) (by decide) hg); have n3_ := Aside0.mk (bG (g := gb101) (o := .cells #[.slice A0_0 l0_0.length c0_0, .slice (some ad121) l0_1.length c0_1] 25 (0, 0)) (by (with_reducible repeat (first | refine bN ?_ _ | refine bD ?_ | refine bA ?_ _)); exact BK101.out) hg (Kd.R_ne HO_115001.out BK101.out (by decide))); have n4_ := Aside0.mk (bG (g := gb102) (o := .cells #[.slice none 0 0, .slice none 0 0] 25 (0, 0)) (by (with_reducible repeat (first | refine bN ?_ _ | refine bD ?_ | refine bA ?_ _)); exact BK102.out) hg (Kd.R_ne HO_115001.out BK102.out (by decide))); have n5_ := Aside0.mk (bG (g := gb103) (o := .cells #[.slice none 0 0, .slice none 0 0] 29 (0, 0)) (by (with_reducible repeat (first | refine bN ?_ _ | refine bD ?_ | refine bA ?_ _)); exact BK103.out) hg (Kd.R_ne HO_115001.out BK103.out (by decide))); have n6_ := Aside0.mk (bG (g := gb113) (o := .cells #[.slice (some ad123) t107.length co29, .slice (some ad120) t110.length co28] 29 (0, 0)) (by (with_reducible repeat (first | refine bN ?_ _ | refine bD ?_ | refine bA ?_ _)); exact BK113.out) hg (Kd.R_ne HO_115001.out BK113.out (by decide))); have n7_ := Aside0.mk (bG (g := gb114) (o := .cells #[u115000, u115001] 25 (0, 0)) (by (with_reducible repeat (first | refine bN ?_ _ | refine bD ?_ | refine bA ?_ _)); exact BK114.out) hg (Kd.R_ne HO_115001.out BK114.out (by decide))); have n8_ := Aside0.mk (bG (g := gb126) (o := .cells #[.int .i64 ((rd_T38 l0_1 x15_2).f0), .int .i64 (rd t107 ((rd_T38 l0_1 x15_2).f1)), .int .i64 (rd t107 ((rd_T38 l0_1 x15_2).f2))] 38 (0, 0)) (by (with_reducible repeat (first | refine bN ?_ _ | refine bD ?_ | refine bA ?_ _)); exact BK126.out) hg (Kd.R_away HO_115001.out (fun _ hk => hk))); have n9_ := Aside0.mk (hb); have n10_ := Aside0.mk (ho); clear HO_114000; clear HO_114001; clear HO_115000; clear BK101; clear BK102; clear BK103; clear BK113; clear BK114; clear BK126; clear HB; clear HO_115001; have HO_114000 := n0_; have HO_114001 := n1_; have HO_115000 := n2_; have BK101 := n3_; have BK102 := n4_; have BK103 := n5_; have BK113 := n6_; have BK114 := n7_; have BK126 := n8_; have HB := n9_; have HO129 := n10_; clear n0_ n1_ n2_ n3_ n4_ n5_ n6_ n7_ n8_ n9_ n10_; clear ho hb hg hat; obtain ⟨Ao135, co135, eo135⟩ := Kd.R_slice HO129.out; subst eo135; have hcz136_0 : w134.cell? ⟨gb114, 0, none⟩ = some (u115000) := (blk_cell BK114.out 0).trans rfl; have hcz136_1 : w134.cell? ⟨gb114, 1, none⟩ = some (u115001) := (blk_cell BK114.out 1).trans rfl; have hfz136_0 := blk_frozen BK114.out 0; have hfz136_1 := blk_frozen BK114.out 1))
                     go_roundg kj81
                     case measure => have := HK1.out; have := HK2.out; have := HJ81.out; omega
                     case rel => exact ⟨(wrap64 (x15_2 + 1)), (y127), (.slice Ao135 y127.length co135), rS, H', ⟨by have := HK1.out; have := HK2.out; have := HJ81.out; omega⟩, ⟨by (with_reducible repeat (first | apply rA | apply rN | apply rD)); exact Kd.R_mono (Kd.R_far (p := ⟨gb114, 1, none⟩) (Kd.R_types HO_114000.out BK114.out (by decide)) (fun _ hk => hk.2) (.slice Ao135 y127.length co135)) (fun _ hk => ⟨hk.1.1, hk.1.2⟩)⟩, ⟨by (with_reducible repeat (first | apply rA | apply rN | apply rD)); exact Kd.R_mono (Kd.R_far (p := ⟨gb114, 1, none⟩) (Kd.R_types HO_114001.out BK114.out (by decide)) (fun _ hk => hk.2) (.slice Ao135 y127.length co135)) (fun _ hk => ⟨hk.1.1, hk.1.2⟩)⟩, ⟨by (with_reducible repeat (first | apply rA | apply rN | apply rD)); exact Kd.R_mono (Kd.R_far (p := ⟨gb114, 1, none⟩) (Kd.R_types HO_115000.out BK114.out (by decide)) (fun _ hk => hk.2) (.slice Ao135 y127.length co135)) (fun _ hk => ⟨hk.1.1, hk.1.2⟩)⟩, ⟨by (with_reducible repeat (first | apply rA | apply rN | apply rD)); exact Kd.R_mono (Kd.R_far (p := ⟨gb114, 1, none⟩) (Kd.R_types HO129.out BK114.out (by decide)) (fun _ hk => hk.2) (.slice Ao135 y127.length co135)) (fun _ hk => trivial)⟩, ⟨by (with_reducible repeat (first | refine bN ?_ _ | refine bD ?_ | refine bA ?_ _)); refine blk_far ?_ NB101_114.out _; (with_reducible repeat (first | refine bN ?_ _ | refine bD ?_ | refine bA ?_ _)); exact BK101.out⟩, ⟨by (with_reducible repeat (first | refine bN ?_ _ | refine bD ?_ | refine bA ?_ _)); refine blk_far ?_ NB102_114.out _; (with_reducible repeat (first | refine bN ?_ _ | refine bD ?_ | refine bA ?_ _)); exact BK102.out⟩, ⟨by (with_reducible repeat (first | refine bN ?_ _ | refine bD ?_ | refine bA ?_ _)); refine blk_far ?_ NB103_114.out _; (with_reducible repeat (first | refine bN ?_ _ | refine bD ?_ | refine bA ?_ _)); exact BK103.out⟩, ⟨by (with_reducible repeat (first | refine bN ?_ _ | refine bD ?_ | refine bA ?_ _)); refine blk_far ?_ NB113_114.out _; (with_reducible repeat (first | refine bN ?_ _ | refine bD ?_ | refine bA ?_ _)); exact BK113.out⟩, ⟨by (with_reducible repeat (first | refine bN ?_ _ | refine bD ?_ | refine bA ?_ _)); refine blk_put (cs := #[u115000, u115001]) ?_ 1 _ rfl; (with_reducible repeat (first | refine bN ?_ _ | refine bD ?_ | refine bA ?_ _)); exact BK114.out⟩, ⟨by repeat (first | (with_reducible first | exact HB.out | apply wA | apply wN | apply wD | refine below_set ?_ GE101.out | refine below_set ?_ GE102.out | refine below_set ?_ GE103.out | refine below_set ?_ GE113.out | refine below_set ?_ GE114.out | refine below_set ?_ GE126.out) | exact HB.out)⟩⟩
                    ·rw [if_neg c122] at H
                     exact absurd H (by simp)
                ·rw [if_neg c81] at H
                 exact absurd H (by simp)
               ·rw [if_neg c80] at H
                exact absurd H (by simp)
              ·rw [if_neg c79] at H
               exact absurd H (by simp)
             ·rw [if_neg c78] at H
              exact absurd H (by simp)
           ·rw [if_neg c67] at H
            exact absurd H (by simp)
          ·rw [if_neg c66] at H
           exact absurd H (by simp)
         ·rw [if_neg c65] at H
          have c65b0 : decide (x15_2 < (l0_1.length : Int)) = false := decide_eq_false c65
          clear c65
          simp only [Option.some.injEq, Prod.mk.injEq] at H
          obtain ⟨rfl, rfl, rfl, rfl, rfl⟩ := H
          have hnb137 := NB101_102.out
          have hnc137 := NB102_101.out
          have hnb138 := NB101_103.out
          have hnc138 := NB103_101.out
          have hnb139 := NB101_113.out
          have hnc139 := NB113_101.out
          have hnb140 := NB101_114.out
          have hnc140 := NB114_101.out
          have hcz141_0 : wr.cell? ⟨gb101, 0, none⟩ = some (.slice A0_0 l0_0.length c0_0) := (blk_cell BK101.out 0).trans rfl
          have hcz141_1 : wr.cell? ⟨gb101, 1, none⟩ = some (.slice A0_1 l0_1.length c0_1) := (blk_cell BK101.out 1).trans rfl
          have hfz141_0 := blk_frozen BK101.out 0
          have hfz141_1 := blk_frozen BK101.out 1
          try go_wp2
          have n0_ := Aside0.mk (rD HO_114000.out)
          have n1_ := Aside0.mk (rD HO_114001.out)
          have n2_ := Aside0.mk (rD HO_115000.out)
          have n3_ := Aside0.mk (rD HO_115001.out)
          have n4_ := Aside0.mk (bD BK101.out)
          have n5_ := Aside0.mk (bD BK102.out)
          have n6_ := Aside0.mk (bD BK103.out)
          have n7_ := Aside0.mk (bD BK113.out)
          have n8_ := Aside0.mk (bD BK114.out)
          have n9_ := Aside0.mk (wD HB.out)
          clear HO_114000
          clear HO_114001
          clear HO_115000
          clear HO_115001
          clear BK101
          clear BK102
          clear BK103
          clear BK113
          clear BK114
          clear HB
          have HO_114000 := n0_
          have HO_114001 := n1_
          have HO_115000 := n2_
          have HO_115001 := n3_
          have BK101 := n4_
          have BK102 := n5_
          have BK103 := n6_
          have BK113 := n7_
          have BK114 := n8_
          have HB := n9_
          clear n0_ n1_ n2_ n3_ n4_ n5_ n6_ n7_ n8_ n9_
          obtain ⟨Ao143, co143, eo143⟩ := Kd.R_slice HO_115000.out
          (first | subst eo143 | (injection eo143 with f1_ f2_ f3_; have f4_ := f1_.symm; have f5_ := f3_.symm; clear f1_ f2_ f3_; subst f4_; subst f5_))
          obtain ⟨Ao145, co145, eo145⟩ := Kd.R_slice HO_115001.out
          (first | subst eo145 | (injection eo145 with f1_ f2_ f3_; have f4_ := f1_.symm; have f5_ := f3_.symm; clear f1_ f2_ f3_; subst f4_; subst f5_))
          refine start_ (n := 5) (S := fun w' => w'.cell? ⟨gb114, 0, none⟩ = some (.slice Ao143 x115000_1.length co143) ∧ w'.cell? ⟨gb114, 1, none⟩ = some (.slice Ao145 x115001_2.length co145) ∧ w'.cell? ⟨gb113, 0, none⟩ = some (.slice Ao29 t107.length co29) ∧ w'.cell? ⟨gb113, 1, none⟩ = some (.slice Ao28 t110.length co28)) (ds := []) #[false, false, false, false, false] (by kernel_rfl) rfl rfl ⟨(blk_cell BK114.out 0).trans rfl, (blk_cell BK114.out 1).trans rfl, (blk_cell BK113.out 0).trans rfl, (blk_cell BK113.out 1).trans rfl⟩ (fun hHeld => ?_)
          generalize wr.drew = w142 at HO_114000 HO_114001 HO_115000 HO_115001 BK101 BK102 BK103 BK113 BK114 HB hHeld ⊢
          refine take_ (i := 0) (N := some 134) (v := ?_) (a' := ?_) #[true, false, false, false, false] rfl rfl (by kernel_rfl) (fun _ _ _ h => h) (Or.inl ⟨by rfl, ?_⟩) hHeld ?_ ?_
          rotate_left
          ·rintro w' ⟨s0, s1, s2, s3⟩
           go_simp
           with_reducible rfl
          rotate_left
          ·simp only [Act.put, List.setIfInBounds_toArray, List.set_cons_zero, List.set_cons_succ, i64_w, i32_w]
           rfl
          refine take_ (i := 1) (N := some 135) (v := ?_) (a' := ?_) #[true, true, false, false, false] rfl rfl (by kernel_rfl) (fun _ _ _ h => h) (Or.inl ⟨by rfl, ?_⟩) hHeld ?_ ?_
          rotate_left
          ·rintro w' ⟨s0, s1, s2, s3⟩
           go_simp
           with_reducible rfl
          rotate_left
          ·simp only [Act.put, List.setIfInBounds_toArray, List.set_cons_zero, List.set_cons_succ, i64_w, i32_w]
           rfl
          refine one_ (i := 2) (N := none) #[true, true, true, false, false] rfl rfl (by kernel_rfl) (by decide) (fun K hK => ?_)
          have hs144 : w142.cell? ⟨gb102, 0, none⟩ = some (.slice none 0 0) := (blk_cell BK102.out 0).trans rfl
          have hfs144 := blk_frozen BK102.out 0
          have hns144_0 := NB101_102.out
          have hns144_2 := NB103_102.out
          have hns144_3 := NB113_102.out
          have hns144_4 := NB114_102.out
          have hms144_0 := NB102_101.out
          have hms144_2 := NB102_103.out
          have hms144_3 := NB102_113.out
          have hms144_4 := NB102_114.out
          have hs146 : w142.cell? ⟨gb102, 1, none⟩ = some (.slice none 0 0) := (blk_cell BK102.out 1).trans rfl
          have hfs146 := blk_frozen BK102.out 1
          have hns146_0 := NB101_102.out
          have hns146_2 := NB103_102.out
          have hns146_3 := NB113_102.out
          have hns146_4 := NB114_102.out
          have hms146_0 := NB102_101.out
          have hms146_2 := NB102_103.out
          have hms146_3 := NB102_113.out
          have hms146_4 := NB102_114.out
          refine skip_ (w1 := ?_) (by rfl) rfl ?_ ?_
          rotate_left
          ·go_simp
           rfl
          refine hK.out _ _ ⟨((cell_far (p := ⟨gb102, _, none⟩) NB114_102.out _).trans (((cell_far (p := ⟨gb102, _, none⟩) NB114_102.out _).trans (hHeld.1)))), ((cell_far (p := ⟨gb102, _, none⟩) NB114_102.out _).trans (((cell_far (p := ⟨gb102, _, none⟩) NB114_102.out _).trans (hHeld.2.1)))), ((cell_far (p := ⟨gb102, _, none⟩) NB113_102.out _).trans (((cell_far (p := ⟨gb102, _, none⟩) NB113_102.out _).trans (hHeld.2.2.1)))), ((cell_far (p := ⟨gb102, _, none⟩) NB113_102.out _).trans (((cell_far (p := ⟨gb102, _, none⟩) NB113_102.out _).trans (hHeld.2.2.2))))⟩ (fun hHeld => ?_)
          clear hK K
          refine one_ (i := 3) (N := none) #[true, true, true, true, false] rfl rfl (by kernel_rfl) (by decide) (fun K hK => ?_)
          have hs147 : w142.cell? ⟨gb103, 0, none⟩ = some (.slice none 0 0) := (blk_cell BK103.out 0).trans rfl
          have hfs147 := blk_frozen BK103.out 0
          have hns147_0 := NB101_103.out
          have hns147_1 := NB102_103.out
          have hns147_3 := NB113_103.out
          have hns147_4 := NB114_103.out
          have hms147_0 := NB103_101.out
          have hms147_1 := NB103_102.out
          have hms147_3 := NB103_113.out
          have hms147_4 := NB103_114.out
          have hs148 : w142.cell? ⟨gb103, 1, none⟩ = some (.slice none 0 0) := (blk_cell BK103.out 1).trans rfl
          have hfs148 := blk_frozen BK103.out 1
          have hns148_0 := NB101_103.out
          have hns148_1 := NB102_103.out
          have hns148_3 := NB113_103.out
          have hns148_4 := NB114_103.out
          have hms148_0 := NB103_101.out
          have hms148_1 := NB103_102.out
          have hms148_3 := NB103_113.out
          have hms148_4 := NB103_114.out
          refine skip_ (w1 := ?_) (by rfl) rfl ?_ ?_
          rotate_left
          ·go_simp
           rfl
          refine hK.out _ _ ⟨((cell_far (p := ⟨gb103, _, none⟩) NB114_103.out _).trans (((cell_far (p := ⟨gb103, _, none⟩) NB114_103.out _).trans (hHeld.1)))), ((cell_far (p := ⟨gb103, _, none⟩) NB114_103.out _).trans (((cell_far (p := ⟨gb103, _, none⟩) NB114_103.out _).trans (hHeld.2.1)))), ((cell_far (p := ⟨gb103, _, none⟩) NB113_103.out _).trans (((cell_far (p := ⟨gb103, _, none⟩) NB113_103.out _).trans (hHeld.2.2.1)))), ((cell_far (p := ⟨gb103, _, none⟩) NB113_103.out _).trans (((cell_far (p := ⟨gb103, _, none⟩) NB113_103.out _).trans (hHeld.2.2.2))))⟩ (fun hHeld => ?_)
          clear hK K
          refine pure_ (i := 4) (N := some 8) (v := ?_) (a' := ?_) #[true, true, true, true, true] rfl rfl (by kernel_rfl) (fun _ _ _ h => h) (Or.inl ⟨by rfl, ?_⟩) ?_ ?_
          rotate_left
          ·intro w'
           go_simp
           with_reducible rfl
          rotate_left
          ·simp only [Act.put, List.setIfInBounds_toArray, List.set_cons_zero, List.set_cons_succ, i64_w, i32_w]
           rfl
          refine done_ (by kernel_rfl) ?_
          try go_wp2
          refine bodyPost_ret (results_list (rs := [.cell 6 25, .cell 7 29, .tmp 8]) rfl (by simp) (.cell gb102 25 #[.slice Ao143 x115000_1.length co143, .slice Ao145 x115001_2.length co145] (0, 0) _ rfl (by (with_reducible repeat (first | refine bN ?_ _ | refine bD ?_ | refine bA ?_ _)); refine blk_far ?_ NB102_103.out _; (with_reducible repeat (first | refine bN ?_ _ | refine bD ?_ | refine bA ?_ _)); refine blk_far ?_ NB102_103.out _; (with_reducible repeat (first | refine bN ?_ _ | refine bD ?_ | refine bA ?_ _)); refine blk_put (cs := #[.slice Ao143 x115000_1.length co143, .slice none 0 0]) ?_ 1 _ rfl; (with_reducible repeat (first | refine bN ?_ _ | refine bD ?_ | refine bA ?_ _)); refine blk_put (cs := #[.slice none 0 0, .slice none 0 0]) ?_ 0 _ rfl; (with_reducible repeat (first | refine bN ?_ _ | refine bD ?_ | refine bA ?_ _)); exact BK102.out) Try.underlying25 rfl (by kernel_rfl) (.cell gb103 29 #[.slice Ao29 t107.length co29, .slice Ao28 t110.length co28] (0, 0) _ rfl (by (with_reducible repeat (first | refine bN ?_ _ | refine bD ?_ | refine bA ?_ _)); refine blk_put (cs := #[.slice Ao29 t107.length co29, .slice none 0 0]) ?_ 1 _ rfl; (with_reducible repeat (first | refine bN ?_ _ | refine bD ?_ | refine bA ?_ _)); refine blk_put (cs := #[.slice none 0 0, .slice none 0 0]) ?_ 0 _ rfl; (with_reducible repeat (first | refine bN ?_ _ | refine bD ?_ | refine bA ?_ _)); refine blk_far ?_ NB103_102.out _; (with_reducible repeat (first | refine bN ?_ _ | refine bD ?_ | refine bA ?_ _)); refine blk_far ?_ NB103_102.out _; (with_reducible repeat (first | refine bN ?_ _ | refine bD ?_ | refine bA ?_ _)); exact BK103.out) Try.underlying29 rfl (by kernel_rfl) (.tmp .nil)))) rfl ?_
          exact ⟨_, _, _, _, by first | rfl | (simp [errW_none, errW_some] <;> rfl) | (simp [*, errW_none, errW_some] <;> rfl), by (with_reducible repeat (first | apply rA | apply rN | apply rD)); exact Kd.R_mono (Kd.R_far (p := ⟨gb103, 1, none⟩) (Kd.R_far (p := ⟨gb103, 0, none⟩) (Kd.R_far (p := ⟨gb102, 1, none⟩) (Kd.R_far (p := ⟨gb102, 0, none⟩) (Kd.R_types (Kd.R_types HO_115000.out BK102.out (by decide)) BK103.out (by decide)) (fun _ hk => hk.1.2) (.slice Ao143 x115000_1.length co143)) (fun _ hk => hk.1.2) (.slice Ao145 x115001_2.length co145)) (fun _ hk => hk.2) (.slice Ao29 t107.length co29)) (fun _ hk => hk.2) (.slice Ao28 t110.length co28)) (fun _ hk => ⟨hk.1.1.1, hk.1.1.2⟩), by (with_reducible repeat (first | apply rA | apply rN | apply rD)); exact Kd.R_mono (Kd.R_far (p := ⟨gb103, 1, none⟩) (Kd.R_far (p := ⟨gb103, 0, none⟩) (Kd.R_far (p := ⟨gb102, 1, none⟩) (Kd.R_far (p := ⟨gb102, 0, none⟩) (Kd.R_types (Kd.R_types HO_115001.out BK102.out (by decide)) BK103.out (by decide)) (fun _ hk => hk.1.2) (.slice Ao143 x115000_1.length co143)) (fun _ hk => hk.1.2) (.slice Ao145 x115001_2.length co145)) (fun _ hk => hk.2) (.slice Ao29 t107.length co29)) (fun _ hk => hk.2) (.slice Ao28 t110.length co28)) (fun _ hk => trivial), by (with_reducible repeat (first | apply rA | apply rN | apply rD)); exact Kd.R_mono (Kd.R_far (p := ⟨gb103, 1, none⟩) (Kd.R_far (p := ⟨gb103, 0, none⟩) (Kd.R_far (p := ⟨gb102, 1, none⟩) (Kd.R_far (p := ⟨gb102, 0, none⟩) (Kd.R_types (Kd.R_types HO_114000.out BK102.out (by decide)) BK103.out (by decide)) (fun _ hk => hk.1.2) (.slice Ao143 x115000_1.length co143)) (fun _ hk => hk.1.2) (.slice Ao145 x115001_2.length co145)) (fun _ hk => hk.2) (.slice Ao29 t107.length co29)) (fun _ hk => hk.2) (.slice Ao28 t110.length co28)) (fun _ hk => ⟨hk.1.1.2, hk.1.1.1⟩), by (with_reducible repeat (first | apply rA | apply rN | apply rD)); exact Kd.R_mono (Kd.R_far (p := ⟨gb103, 1, none⟩) (Kd.R_far (p := ⟨gb103, 0, none⟩) (Kd.R_far (p := ⟨gb102, 1, none⟩) (Kd.R_far (p := ⟨gb102, 0, none⟩) (Kd.R_types (Kd.R_types HO_114001.out BK102.out (by decide)) BK103.out (by decide)) (fun _ hk => hk.1.2) (.slice Ao143 x115000_1.length co143)) (fun _ hk => hk.1.2) (.slice Ao145 x115001_2.length co145)) (fun _ hk => hk.2) (.slice Ao29 t107.length co29)) (fun _ hk => hk.2) (.slice Ao28 t110.length co28)) (fun _ hk => ⟨hk.1.1.2, hk.1.1.1⟩), by repeat (first | (with_reducible first | exact HB.out | apply wA | apply wN | apply wD | refine below_set ?_ GE101.out | refine below_set ?_ GE102.out | refine below_set ?_ GE103.out | refine below_set ?_ GE113.out | refine below_set ?_ GE114.out) | exact HB.out)⟩
   ·rw [if_neg c9] at H
    have c9b0 : (t106 == 0) = false := beq_eq_false_iff_ne.mpr c9
    have c9b1 : (t106 != 0) = true := bne_iff_ne.mpr c9
    simp only [Option.some.injEq, Prod.mk.injEq] at H
    obtain ⟨rfl, rfl, rfl, rfl, rfl⟩ := H
    go_enter Try.func15, Try.ntmps15
    go_wp2_with (first | ((with_reducible refine gate_dst (N := 3) rfl ?_); refine box_event ?hg (N := 3) ?hd (cs := #[.slice A0_0 l0_0.length c0_0, .slice A0_1 l0_1.length c0_1]) (t := 25) ?hr ?_; (case hd => rfl); (case hg => rfl); (case hr => first | (go_simp; done) | (go_simp; rfl)); intro gb101 hg w149 hbox hb; have n0_ := Aside0.mk (wS hB hb); have n1_ := Aside0.mk (hbox); have n2_ := Aside0.mk ((by rw [hg]; exact (below_size hB) : w.heap.size ≤ gb101)); have n3_ := Aside0.mk ((by rw [hg]; exact (below_size hB) : w.heap.size ≤ gb101)); clear HB; have HB := n0_; have BK101 := n1_; have GW101 := n2_; have GE101 := n3_; clear n0_ n1_ n2_ n3_; clear hb hbox hg) | ((with_reducible refine gate_dst (N := 6) rfl ?_); refine box_event ?hg (N := 6) ?hd (cs := #[.slice none 0 0, .slice none 0 0]) (t := 25) ?hr ?_; (case hd => rfl); (case hg => rfl); (case hr => first | (go_simp; done) | (go_simp; rfl)); intro gb102 hg w150 hbox hb; have n0_ := Aside0.mk (bB (g := gb101) (o := .cells #[.slice A0_0 l0_0.length c0_0, .slice A0_1 l0_1.length c0_1] 25 (0, 0)) (by (with_reducible repeat (first | refine bN ?_ _ | refine bD ?_ | refine bA ?_ _)); exact BK101.out) hb); have n1_ := Aside0.mk (wS (by repeat (first | (with_reducible first | exact HB.out | apply wA | apply wN | apply wD | refine below_set ?_ GE101.out) | exact HB.out)) hb); have n2_ := Aside0.mk (hbox); have n3_ := Aside0.mk ((by rw [hg]; exact (below_size (by repeat (first | (with_reducible first | exact HB.out | apply wA | apply wN | apply wD | refine below_set ?_ GE101.out) | exact HB.out))) : w.heap.size ≤ gb102)); have n4_ := Aside0.mk ((by rw [hg]; exact (below_size (by repeat (first | (with_reducible first | exact HB.out | apply wA | apply wN | apply wD | refine below_set ?_ GE101.out) | exact HB.out))) : w.heap.size ≤ gb102)); have n5_ := Aside0.mk ((by rw [hg]; exact Nat.ne_of_lt (blk_lt (g := gb101) (o := .cells #[.slice A0_0 l0_0.length c0_0, .slice A0_1 l0_1.length c0_1] 25 (0, 0)) (by (with_reducible repeat (first | refine bN ?_ _ | refine bD ?_ | refine bA ?_ _)); exact BK101.out)) : gb101 ≠ gb102)); have n6_ := Aside0.mk ((by rw [hg]; exact Nat.ne_of_gt (blk_lt (g := gb101) (o := .cells #[.slice A0_0 l0_0.length c0_0, .slice A0_1 l0_1.length c0_1] 25 (0, 0)) (by (with_reducible repeat (first | refine bN ?_ _ | refine bD ?_ | refine bA ?_ _)); exact BK101.out)) : gb102 ≠ gb101)); clear BK101; clear HB; have BK101 := n0_; have HB := n1_; have BK102 := n2_; have GW102 := n3_; have GE102 := n4_; have NB101_102 := n5_; have NB102_101 := n6_; clear n0_ n1_ n2_ n3_ n4_ n5_ n6_; clear hb hbox hg) | ((with_reducible refine gate_dst (N := 7) rfl ?_); refine box_event ?hg (N := 7) ?hd (cs := #[.slice none 0 0, .slice none 0 0]) (t := 29) ?hr ?_; (case hd => rfl); (case hg => rfl); (case hr => first | (go_simp; done) | (go_simp; rfl)); intro gb103 hg w151 hbox hb; have n0_ := Aside0.mk (bB (g := gb101) (o := .cells #[.slice A0_0 l0_0.length c0_0, .slice A0_1 l0_1.length c0_1] 25 (0, 0)) (by (with_reducible repeat (first | refine bN ?_ _ | refine bD ?_ | refine bA ?_ _)); exact BK101.out) hb); have n1_ := Aside0.mk (bB (g := gb102) (o := .cells #[.slice none 0 0, .slice none 0 0] 25 (0, 0)) (by (with_reducible repeat (first | refine bN ?_ _ | refine bD ?_ | refine bA ?_ _)); exact BK102.out) hb); have n2_ := Aside0.mk (wS (by repeat (first | (with_reducible first | exact HB.out | apply wA | apply wN | apply wD | refine below_set ?_ GE101.out | refine below_set ?_ GE102.out) | exact HB.out)) hb); have n3_ := Aside0.mk (hbox); have n4_ := Aside0.mk ((by rw [hg]; exact (below_size (by repeat (first | (with_reducible first | exact HB.out | apply wA | apply wN | apply wD | refine below_set ?_ GE101.out | refine below_set ?_ GE102.out) | exact HB.out))) : w.heap.size ≤ gb103)); have n5_ := Aside0.mk ((by rw [hg]; exact (below_size (by repeat (first | (with_reducible first | exact HB.out | apply wA | apply wN | apply wD | refine below_set ?_ GE101.out | refine below_set ?_ GE102.out) | exact HB.out))) : w.heap.size ≤ gb103)); have n6_ := Aside0.mk ((by rw [hg]; exact Nat.ne_of_lt (blk_lt (g := gb101) (o := .cells #[.slice A0_0 l0_0.length c0_0, .slice A0_1 l0_1.length c0_1] 25 (0, 0)) (by (with_reducible repeat (first | refine bN ?_ _ | refine bD ?_ | refine bA ?_ _)); exact BK101.out)) : gb101 ≠ gb103)); have n7_ := Aside0.mk ((by rw [hg]; exact Nat.ne_of_gt (blk_lt (g := gb101) (o := .cells #[.slice A0_0 l0_0.length c0_0, .slice A0_1 l0_1.length c0_1] 25 (0, 0)) (by (with_reducible repeat (first | refine bN ?_ _ | refine bD ?_ | refine bA ?_ _)); exact BK101.out)) : gb103 ≠ gb101)); have n8_ := Aside0.mk ((by rw [hg]; exact Nat.ne_of_lt (blk_lt (g := gb102) (o := .cells #[.slice none 0 0, .slice none 0 0] 25 (0, 0)) (by (with_reducible repeat (first | refine bN ?_ _ | refine bD ?_ | refine bA ?_ _)); exact BK102.out)) : gb102 ≠ gb103)); have n9_ := Aside0.mk ((by rw [hg]; exact Nat.ne_of_gt (blk_lt (g := gb102) (o := .cells #[.slice none 0 0, .slice none 0 0] 25 (0, 0)) (by (with_reducible repeat (first | refine bN ?_ _ | refine bD ?_ | refine bA ?_ _)); exact BK102.out)) : gb103 ≠ gb102)); clear BK101; clear BK102; clear HB; have BK101 := n0_; have BK102 := n1_; have HB := n2_; have BK103 := n3_; have GW103 := n4_; have GE103 := n5_; have NB101_103 := n6_; have NB103_101 := n7_; have NB102_103 := n8_; have NB103_102 := n9_; clear n0_ n1_ n2_ n3_ n4_ n5_ n6_ n7_ n8_ n9_; clear hb hbox hg; have hnb152 := NB101_102.out; have hnc152 := NB102_101.out; have hnb153 := NB101_103.out; have hnc153 := NB103_101.out; have hcz154_0 : w151.cell? ⟨gb101, 0, none⟩ = some (.slice A0_0 l0_0.length c0_0) := (blk_cell BK101.out 0).trans rfl; have hcz154_1 : w151.cell? ⟨gb101, 1, none⟩ = some (.slice A0_1 l0_1.length c0_1) := (blk_cell BK101.out 1).trans rfl; have hfz154_0 := blk_frozen BK101.out 0; have hfz154_1 := blk_frozen BK101.out 1) | ((with_reducible refine gate_callee (f := 27) rfl ?_); refine goesL_ (some 18) rfl rfl Try.func27 (by kernel_rfl) rfl #[.agg #[.slice A0_0 l0_0.length c0_0, .slice A0_1 l0_1.length c0_1]] rfl aM ?_; (with_reducible refine (scarfjointref05_Valid.calls k _ _ l0_0 _ _ l0_1 t104 _ ?side1 ?side2 ?side3 ?side4 A4.out).mono ?_); (case side1 => repeat (first | exact (cB HR0_0.out HB.out) | (with_reducible refine cA ?_ _) | (with_reducible refine cN ?_ _) | (with_reducible refine cD ?_))); (case side2 => exact HC0_0.out); (case side3 => repeat (first | exact (cB HR0_1.out HB.out) | (with_reducible refine cA ?_ _) | (with_reducible refine cN ?_ _) | (with_reducible refine cD ?_))); (case side4 => exact HC0_1.out); rintro e w155 ⟨rfl, hb⟩; refine ⟨_, rfl, ?_⟩; have n0_ := Aside0.mk (bB (g := gb101) (o := .cells #[.slice A0_0 l0_0.length c0_0, .slice A0_1 l0_1.length c0_1] 25 (0, 0)) (by (with_reducible repeat (first | refine bN ?_ _ | refine bD ?_ | refine bA ?_ _)); exact BK101.out) hb); have n1_ := Aside0.mk (bB (g := gb102) (o := .cells #[.slice none 0 0, .slice none 0 0] 25 (0, 0)) (by (with_reducible repeat (first | refine bN ?_ _ | refine bD ?_ | refine bA ?_ _)); exact BK102.out) hb); have n2_ := Aside0.mk (bB (g := gb103) (o := .cells #[.slice none 0 0, .slice none 0 0] 29 (0, 0)) (by (with_reducible repeat (first | refine bN ?_ _ | refine bD ?_ | refine bA ?_ _)); exact BK103.out) hb); have n3_ := Aside0.mk (wS (by repeat (first | (with_reducible first | exact HB.out | apply wA | apply wN | apply wD | refine below_set ?_ GE101.out | refine below_set ?_ GE102.out | refine below_set ?_ GE103.out) | exact HB.out)) hb); clear BK101; clear BK102; clear BK103; clear HB; have BK101 := n0_; have BK102 := n1_; have BK103 := n2_; have HB := n3_; clear n0_ n1_ n2_ n3_; (try clear hb); (try clear hb2); (try clear hk); (try clear hi); have hcz156_0 : w155.cell? ⟨gb101, 0, none⟩ = some (.slice A0_0 l0_0.length c0_0) := (blk_cell BK101.out 0).trans rfl; have hcz156_1 : w155.cell? ⟨gb101, 1, none⟩ = some (.slice A0_1 l0_1.length c0_1) := (blk_cell BK101.out 1).trans rfl; have hfz156_0 := blk_frozen BK101.out 0; have hfz156_1 := blk_frozen BK101.out 1) | ((with_reducible refine gate_callee (f := 41) rfl ?_); refine goesL_ (some 28) rfl rfl Try.func41 (by kernel_rfl) rfl #[.slice A1 l1.length c1, .int .i64 (l0_0.length : Int)] rfl aM ?_; (with_reducible refine (scarfjointref05_ascending.calls k _ _ l1 (l0_0.length : Int) t105 _ ?side1 ?side2 A6.out).mono ?_); (case side1 => repeat (first | exact (cB HR1.out HB.out) | (with_reducible refine cA ?_ _) | (with_reducible refine cN ?_ _) | (with_reducible refine cD ?_))); (case side2 => exact HC1.out); rintro e w' ⟨rfl, ⟨nd, rfl⟩⟩; refine ⟨_, rfl, ?_⟩; (try (rw [drewN_self w155]; generalize hq_ : World.drewN w155 _ = w155; have n0_ : Aside0 (w155.heap[gb101]? = some (.cells #[.slice A0_0 l0_0.length c0_0, .slice A0_1 l0_1.length c0_1] 25 (0, 0))) := ⟨by rw [← hq_]; exact (by (with_reducible repeat (first | refine bN ?_ _ | refine bD ?_ | refine bA ?_ _)); exact BK101.out)⟩; have n1_ : Aside0 (w155.heap[gb102]? = some (.cells #[.slice none 0 0, .slice none 0 0] 25 (0, 0))) := ⟨by rw [← hq_]; exact (by (with_reducible repeat (first | refine bN ?_ _ | refine bD ?_ | refine bA ?_ _)); exact BK102.out)⟩; have n2_ : Aside0 (w155.heap[gb103]? = some (.cells #[.slice none 0 0, .slice none 0 0] 29 (0, 0))) := ⟨by rw [← hq_]; exact (by (with_reducible repeat (first | refine bN ?_ _ | refine bD ?_ | refine bA ?_ _)); exact BK103.out)⟩; have n3_ : Aside0 (Below w.heap.size w w155) := ⟨by rw [← hq_]; exact (by repeat (first | (with_reducible first | exact HB.out | apply wA | apply wN | apply wD | refine below_set ?_ GE101.out | refine below_set ?_ GE102.out | refine below_set ?_ GE103.out) | exact HB.out))⟩; clear BK101 BK102 BK103 HB hq_; have BK101 := n0_; have BK102 := n1_; have BK103 := n2_; have HB := n3_; clear n0_ n1_ n2_ n3_)); have hcz157_0 : w155.cell? ⟨gb101, 0, none⟩ = some (.slice A0_0 l0_0.length c0_0) := (blk_cell BK101.out 0).trans rfl; have hcz157_1 : w155.cell? ⟨gb101, 1, none⟩ = some (.slice A0_1 l0_1.length c0_1) := (blk_cell BK101.out 1).trans rfl; have hfz157_0 := blk_frozen BK101.out 0; have hfz157_1 := blk_frozen BK101.out 1) | ((with_reducible refine gate_callee (f := 41) rfl ?_); refine goesL_ (some 38) rfl rfl Try.func41 (by kernel_rfl) rfl #[.slice A2 l2.length c2, .int .i64 (l0_1.length : Int)] rfl aM ?_; (with_reducible refine (scarfjointref05_ascending.calls k _ _ l2 (l0_1.length : Int) t106 _ ?side1 ?side2 A8.out).mono ?_); (case side1 => repeat (first | exact (cB HR2.out HB.out) | (with_reducible refine cA ?_ _) | (with_reducible refine cN ?_ _) | (with_reducible refine cD ?_))); (case side2 => exact HC2.out); rintro e w' ⟨rfl, ⟨nd, rfl⟩⟩; refine ⟨_, rfl, ?_⟩; (try (rw [drewN_self w155]; generalize hq_ : World.drewN w155 _ = w155; have n0_ : Aside0 (w155.heap[gb101]? = some (.cells #[.slice A0_0 l0_0.length c0_0, .slice A0_1 l0_1.length c0_1] 25 (0, 0))) := ⟨by rw [← hq_]; exact (by (with_reducible repeat (first | refine bN ?_ _ | refine bD ?_ | refine bA ?_ _)); exact BK101.out)⟩; have n1_ : Aside0 (w155.heap[gb102]? = some (.cells #[.slice none 0 0, .slice none 0 0] 25 (0, 0))) := ⟨by rw [← hq_]; exact (by (with_reducible repeat (first | refine bN ?_ _ | refine bD ?_ | refine bA ?_ _)); exact BK102.out)⟩; have n2_ : Aside0 (w155.heap[gb103]? = some (.cells #[.slice none 0 0, .slice none 0 0] 29 (0, 0))) := ⟨by rw [← hq_]; exact (by (with_reducible repeat (first | refine bN ?_ _ | refine bD ?_ | refine bA ?_ _)); exact BK103.out)⟩; have n3_ : Aside0 (Below w.heap.size w w155) := ⟨by rw [← hq_]; exact (by repeat (first | (with_reducible first | exact HB.out | apply wA | apply wN | apply wD | refine below_set ?_ GE101.out | refine below_set ?_ GE102.out | refine below_set ?_ GE103.out) | exact HB.out))⟩; clear BK101 BK102 BK103 HB hq_; have BK101 := n0_; have BK102 := n1_; have BK103 := n2_; have HB := n3_; clear n0_ n1_ n2_ n3_)); have hnb158 := NB102_103.out; have hnc158 := NB103_102.out; have hcz159_0 : w155.cell? ⟨gb102, 0, none⟩ = some (.slice none 0 0) := (blk_cell BK102.out 0).trans rfl; have hcz159_1 : w155.cell? ⟨gb102, 1, none⟩ = some (.slice none 0 0) := (blk_cell BK102.out 1).trans rfl; have hfz159_0 := blk_frozen BK102.out 0; have hfz159_1 := blk_frozen BK102.out 1; have hcz160_0 : w155.cell? ⟨gb103, 0, none⟩ = some (.slice none 0 0) := (blk_cell BK103.out 0).trans rfl; have hcz160_1 : w155.cell? ⟨gb103, 1, none⟩ = some (.slice none 0 0) := (blk_cell BK103.out 1).trans rfl; have hfz160_0 := blk_frozen BK103.out 0; have hfz160_1 := blk_frozen BK103.out 1))
    refine bodyPost_ret (results_list (rs := [.cell 6 25, .cell 7 29, .tmp 8]) rfl (by simp) (.cell gb102 25 #[.slice none 0 0, .slice none 0 0] (0, 0) _ rfl (by (with_reducible repeat (first | refine bN ?_ _ | refine bD ?_ | refine bA ?_ _)); refine blk_far ?_ NB102_103.out _; (with_reducible repeat (first | refine bN ?_ _ | refine bD ?_ | refine bA ?_ _)); refine blk_far ?_ NB102_103.out _; (with_reducible repeat (first | refine bN ?_ _ | refine bD ?_ | refine bA ?_ _)); refine blk_put (cs := #[.slice none 0 0, .slice none 0 0]) ?_ 1 _ rfl; (with_reducible repeat (first | refine bN ?_ _ | refine bD ?_ | refine bA ?_ _)); refine blk_put (cs := #[.slice none 0 0, .slice none 0 0]) ?_ 0 _ rfl; (with_reducible repeat (first | refine bN ?_ _ | refine bD ?_ | refine bA ?_ _)); exact BK102.out) Try.underlying25 rfl (by kernel_rfl) (.cell gb103 29 #[.slice none 0 0, .slice none 0 0] (0, 0) _ rfl (by (with_reducible repeat (first | refine bN ?_ _ | refine bD ?_ | refine bA ?_ _)); refine blk_put (cs := #[.slice none 0 0, .slice none 0 0]) ?_ 1 _ rfl; (with_reducible repeat (first | refine bN ?_ _ | refine bD ?_ | refine bA ?_ _)); refine blk_put (cs := #[.slice none 0 0, .slice none 0 0]) ?_ 0 _ rfl; (with_reducible repeat (first | refine bN ?_ _ | refine bD ?_ | refine bA ?_ _)); refine blk_far ?_ NB103_102.out _; (with_reducible repeat (first | refine bN ?_ _ | refine bD ?_ | refine bA ?_ _)); refine blk_far ?_ NB103_102.out _; (with_reducible repeat (first | refine bN ?_ _ | refine bD ?_ | refine bA ?_ _)); exact BK103.out) Try.underlying29 rfl (by kernel_rfl) (.tmp .nil)))) rfl ?_
    exact ⟨_, _, _, _, by first | rfl | (simp [errW_none, errW_some] <;> rfl) | (simp [*, errW_none, errW_some] <;> rfl), by first | exact Kd.R_nil _ _ _ _ _ | exact Kd.N_nil _ _ _ _ _ | exact Kd.V_nil _ _ _ _ _ | exact Kd.Q_nil _ _ _ _ _ | exact Kd.S_nil _ _ _ _ _, by first | exact Kd.R_nil _ _ _ _ _ | exact Kd.N_nil _ _ _ _ _ | exact Kd.V_nil _ _ _ _ _ | exact Kd.Q_nil _ _ _ _ _ | exact Kd.S_nil _ _ _ _ _, by first | exact Kd.R_nil _ _ _ _ _ | exact Kd.N_nil _ _ _ _ _ | exact Kd.V_nil _ _ _ _ _ | exact Kd.Q_nil _ _ _ _ _ | exact Kd.S_nil _ _ _ _ _, by first | exact Kd.R_nil _ _ _ _ _ | exact Kd.N_nil _ _ _ _ _ | exact Kd.V_nil _ _ _ _ _ | exact Kd.Q_nil _ _ _ _ _ | exact Kd.S_nil _ _ _ _ _, by repeat (first | (with_reducible first | exact HB.out | apply wA | apply wN | apply wD | refine below_set ?_ GE101.out | refine below_set ?_ GE102.out | refine below_set ?_ GE103.out) | exact HB.out)⟩
  ·rw [if_neg c7] at H
   have c7b0 : (t105 == 0) = false := beq_eq_false_iff_ne.mpr c7
   have c7b1 : (t105 != 0) = true := bne_iff_ne.mpr c7
   simp only [Option.some.injEq, Prod.mk.injEq] at H
   obtain ⟨rfl, rfl, rfl, rfl, rfl⟩ := H
   go_enter Try.func15, Try.ntmps15
   go_wp2_with (first | ((with_reducible refine gate_dst (N := 3) rfl ?_); refine box_event ?hg (N := 3) ?hd (cs := #[.slice A0_0 l0_0.length c0_0, .slice A0_1 l0_1.length c0_1]) (t := 25) ?hr ?_; (case hd => rfl); (case hg => rfl); (case hr => first | (go_simp; done) | (go_simp; rfl)); intro gb101 hg w161 hbox hb; have n0_ := Aside0.mk (wS hB hb); have n1_ := Aside0.mk (hbox); have n2_ := Aside0.mk ((by rw [hg]; exact (below_size hB) : w.heap.size ≤ gb101)); have n3_ := Aside0.mk ((by rw [hg]; exact (below_size hB) : w.heap.size ≤ gb101)); clear HB; have HB := n0_; have BK101 := n1_; have GW101 := n2_; have GE101 := n3_; clear n0_ n1_ n2_ n3_; clear hb hbox hg) | ((with_reducible refine gate_dst (N := 6) rfl ?_); refine box_event ?hg (N := 6) ?hd (cs := #[.slice none 0 0, .slice none 0 0]) (t := 25) ?hr ?_; (case hd => rfl); (case hg => rfl); (case hr => first | (go_simp; done) | (go_simp; rfl)); intro gb102 hg w162 hbox hb; have n0_ := Aside0.mk (bB (g := gb101) (o := .cells #[.slice A0_0 l0_0.length c0_0, .slice A0_1 l0_1.length c0_1] 25 (0, 0)) (by (with_reducible repeat (first | refine bN ?_ _ | refine bD ?_ | refine bA ?_ _)); exact BK101.out) hb); have n1_ := Aside0.mk (wS (by repeat (first | (with_reducible first | exact HB.out | apply wA | apply wN | apply wD | refine below_set ?_ GE101.out) | exact HB.out)) hb); have n2_ := Aside0.mk (hbox); have n3_ := Aside0.mk ((by rw [hg]; exact (below_size (by repeat (first | (with_reducible first | exact HB.out | apply wA | apply wN | apply wD | refine below_set ?_ GE101.out) | exact HB.out))) : w.heap.size ≤ gb102)); have n4_ := Aside0.mk ((by rw [hg]; exact (below_size (by repeat (first | (with_reducible first | exact HB.out | apply wA | apply wN | apply wD | refine below_set ?_ GE101.out) | exact HB.out))) : w.heap.size ≤ gb102)); have n5_ := Aside0.mk ((by rw [hg]; exact Nat.ne_of_lt (blk_lt (g := gb101) (o := .cells #[.slice A0_0 l0_0.length c0_0, .slice A0_1 l0_1.length c0_1] 25 (0, 0)) (by (with_reducible repeat (first | refine bN ?_ _ | refine bD ?_ | refine bA ?_ _)); exact BK101.out)) : gb101 ≠ gb102)); have n6_ := Aside0.mk ((by rw [hg]; exact Nat.ne_of_gt (blk_lt (g := gb101) (o := .cells #[.slice A0_0 l0_0.length c0_0, .slice A0_1 l0_1.length c0_1] 25 (0, 0)) (by (with_reducible repeat (first | refine bN ?_ _ | refine bD ?_ | refine bA ?_ _)); exact BK101.out)) : gb102 ≠ gb101)); clear BK101; clear HB; have BK101 := n0_; have HB := n1_; have BK102 := n2_; have GW102 := n3_; have GE102 := n4_; have NB101_102 := n5_; have NB102_101 := n6_; clear n0_ n1_ n2_ n3_ n4_ n5_ n6_; clear hb hbox hg) | ((with_reducible refine gate_dst (N := 7) rfl ?_); refine box_event ?hg (N := 7) ?hd (cs := #[.slice none 0 0, .slice none 0 0]) (t := 29) ?hr ?_; (case hd => rfl); (case hg => rfl); (case hr => first | (go_simp; done) | (go_simp; rfl)); intro gb103 hg w163 hbox hb; have n0_ := Aside0.mk (bB (g := gb101) (o := .cells #[.slice A0_0 l0_0.length c0_0, .slice A0_1 l0_1.length c0_1] 25 (0, 0)) (by (with_reducible repeat (first | refine bN ?_ _ | refine bD ?_ | refine bA ?_ _)); exact BK101.out) hb); have n1_ := Aside0.mk (bB (g := gb102) (o := .cells #[.slice none 0 0, .slice none 0 0] 25 (0, 0)) (by (with_reducible repeat (first | refine bN ?_ _ | refine bD ?_ | refine bA ?_ _)); exact BK102.out) hb); have n2_ := Aside0.mk (wS (by repeat (first | (with_reducible first | exact HB.out | apply wA | apply wN | apply wD | refine below_set ?_ GE101.out | refine below_set ?_ GE102.out) | exact HB.out)) hb); have n3_ := Aside0.mk (hbox); have n4_ := Aside0.mk ((by rw [hg]; exact (below_size (by repeat (first | (with_reducible first | exact HB.out | apply wA | apply wN | apply wD | refine below_set ?_ GE101.out | refine below_set ?_ GE102.out) | exact HB.out))) : w.heap.size ≤ gb103)); have n5_ := Aside0.mk ((by rw [hg]; exact (below_size (by repeat (first | (with_reducible first | exact HB.out | apply wA | apply wN | apply wD | refine below_set ?_ GE101.out | refine below_set ?_ GE102.out) | exact HB.out))) : w.heap.size ≤ gb103)); have n6_ := Aside0.mk ((by rw [hg]; exact Nat.ne_of_lt (blk_lt (g := gb101) (o := .cells #[.slice A0_0 l0_0.length c0_0, .slice A0_1 l0_1.length c0_1] 25 (0, 0)) (by (with_reducible repeat (first | refine bN ?_ _ | refine bD ?_ | refine bA ?_ _)); exact BK101.out)) : gb101 ≠ gb103)); have n7_ := Aside0.mk ((by rw [hg]; exact Nat.ne_of_gt (blk_lt (g := gb101) (o := .cells #[.slice A0_0 l0_0.length c0_0, .slice A0_1 l0_1.length c0_1] 25 (0, 0)) (by (with_reducible repeat (first | refine bN ?_ _ | refine bD ?_ | refine bA ?_ _)); exact BK101.out)) : gb103 ≠ gb101)); have n8_ := Aside0.mk ((by rw [hg]; exact Nat.ne_of_lt (blk_lt (g := gb102) (o := .cells #[.slice none 0 0, .slice none 0 0] 25 (0, 0)) (by (with_reducible repeat (first | refine bN ?_ _ | refine bD ?_ | refine bA ?_ _)); exact BK102.out)) : gb102 ≠ gb103)); have n9_ := Aside0.mk ((by rw [hg]; exact Nat.ne_of_gt (blk_lt (g := gb102) (o := .cells #[.slice none 0 0, .slice none 0 0] 25 (0, 0)) (by (with_reducible repeat (first | refine bN ?_ _ | refine bD ?_ | refine bA ?_ _)); exact BK102.out)) : gb103 ≠ gb102)); clear BK101; clear BK102; clear HB; have BK101 := n0_; have BK102 := n1_; have HB := n2_; have BK103 := n3_; have GW103 := n4_; have GE103 := n5_; have NB101_103 := n6_; have NB103_101 := n7_; have NB102_103 := n8_; have NB103_102 := n9_; clear n0_ n1_ n2_ n3_ n4_ n5_ n6_ n7_ n8_ n9_; clear hb hbox hg; have hnb164 := NB101_102.out; have hnc164 := NB102_101.out; have hnb165 := NB101_103.out; have hnc165 := NB103_101.out; have hcz166_0 : w163.cell? ⟨gb101, 0, none⟩ = some (.slice A0_0 l0_0.length c0_0) := (blk_cell BK101.out 0).trans rfl; have hcz166_1 : w163.cell? ⟨gb101, 1, none⟩ = some (.slice A0_1 l0_1.length c0_1) := (blk_cell BK101.out 1).trans rfl; have hfz166_0 := blk_frozen BK101.out 0; have hfz166_1 := blk_frozen BK101.out 1) | ((with_reducible refine gate_callee (f := 27) rfl ?_); refine goesL_ (some 18) rfl rfl Try.func27 (by kernel_rfl) rfl #[.agg #[.slice A0_0 l0_0.length c0_0, .slice A0_1 l0_1.length c0_1]] rfl aM ?_; (with_reducible refine (scarfjointref05_Valid.calls k _ _ l0_0 _ _ l0_1 t104 _ ?side1 ?side2 ?side3 ?side4 A4.out).mono ?_); (case side1 => repeat (first | exact (cB HR0_0.out HB.out) | (with_reducible refine cA ?_ _) | (with_reducible refine cN ?_ _) | (with_reducible refine cD ?_))); (case side2 => exact HC0_0.out); (case side3 => repeat (first | exact (cB HR0_1.out HB.out) | (with_reducible refine cA ?_ _) | (with_reducible refine cN ?_ _) | (with_reducible refine cD ?_))); (case side4 => exact HC0_1.out); rintro e w167 ⟨rfl, hb⟩; refine ⟨_, rfl, ?_⟩; have n0_ := Aside0.mk (bB (g := gb101) (o := .cells #[.slice A0_0 l0_0.length c0_0, .slice A0_1 l0_1.length c0_1] 25 (0, 0)) (by (with_reducible repeat (first | refine bN ?_ _ | refine bD ?_ | refine bA ?_ _)); exact BK101.out) hb); have n1_ := Aside0.mk (bB (g := gb102) (o := .cells #[.slice none 0 0, .slice none 0 0] 25 (0, 0)) (by (with_reducible repeat (first | refine bN ?_ _ | refine bD ?_ | refine bA ?_ _)); exact BK102.out) hb); have n2_ := Aside0.mk (bB (g := gb103) (o := .cells #[.slice none 0 0, .slice none 0 0] 29 (0, 0)) (by (with_reducible repeat (first | refine bN ?_ _ | refine bD ?_ | refine bA ?_ _)); exact BK103.out) hb); have n3_ := Aside0.mk (wS (by repeat (first | (with_reducible first | exact HB.out | apply wA | apply wN | apply wD | refine below_set ?_ GE101.out | refine below_set ?_ GE102.out | refine below_set ?_ GE103.out) | exact HB.out)) hb); clear BK101; clear BK102; clear BK103; clear HB; have BK101 := n0_; have BK102 := n1_; have BK103 := n2_; have HB := n3_; clear n0_ n1_ n2_ n3_; (try clear hb); (try clear hb2); (try clear hk); (try clear hi); have hcz168_0 : w167.cell? ⟨gb101, 0, none⟩ = some (.slice A0_0 l0_0.length c0_0) := (blk_cell BK101.out 0).trans rfl; have hcz168_1 : w167.cell? ⟨gb101, 1, none⟩ = some (.slice A0_1 l0_1.length c0_1) := (blk_cell BK101.out 1).trans rfl; have hfz168_0 := blk_frozen BK101.out 0; have hfz168_1 := blk_frozen BK101.out 1) | ((with_reducible refine gate_callee (f := 41) rfl ?_); refine goesL_ (some 28) rfl rfl Try.func41 (by kernel_rfl) rfl #[.slice A1 l1.length c1, .int .i64 (l0_0.length : Int)] rfl aM ?_; (with_reducible refine (scarfjointref05_ascending.calls k _ _ l1 (l0_0.length : Int) t105 _ ?side1 ?side2 A6.out).mono ?_); (case side1 => repeat (first | exact (cB HR1.out HB.out) | (with_reducible refine cA ?_ _) | (with_reducible refine cN ?_ _) | (with_reducible refine cD ?_))); (case side2 => exact HC1.out); rintro e w' ⟨rfl, ⟨nd, rfl⟩⟩; refine ⟨_, rfl, ?_⟩; (try (rw [drewN_self w167]; generalize hq_ : World.drewN w167 _ = w167; have n0_ : Aside0 (w167.heap[gb101]? = some (.cells #[.slice A0_0 l0_0.length c0_0, .slice A0_1 l0_1.length c0_1] 25 (0, 0))) := ⟨by rw [← hq_]; exact (by (with_reducible repeat (first | refine bN ?_ _ | refine bD ?_ | refine bA ?_ _)); exact BK101.out)⟩; have n1_ : Aside0 (w167.heap[gb102]? = some (.cells #[.slice none 0 0, .slice none 0 0] 25 (0, 0))) := ⟨by rw [← hq_]; exact (by (with_reducible repeat (first | refine bN ?_ _ | refine bD ?_ | refine bA ?_ _)); exact BK102.out)⟩; have n2_ : Aside0 (w167.heap[gb103]? = some (.cells #[.slice none 0 0, .slice none 0 0] 29 (0, 0))) := ⟨by rw [← hq_]; exact (by (with_reducible repeat (first | refine bN ?_ _ | refine bD ?_ | refine bA ?_ _)); exact BK103.out)⟩; have n3_ : Aside0 (Below w.heap.size w w167) := ⟨by rw [← hq_]; exact (by repeat (first | (with_reducible first | exact HB.out | apply wA | apply wN | apply wD | refine below_set ?_ GE101.out | refine below_set ?_ GE102.out | refine below_set ?_ GE103.out) | exact HB.out))⟩; clear BK101 BK102 BK103 HB hq_; have BK101 := n0_; have BK102 := n1_; have BK103 := n2_; have HB := n3_; clear n0_ n1_ n2_ n3_)); have hnb169 := NB102_103.out; have hnc169 := NB103_102.out; have hcz170_0 : w167.cell? ⟨gb102, 0, none⟩ = some (.slice none 0 0) := (blk_cell BK102.out 0).trans rfl; have hcz170_1 : w167.cell? ⟨gb102, 1, none⟩ = some (.slice none 0 0) := (blk_cell BK102.out 1).trans rfl; have hfz170_0 := blk_frozen BK102.out 0; have hfz170_1 := blk_frozen BK102.out 1; have hcz171_0 : w167.cell? ⟨gb103, 0, none⟩ = some (.slice none 0 0) := (blk_cell BK103.out 0).trans rfl; have hcz171_1 : w167.cell? ⟨gb103, 1, none⟩ = some (.slice none 0 0) := (blk_cell BK103.out 1).trans rfl; have hfz171_0 := blk_frozen BK103.out 0; have hfz171_1 := blk_frozen BK103.out 1))
   refine bodyPost_ret (results_list (rs := [.cell 6 25, .cell 7 29, .tmp 8]) rfl (by simp) (.cell gb102 25 #[.slice none 0 0, .slice none 0 0] (0, 0) _ rfl (by (with_reducible repeat (first | refine bN ?_ _ | refine bD ?_ | refine bA ?_ _)); refine blk_far ?_ NB102_103.out _; (with_reducible repeat (first | refine bN ?_ _ | refine bD ?_ | refine bA ?_ _)); refine blk_far ?_ NB102_103.out _; (with_reducible repeat (first | refine bN ?_ _ | refine bD ?_ | refine bA ?_ _)); refine blk_put (cs := #[.slice none 0 0, .slice none 0 0]) ?_ 1 _ rfl; (with_reducible repeat (first | refine bN ?_ _ | refine bD ?_ | refine bA ?_ _)); refine blk_put (cs := #[.slice none 0 0, .slice none 0 0]) ?_ 0 _ rfl; (with_reducible repeat (first | refine bN ?_ _ | refine bD ?_ | refine bA ?_ _)); exact BK102.out) Try.underlying25 rfl (by kernel_rfl) (.cell gb103 29 #[.slice none 0 0, .slice none 0 0] (0, 0) _ rfl (by (with_reducible repeat (first | refine bN ?_ _ | refine bD ?_ | refine bA ?_ _)); refine blk_put (cs := #[.slice none 0 0, .slice none 0 0]) ?_ 1 _ rfl; (with_reducible repeat (first | refine bN ?_ _ | refine bD ?_ | refine bA ?_ _)); refine blk_put (cs := #[.slice none 0 0, .slice none 0 0]) ?_ 0 _ rfl; (with_reducible repeat (first | refine bN ?_ _ | refine bD ?_ | refine bA ?_ _)); refine blk_far ?_ NB103_102.out _; (with_reducible repeat (first | refine bN ?_ _ | refine bD ?_ | refine bA ?_ _)); refine blk_far ?_ NB103_102.out _; (with_reducible repeat (first | refine bN ?_ _ | refine bD ?_ | refine bA ?_ _)); exact BK103.out) Try.underlying29 rfl (by kernel_rfl) (.tmp .nil)))) rfl ?_
   exact ⟨_, _, _, _, by first | rfl | (simp [errW_none, errW_some] <;> rfl) | (simp [*, errW_none, errW_some] <;> rfl), by first | exact Kd.R_nil _ _ _ _ _ | exact Kd.N_nil _ _ _ _ _ | exact Kd.V_nil _ _ _ _ _ | exact Kd.Q_nil _ _ _ _ _ | exact Kd.S_nil _ _ _ _ _, by first | exact Kd.R_nil _ _ _ _ _ | exact Kd.N_nil _ _ _ _ _ | exact Kd.V_nil _ _ _ _ _ | exact Kd.Q_nil _ _ _ _ _ | exact Kd.S_nil _ _ _ _ _, by first | exact Kd.R_nil _ _ _ _ _ | exact Kd.N_nil _ _ _ _ _ | exact Kd.V_nil _ _ _ _ _ | exact Kd.Q_nil _ _ _ _ _ | exact Kd.S_nil _ _ _ _ _, by first | exact Kd.R_nil _ _ _ _ _ | exact Kd.N_nil _ _ _ _ _ | exact Kd.V_nil _ _ _ _ _ | exact Kd.Q_nil _ _ _ _ _ | exact Kd.S_nil _ _ _ _ _, by repeat (first | (with_reducible first | exact HB.out | apply wA | apply wN | apply wD | refine below_set ?_ GE101.out | refine below_set ?_ GE102.out | refine below_set ?_ GE103.out) | exact HB.out)⟩
 ·rw [if_neg c5] at H
  have c5b0 : (t104 == 0) = false := beq_eq_false_iff_ne.mpr c5
  have c5b1 : (t104 != 0) = true := bne_iff_ne.mpr c5
  simp only [Option.some.injEq, Prod.mk.injEq] at H
  obtain ⟨rfl, rfl, rfl, rfl, rfl⟩ := H
  go_enter Try.func15, Try.ntmps15
  go_wp2_with (first | ((with_reducible refine gate_dst (N := 3) rfl ?_); refine box_event ?hg (N := 3) ?hd (cs := #[.slice A0_0 l0_0.length c0_0, .slice A0_1 l0_1.length c0_1]) (t := 25) ?hr ?_; (case hd => rfl); (case hg => rfl); (case hr => first | (go_simp; done) | (go_simp; rfl)); intro gb101 hg w172 hbox hb; have n0_ := Aside0.mk (wS hB hb); have n1_ := Aside0.mk (hbox); have n2_ := Aside0.mk ((by rw [hg]; exact (below_size hB) : w.heap.size ≤ gb101)); have n3_ := Aside0.mk ((by rw [hg]; exact (below_size hB) : w.heap.size ≤ gb101)); clear HB; have HB := n0_; have BK101 := n1_; have GW101 := n2_; have GE101 := n3_; clear n0_ n1_ n2_ n3_; clear hb hbox hg) | ((with_reducible refine gate_dst (N := 6) rfl ?_); refine box_event ?hg (N := 6) ?hd (cs := #[.slice none 0 0, .slice none 0 0]) (t := 25) ?hr ?_; (case hd => rfl); (case hg => rfl); (case hr => first | (go_simp; done) | (go_simp; rfl)); intro gb102 hg w173 hbox hb; have n0_ := Aside0.mk (bB (g := gb101) (o := .cells #[.slice A0_0 l0_0.length c0_0, .slice A0_1 l0_1.length c0_1] 25 (0, 0)) (by (with_reducible repeat (first | refine bN ?_ _ | refine bD ?_ | refine bA ?_ _)); exact BK101.out) hb); have n1_ := Aside0.mk (wS (by repeat (first | (with_reducible first | exact HB.out | apply wA | apply wN | apply wD | refine below_set ?_ GE101.out) | exact HB.out)) hb); have n2_ := Aside0.mk (hbox); have n3_ := Aside0.mk ((by rw [hg]; exact (below_size (by repeat (first | (with_reducible first | exact HB.out | apply wA | apply wN | apply wD | refine below_set ?_ GE101.out) | exact HB.out))) : w.heap.size ≤ gb102)); have n4_ := Aside0.mk ((by rw [hg]; exact (below_size (by repeat (first | (with_reducible first | exact HB.out | apply wA | apply wN | apply wD | refine below_set ?_ GE101.out) | exact HB.out))) : w.heap.size ≤ gb102)); have n5_ := Aside0.mk ((by rw [hg]; exact Nat.ne_of_lt (blk_lt (g := gb101) (o := .cells #[.slice A0_0 l0_0.length c0_0, .slice A0_1 l0_1.length c0_1] 25 (0, 0)) (by (with_reducible repeat (first | refine bN ?_ _ | refine bD ?_ | refine bA ?_ _)); exact BK101.out)) : gb101 ≠ gb102)); have n6_ := Aside0.mk ((by rw [hg]; exact Nat.ne_of_gt (blk_lt (g := gb101) (o := .cells #[.slice A0_0 l0_0.length c0_0, .slice A0_1 l0_1.length c0_1] 25 (0, 0)) (by (with_reducible repeat (first | refine bN ?_ _ | refine bD ?_ | refine bA ?_ _)); exact BK101.out)) : gb102 ≠ gb101)); clear BK101; clear HB; have BK101 := n0_; have HB := n1_; have BK102 := n2_; have GW102 := n3_; have GE102 := n4_; have NB101_102 := n5_; have NB102_101 := n6_; clear n0_ n1_ n2_ n3_ n4_ n5_ n6_; clear hb hbox hg) | ((with_reducible refine gate_dst (N := 7) rfl ?_); refine box_event ?hg (N := 7) ?hd (cs := #[.slice none 0 0, .slice none 0 0]) (t := 29) ?hr ?_; (case hd => rfl); (case hg => rfl); (case hr => first | (go_simp; done) | (go_simp; rfl)); intro gb103 hg w174 hbox hb; have n0_ := Aside0.mk (bB (g := gb101) (o := .cells #[.slice A0_0 l0_0.length c0_0, .slice A0_1 l0_1.length c0_1] 25 (0, 0)) (by (with_reducible repeat (first | refine bN ?_ _ | refine bD ?_ | refine bA ?_ _)); exact BK101.out) hb); have n1_ := Aside0.mk (bB (g := gb102) (o := .cells #[.slice none 0 0, .slice none 0 0] 25 (0, 0)) (by (with_reducible repeat (first | refine bN ?_ _ | refine bD ?_ | refine bA ?_ _)); exact BK102.out) hb); have n2_ := Aside0.mk (wS (by repeat (first | (with_reducible first | exact HB.out | apply wA | apply wN | apply wD | refine below_set ?_ GE101.out | refine below_set ?_ GE102.out) | exact HB.out)) hb); have n3_ := Aside0.mk (hbox); have n4_ := Aside0.mk ((by rw [hg]; exact (below_size (by repeat (first | (with_reducible first | exact HB.out | apply wA | apply wN | apply wD | refine below_set ?_ GE101.out | refine below_set ?_ GE102.out) | exact HB.out))) : w.heap.size ≤ gb103)); have n5_ := Aside0.mk ((by rw [hg]; exact (below_size (by repeat (first | (with_reducible first | exact HB.out | apply wA | apply wN | apply wD | refine below_set ?_ GE101.out | refine below_set ?_ GE102.out) | exact HB.out))) : w.heap.size ≤ gb103)); have n6_ := Aside0.mk ((by rw [hg]; exact Nat.ne_of_lt (blk_lt (g := gb101) (o := .cells #[.slice A0_0 l0_0.length c0_0, .slice A0_1 l0_1.length c0_1] 25 (0, 0)) (by (with_reducible repeat (first | refine bN ?_ _ | refine bD ?_ | refine bA ?_ _)); exact BK101.out)) : gb101 ≠ gb103)); have n7_ := Aside0.mk ((by rw [hg]; exact Nat.ne_of_gt (blk_lt (g := gb101) (o := .cells #[.slice A0_0 l0_0.length c0_0, .slice A0_1 l0_1.length c0_1] 25 (0, 0)) (by (with_reducible repeat (first | refine bN ?_ _ | refine bD ?_ | refine bA ?_ _)); exact BK101.out)) : gb103 ≠ gb101)); have n8_ := Aside0.mk ((by rw [hg]; exact Nat.ne_of_lt (blk_lt (g := gb102) (o := .cells #[.slice none 0 0, .slice none 0 0] 25 (0, 0)) (by (with_reducible repeat (first | refine bN ?_ _ | refine bD ?_ | refine bA ?_ _)); exact BK102.out)) : gb102 ≠ gb103)); have n9_ := Aside0.mk ((by rw [hg]; exact Nat.ne_of_gt (blk_lt (g := gb102) (o := .cells #[.slice none 0 0, .slice none 0 0] 25 (0, 0)) (by (with_reducible repeat (first | refine bN ?_ _ | refine bD ?_ | refine bA ?_ _)); exact BK102.out)) : gb103 ≠ gb102)); clear BK101; clear BK102; clear HB; have BK101 := n0_; have BK102 := n1_; have HB := n2_; have BK103 := n3_; have GW103 := n4_; have GE103 := n5_; have NB101_103 := n6_; have NB103_101 := n7_; have NB102_103 := n8_; have NB103_102 := n9_; clear n0_ n1_ n2_ n3_ n4_ n5_ n6_ n7_ n8_ n9_; clear hb hbox hg; have hnb175 := NB101_102.out; have hnc175 := NB102_101.out; have hnb176 := NB101_103.out; have hnc176 := NB103_101.out; have hcz177_0 : w174.cell? ⟨gb101, 0, none⟩ = some (.slice A0_0 l0_0.length c0_0) := (blk_cell BK101.out 0).trans rfl; have hcz177_1 : w174.cell? ⟨gb101, 1, none⟩ = some (.slice A0_1 l0_1.length c0_1) := (blk_cell BK101.out 1).trans rfl; have hfz177_0 := blk_frozen BK101.out 0; have hfz177_1 := blk_frozen BK101.out 1) | ((with_reducible refine gate_callee (f := 27) rfl ?_); refine goesL_ (some 18) rfl rfl Try.func27 (by kernel_rfl) rfl #[.agg #[.slice A0_0 l0_0.length c0_0, .slice A0_1 l0_1.length c0_1]] rfl aM ?_; (with_reducible refine (scarfjointref05_Valid.calls k _ _ l0_0 _ _ l0_1 t104 _ ?side1 ?side2 ?side3 ?side4 A4.out).mono ?_); (case side1 => repeat (first | exact (cB HR0_0.out HB.out) | (with_reducible refine cA ?_ _) | (with_reducible refine cN ?_ _) | (with_reducible refine cD ?_))); (case side2 => exact HC0_0.out); (case side3 => repeat (first | exact (cB HR0_1.out HB.out) | (with_reducible refine cA ?_ _) | (with_reducible refine cN ?_ _) | (with_reducible refine cD ?_))); (case side4 => exact HC0_1.out); rintro e w178 ⟨rfl, hb⟩; refine ⟨_, rfl, ?_⟩; have n0_ := Aside0.mk (bB (g := gb101) (o := .cells #[.slice A0_0 l0_0.length c0_0, .slice A0_1 l0_1.length c0_1] 25 (0, 0)) (by (with_reducible repeat (first | refine bN ?_ _ | refine bD ?_ | refine bA ?_ _)); exact BK101.out) hb); have n1_ := Aside0.mk (bB (g := gb102) (o := .cells #[.slice none 0 0, .slice none 0 0] 25 (0, 0)) (by (with_reducible repeat (first | refine bN ?_ _ | refine bD ?_ | refine bA ?_ _)); exact BK102.out) hb); have n2_ := Aside0.mk (bB (g := gb103) (o := .cells #[.slice none 0 0, .slice none 0 0] 29 (0, 0)) (by (with_reducible repeat (first | refine bN ?_ _ | refine bD ?_ | refine bA ?_ _)); exact BK103.out) hb); have n3_ := Aside0.mk (wS (by repeat (first | (with_reducible first | exact HB.out | apply wA | apply wN | apply wD | refine below_set ?_ GE101.out | refine below_set ?_ GE102.out | refine below_set ?_ GE103.out) | exact HB.out)) hb); clear BK101; clear BK102; clear BK103; clear HB; have BK101 := n0_; have BK102 := n1_; have BK103 := n2_; have HB := n3_; clear n0_ n1_ n2_ n3_; (try clear hb); (try clear hb2); (try clear hk); (try clear hi); have hnb179 := NB102_103.out; have hnc179 := NB103_102.out; have hcz180_0 : w178.cell? ⟨gb102, 0, none⟩ = some (.slice none 0 0) := (blk_cell BK102.out 0).trans rfl; have hcz180_1 : w178.cell? ⟨gb102, 1, none⟩ = some (.slice none 0 0) := (blk_cell BK102.out 1).trans rfl; have hfz180_0 := blk_frozen BK102.out 0; have hfz180_1 := blk_frozen BK102.out 1; have hcz181_0 : w178.cell? ⟨gb103, 0, none⟩ = some (.slice none 0 0) := (blk_cell BK103.out 0).trans rfl; have hcz181_1 : w178.cell? ⟨gb103, 1, none⟩ = some (.slice none 0 0) := (blk_cell BK103.out 1).trans rfl; have hfz181_0 := blk_frozen BK103.out 0; have hfz181_1 := blk_frozen BK103.out 1))
  refine bodyPost_ret (results_list (rs := [.cell 6 25, .cell 7 29, .tmp 8]) rfl (by simp) (.cell gb102 25 #[.slice none 0 0, .slice none 0 0] (0, 0) _ rfl (by (with_reducible repeat (first | refine bN ?_ _ | refine bD ?_ | refine bA ?_ _)); refine blk_far ?_ NB102_103.out _; (with_reducible repeat (first | refine bN ?_ _ | refine bD ?_ | refine bA ?_ _)); refine blk_far ?_ NB102_103.out _; (with_reducible repeat (first | refine bN ?_ _ | refine bD ?_ | refine bA ?_ _)); refine blk_put (cs := #[.slice none 0 0, .slice none 0 0]) ?_ 1 _ rfl; (with_reducible repeat (first | refine bN ?_ _ | refine bD ?_ | refine bA ?_ _)); refine blk_put (cs := #[.slice none 0 0, .slice none 0 0]) ?_ 0 _ rfl; (with_reducible repeat (first | refine bN ?_ _ | refine bD ?_ | refine bA ?_ _)); exact BK102.out) Try.underlying25 rfl (by kernel_rfl) (.cell gb103 29 #[.slice none 0 0, .slice none 0 0] (0, 0) _ rfl (by (with_reducible repeat (first | refine bN ?_ _ | refine bD ?_ | refine bA ?_ _)); refine blk_put (cs := #[.slice none 0 0, .slice none 0 0]) ?_ 1 _ rfl; (with_reducible repeat (first | refine bN ?_ _ | refine bD ?_ | refine bA ?_ _)); refine blk_put (cs := #[.slice none 0 0, .slice none 0 0]) ?_ 0 _ rfl; (with_reducible repeat (first | refine bN ?_ _ | refine bD ?_ | refine bA ?_ _)); refine blk_far ?_ NB103_102.out _; (with_reducible repeat (first | refine bN ?_ _ | refine bD ?_ | refine bA ?_ _)); refine blk_far ?_ NB103_102.out _; (with_reducible repeat (first | refine bN ?_ _ | refine bD ?_ | refine bA ?_ _)); exact BK103.out) Try.underlying29 rfl (by kernel_rfl) (.tmp .nil)))) rfl ?_
  exact ⟨_, _, _, _, by first | rfl | (simp [errW_none, errW_some] <;> rfl) | (simp [*, errW_none, errW_some] <;> rfl), by first | exact Kd.R_nil _ _ _ _ _ | exact Kd.N_nil _ _ _ _ _ | exact Kd.V_nil _ _ _ _ _ | exact Kd.Q_nil _ _ _ _ _ | exact Kd.S_nil _ _ _ _ _, by first | exact Kd.R_nil _ _ _ _ _ | exact Kd.N_nil _ _ _ _ _ | exact Kd.V_nil _ _ _ _ _ | exact Kd.Q_nil _ _ _ _ _ | exact Kd.S_nil _ _ _ _ _, by first | exact Kd.R_nil _ _ _ _ _ | exact Kd.N_nil _ _ _ _ _ | exact Kd.V_nil _ _ _ _ _ | exact Kd.Q_nil _ _ _ _ _ | exact Kd.S_nil _ _ _ _ _, by first | exact Kd.R_nil _ _ _ _ _ | exact Kd.N_nil _ _ _ _ _ | exact Kd.V_nil _ _ _ _ _ | exact Kd.Q_nil _ _ _ _ _ | exact Kd.S_nil _ _ _ _ _, by repeat (first | (with_reducible first | exact HB.out | apply wA | apply wN | apply wD | refine below_set ?_ GE101.out | refine below_set ?_ GE102.out | refine below_set ?_ GE103.out) | exact HB.out)⟩
end Go.Proofs.Ytmbnibonggbjgaa.X
