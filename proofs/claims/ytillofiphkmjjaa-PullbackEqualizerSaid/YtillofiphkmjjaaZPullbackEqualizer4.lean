/- A part of the proof that the law PullbackEqualizer returns true at every input: contracts of the functions that it calls, and lemmas. -/
import Derived.Test.YtillofiphkmjjaaZPullbackEqualizer3
namespace Go.Proofs.Ytillofiphkmjjaa.X
open Go.RowKit Go.Proofs.YtillofiphkmjjaaW.PrintWords Go.Proofs.YtillofiphkmjjaaW.PrintLast Go.Proofs.YtillofiphkmjjaaW.PrintMore
set_option linter.unusedVariables false
set_option linter.unusedSimpArgs false
def T33 : Bool × List (List Nat × List Nat) := (true, [([], []), ([0], [0]), ([], []), ([2], [2]), ([1, 3], [1, 3]), ([], []), ([4, 5, 4], [4, 5]), ([], []), ([7], [7]), ([], []), ([9], [9]), ([8, 10, 6], [8, 10]), ([], []), ([11, 12, 11], [11, 12]), ([6, 13, 0, 1, 2, 3, 4, 5, 6], [6]), ([13, 14, 0, 1, 2, 3, 4, 5, 6, 7, 8, 9, 10, 11, 12, 13, 14], [13]), ([15, 0, 1, 2, 3, 4, 5, 6, 7, 8, 9, 10, 11, 12, 13, 14, 15], [])])
theorem tab33 : rtab .any (opsOf Try.f33 5) = T33 := by kernel_rfl
theorem two_R {W1 w' : World} {base : Nat} {q t : Value} {a b : List S79} (hq : Kd.R k79 79 W1 base (fun _ => True) q a) (hb : Below W1.heap.size W1 w') (ht : Kd.R k79 79 w' W1.heap.size (fun _ => True) t b) (hbase : base ≤ W1.heap.size) :
    Kd.R k79 79 w' base (fun k_ => some k_ ≠ t.ownBlock) q a ∧ Kd.R k79 79 w' base (fun k_ => some k_ ≠ q.ownBlock) t b := by
  have h1 := Kd.R_bound hq
  have h2 := Kd.R_bound ht
  refine ⟨Kd.R_mono (Kd.R_below h1 hb) (fun k hk e => ?_), Kd.R_mono (Kd.R_lower h2 hbase) (fun k hk e => ?_)⟩
  · have := (h2.1 k e.symm).2.1
    have := hk.2.2.1
    omega
  · have := (h1.1 k e.symm).2.2.1
    have := hk.2.1
    omega
def J33 (W0 : World) (B3 B4 B5 : Nat) (A0 : Option Addr) (c0 : Nat) (a0 : List Int) (A1 : Option Addr) (c1 : Nat) (a1 : List S94) (A2 : Option Addr) (c2 : Nat) (b0 : List Int) (A3 : Option Addr) (c3 : Nat) (b1 : List S94) (A4 : Option Addr) (c4 : Nat) (n : List Int) (A5 : Option Addr) (c5 : Nat) (m : List Int) (P Q : List S79) (l : List Bool) (a : Act) (w' : World) : Prop :=
  ∃ (y0 y1 y2 y3 y4 y5 y6 y7 y8 y9 y10 y11 y12 y13 y14 y15 y16 : Bool) (x6 x7 x8 x18 x19 x20 x21 x22 x23 x24 x25 x26 x27 x28 x29 x30 x31 : Value) (p q s t : Value), l = [y0, y1, y2, y3, y4, y5, y6, y7, y8, y9, y10, y11, y12, y13, y14, y15, y16] ∧ a = ⟨#[.agg #[.slice A0 a0.length c0, .slice A1 a1.length c1], .agg #[.slice A2 b0.length c2, .slice A3 b1.length c3], .agg #[.slice A4 n.length c4, .slice A5 m.length c5], .pointer (some ⟨B3, 0, none⟩), .pointer (some ⟨B4, 0, none⟩), .pointer (some ⟨B5, 0, none⟩), x6, x7, x8, .int .i64 0, .func (.func 64) #[] #[], .agg #[.slice A0 a0.length c0, .slice A1 a1.length c1], .agg #[.slice A2 b0.length c2, .slice A3 b1.length c3], .agg #[.slice A4 n.length c4, .slice A5 m.length c5], .int .i64 0, .int .i64 0, .bool false, undef, x18, x19, x20, x21, x22, x23, x24, x25, x26, x27, x28, x29, x30, x31], []⟩ ∧
  (y0 = true → x18 = .pointer (some ⟨B5, 0, none⟩)) ∧
  (y1 = true → x19 = .slice A4 n.length c4) ∧
  (y2 = true → x20 = .pointer (some ⟨B5, 0, none⟩)) ∧
  (y3 = true → x21 = .slice A4 n.length c4) ∧
  (y4 = true → x22 = p ∧ (y6 = false → Kd.R k79 79 w' W0.heap.size (fun _ => True) p P)) ∧
  (y5 = true → x23 = .func (.func 64) #[] #[]) ∧
  (y6 = true → y4 = true) ∧
  (y6 = true → x24 = q ∧ (y11 = false → Kd.R k79 79 w' W0.heap.size (fun _ => True) q (P.filter (fun x => !decide (x.f0 ≥ x.f1))))) ∧
  (y7 = true → x25 = .pointer (some ⟨B5, 1, none⟩)) ∧
  (y8 = true → x26 = .slice A5 m.length c5) ∧
  (y9 = true → x27 = .pointer (some ⟨B5, 1, none⟩)) ∧
  (y10 = true → x28 = .slice A5 m.length c5) ∧
  (y11 = true → y6 = true ∧ x29 = s ∧ ∃ W1, Since W0 W1 ∧ Below W1.heap.size W1 w' ∧ Kd.R k79 79 W1 W0.heap.size (fun _ => True) q (P.filter (fun x => !decide (x.f0 ≥ x.f1))) ∧ (y13 = false → Kd.R k79 79 w' W1.heap.size (fun _ => True) s Q) ∧ (y13 = true → x31 = t ∧ Kd.R k79 79 w' W1.heap.size (fun _ => True) t (Q.filter (fun x => !decide (x.f0 ≥ x.f1))))) ∧
  (y12 = true → x30 = .func (.func 64) #[] #[]) ∧
  (y13 = true → y11 = true) ∧
  (y14 = true → y6 = true ∧ x6 = q) ∧
  (y15 = true → y13 = true ∧ x7 = t) ∧
  (y16 = true → x8 = .int .i64 0) ∧
  (Since W0 w')
set_option maxRecDepth 100000 in
set_option maxHeartbeats 4000000 in
theorem J33_step (k : Nat) (W0 : World) (B3 B4 B5 : Nat) (A0 : Option Addr) (c0 : Nat) (a0 : List Int) (A1 : Option Addr) (c1 : Nat) (a1 : List S94) (A2 : Option Addr) (c2 : Nat) (b0 : List Int) (A3 : Option Addr) (c3 : Nat) (b1 : List S94) (A4 : Option Addr) (c4 : Nat) (n : List Int) (A5 : Option Addr) (c5 : Nat) (m : List Int) (P Q : List S79) (BZ : Box2 W0 B5 27 (.slice A4 n.length c4) (.slice A5 m.length c5)) (R4 : Row (Kd.int .i64) W0 A4 c4 n) (R5 : Row (Kd.int .i64) W0 A5 c5 m) (hP : pullback_pairs.f k n n = some P) (hQ : pullback_pairs.f k m m = some Q)
    {Q_ : Exit → Act → World → Prop} : ∀ l a w' i, J33 W0 B3 B4 B5 A0 c0 a0 A1 c1 a1 A2 c2 b0 A3 c3 b1 A4 c4 n A5 c5 m P Q l a w' → l.length = (opsOf Try.f33 5).size → readyAt T33.2 l i = true → i < T33.2.length → wpOp Try.prog (opsOf Try.f33 5) Q_ i (fun a' w'' => J33 W0 B3 B4 B5 A0 c0 a0 A1 c1 a1 A2 c2 b0 A3 c3 b1 A4 c4 n A5 c5 m P Q (l.set i true) a' w'') a w' := by
  rintro l a w' i ⟨y0, y1, y2, y3, y4, y5, y6, y7, y8, y9, y10, y11, y12, y13, y14, y15, y16, x6, x7, x8, x18, x19, x20, x21, x22, x23, x24, x25, x26, x27, x28, x29, x30, x31, p, q, s, t, rfl, rfl, f0, f1, f2, f3, f4, f5, d6, f6, f7, f8, f9, f10, f11, f12, f13, f14, f15, f16, sb⟩ _ hr hi
  have hu27 := Try.underlying27
  replace hi : i < 17 := hi
  have hcase : i = 0 ∨ i = 1 ∨ i = 2 ∨ i = 3 ∨ i = 4 ∨ i = 5 ∨ i = 6 ∨ i = 7 ∨ i = 8 ∨ i = 9 ∨ i = 10 ∨ i = 11 ∨ i = 12 ∨ i = 13 ∨ i = 14 ∨ i = 15 ∨ i = 16 := by omega
  rcases hcase with rfl | rfl | rfl | rfl | rfl | rfl | rfl | rfl | rfl | rfl | rfl | rfl | rfl | rfl | rfl | rfl | rfl
  · -- 0
    have nb : y0 = false := need_not hr
    refine wpOp_step (i := 0) (o := { dst := some 18, op := Op.fieldAddr 27 (Operand.tmp 5) 0, type := 0, pos := "pullback.go:154", after := #[], guard := none }) (by rfl) (fun K hK => ?_)
    refine event_step (v := .pointer (some ⟨B5, 0, none⟩)) (w1 := w') rfl ?_ ?_
    · first | (go_simp; done) | (go_simp; rfl)
    refine hK _ _ ⟨true, y1, y2, y3, y4, y5, y6, y7, y8, y9, y10, y11, y12, y13, y14, y15, y16, x6, x7, x8, .pointer (some ⟨B5, 0, none⟩), x19, x20, x21, x22, x23, x24, x25, x26, x27, x28, x29, x30, x31, p, q, s, t, rfl, ?_, fun _ => rfl,
      f1,
      f2,
      f3,
      f4,
      f5,
      d6,
      f6,
      f7,
      f8,
      f9,
      f10,
      f11,
      f12,
      f13,
      f14,
      f15,
      f16,
      sb⟩
    simp only [Act.put, List.setIfInBounds_toArray, List.set_cons_zero, List.set_cons_succ]
  · -- 1
    have nb : y1 = false := need_not hr
    have n0 : y0 = true := need (j := 0) hr rfl (by decide)
    refine wpOp_step (i := 1) (o := { dst := some 19, op := Op.load 22 (Operand.tmp 18), type := 22, pos := "pullback.go:154", after := #[{ on := 0, ground := Ground.data }], guard := none }) (by rfl) (fun K hK => ?_)
    obtain rfl := f0 n0
    have hx := (BZ.below sb.get).c0
    refine event_step (v := .slice A4 n.length c4) (w1 := w') rfl ?_ ?_
    · first | (go_simp; done) | (go_simp; rfl)
    refine hK _ _ ⟨y0, true, y2, y3, y4, y5, y6, y7, y8, y9, y10, y11, y12, y13, y14, y15, y16, x6, x7, x8, .pointer (some ⟨B5, 0, none⟩), .slice A4 n.length c4, x20, x21, x22, x23, x24, x25, x26, x27, x28, x29, x30, x31, p, q, s, t, rfl, ?_, fun _ => rfl,
      fun _ => rfl,
      f2,
      f3,
      f4,
      f5,
      d6,
      f6,
      f7,
      f8,
      f9,
      f10,
      f11,
      f12,
      f13,
      f14,
      f15,
      f16,
      sb⟩
    simp only [Act.put, List.setIfInBounds_toArray, List.set_cons_zero, List.set_cons_succ]
  · -- 2
    have nb : y2 = false := need_not hr
    refine wpOp_step (i := 2) (o := { dst := some 20, op := Op.fieldAddr 27 (Operand.tmp 5) 0, type := 0, pos := "pullback.go:154", after := #[], guard := none }) (by rfl) (fun K hK => ?_)
    refine event_step (v := .pointer (some ⟨B5, 0, none⟩)) (w1 := w') rfl ?_ ?_
    · first | (go_simp; done) | (go_simp; rfl)
    refine hK _ _ ⟨y0, y1, true, y3, y4, y5, y6, y7, y8, y9, y10, y11, y12, y13, y14, y15, y16, x6, x7, x8, x18, x19, .pointer (some ⟨B5, 0, none⟩), x21, x22, x23, x24, x25, x26, x27, x28, x29, x30, x31, p, q, s, t, rfl, ?_, f0,
      f1,
      fun _ => rfl,
      f3,
      f4,
      f5,
      d6,
      f6,
      f7,
      f8,
      f9,
      f10,
      f11,
      f12,
      f13,
      f14,
      f15,
      f16,
      sb⟩
    simp only [Act.put, List.setIfInBounds_toArray, List.set_cons_zero, List.set_cons_succ]
  · -- 3
    have nb : y3 = false := need_not hr
    have n2 : y2 = true := need (j := 2) hr rfl (by decide)
    refine wpOp_step (i := 3) (o := { dst := some 21, op := Op.load 22 (Operand.tmp 20), type := 22, pos := "pullback.go:154", after := #[{ on := 2, ground := Ground.data }], guard := none }) (by rfl) (fun K hK => ?_)
    obtain rfl := f2 n2
    have hx := (BZ.below sb.get).c0
    refine event_step (v := .slice A4 n.length c4) (w1 := w') rfl ?_ ?_
    · first | (go_simp; done) | (go_simp; rfl)
    refine hK _ _ ⟨y0, y1, y2, true, y4, y5, y6, y7, y8, y9, y10, y11, y12, y13, y14, y15, y16, x6, x7, x8, x18, x19, .pointer (some ⟨B5, 0, none⟩), .slice A4 n.length c4, x22, x23, x24, x25, x26, x27, x28, x29, x30, x31, p, q, s, t, rfl, ?_, f0,
      f1,
      fun _ => rfl,
      fun _ => rfl,
      f4,
      f5,
      d6,
      f6,
      f7,
      f8,
      f9,
      f10,
      f11,
      f12,
      f13,
      f14,
      f15,
      f16,
      sb⟩
    simp only [Act.put, List.setIfInBounds_toArray, List.set_cons_zero, List.set_cons_succ]
  · -- 4
    have nb : y4 = false := need_not hr
    have n1 : y1 = true := need (j := 1) hr rfl (by decide)
    have n3 : y3 = true := need (j := 3) hr rfl (by decide)
    refine wpOp_step (i := 4) (o := { dst := some 22, op := Op.call { callee := Callee.value (Operand.func 66), args := #[Operand.tmp 19, Operand.tmp 21], argTypes := #[22, 22] }, type := 70, pos := "pullback.go:154", after := #[{ on := 1, ground := Ground.data }, { on := 3, ground := Ground.data }], guard := none }) (by rfl) (fun K hK => ?_)
    obtain rfl := f1 n1
    obtain rfl := f3 n3
    refine goes_ Try.func66 (by kernel_rfl) rfl #[.slice A4 n.length c4, .slice A4 n.length c4] (by rfl) rfl rfl (by (try simp only [List.map_toArray, List.map_cons, List.map_nil]); first | done | rfl) ?_
    refine (pullback_pairs.calls k _ _ n _ _ n P _ (R4.below sb.get).at_ R4.cap (R4.below sb.get).at_ R4.cap hP).mono ?_
    rintro e w1 ⟨p', rfl, h0, hb⟩
    refine ⟨_, rfl, ?_⟩
    refine hK _ _ ⟨y0, y1, y2, y3, true, y5, y6, y7, y8, y9, y10, y11, y12, y13, y14, y15, y16, x6, x7, x8, x18, .slice A4 n.length c4, x20, .slice A4 n.length c4, p', x23, x24, x25, x26, x27, x28, x29, x30, x31, p', q, s, t, rfl, ?_, f0,
      fun _ => rfl,
      f2,
      fun _ => rfl,
      fun _ => ⟨rfl, fun _ => Kd.R_lower h0 sb.get.size⟩,
      f5,
      fun _ => rfl,
      fun h => absurd (d6 h) (by rw [nb]; decide),
      f7,
      f8,
      f9,
      f10,
      fun h => absurd (d6 (f11 h).1) (by rw [nb]; decide),
      f12,
      f13,
      f14,
      f15,
      f16,
      sb.step hb⟩
    simp only [Act.put, List.setIfInBounds_toArray, List.set_cons_zero, List.set_cons_succ]
  · -- 5
    have nb : y5 = false := need_not hr
    refine wpOp_step (i := 5) (o := { dst := some 23, op := Op.move (Operand.tmp 10), type := 102, pos := "pullback.go:154", after := #[], guard := none }) (by rfl) (fun K hK => ?_)
    refine event_step (v := .func (.func 64) #[] #[]) (w1 := w') rfl ?_ ?_
    · first | (go_simp; done) | (go_simp; rfl)
    refine hK _ _ ⟨y0, y1, y2, y3, y4, true, y6, y7, y8, y9, y10, y11, y12, y13, y14, y15, y16, x6, x7, x8, x18, x19, x20, x21, x22, .func (.func 64) #[] #[], x24, x25, x26, x27, x28, x29, x30, x31, p, q, s, t, rfl, ?_, f0,
      f1,
      f2,
      f3,
      f4,
      fun _ => rfl,
      d6,
      f6,
      f7,
      f8,
      f9,
      f10,
      f11,
      f12,
      f13,
      f14,
      f15,
      f16,
      sb⟩
    simp only [Act.put, List.setIfInBounds_toArray, List.set_cons_zero, List.set_cons_succ]
  · -- 6
    have nb : y6 = false := need_not hr
    have n4 : y4 = true := need (j := 4) hr rfl (by decide)
    have n5 : y5 = true := need (j := 5) hr rfl (by decide)
    refine wpOp_step (i := 6) (o := { dst := some 24, op := Op.call { callee := Callee.value (Operand.func 65), args := #[Operand.tmp 22, Operand.tmp 23], argTypes := #[70, 102] }, type := 70, pos := "pullback.go:154", after := #[{ on := 4, ground := Ground.data }, { on := 5, ground := Ground.data }, { on := 4, ground := Ground.chain }], guard := none }) (by rfl) (fun K hK => ?_)
    obtain ⟨e4, hr⟩ := f4 n4
    subst p
    obtain rfl := f5 n5
    refine goes_ Try.func65 (by kernel_rfl) rfl #[x22, .func (.func 64) #[] #[]] (by rfl) rfl rfl (by (try simp only [List.map_toArray, List.map_cons, List.map_nil]); first | done | rfl) ?_
    refine (DeleteFunc65_R (fun x => decide (x.f0 ≥ x.f1)) 64 #[] (fun args w => enters_ Try.func64 (by kernel_rfl) rfl args w) x22 P W0 w' sb.get (hr nb) (fun W x => Kernel1_calls x W)).mono ?_
    rintro e w1 ⟨q', rfl, h0, hb⟩
    refine ⟨_, rfl, ?_⟩
    refine hK _ _ ⟨y0, y1, y2, y3, y4, y5, true, y7, y8, y9, y10, y11, y12, y13, y14, y15, y16, x6, x7, x8, x18, x19, x20, x21, x22, .func (.func 64) #[] #[], q', x25, x26, x27, x28, x29, x30, x31, x22, q', s, t, rfl, ?_, f0,
      f1,
      f2,
      f3,
      fun _ => ⟨rfl, fun h => absurd h (by decide)⟩,
      fun _ => rfl,
      fun _ => n4,
      fun _ => ⟨rfl, fun _ => h0⟩,
      f7,
      f8,
      f9,
      f10,
      fun h => absurd (f11 h).1 (by rw [nb]; decide),
      f12,
      f13,
      fun h => absurd (f14 h).1 (by rw [nb]; decide),
      f15,
      f16,
      ⟨hb⟩⟩
    simp only [Act.put, List.setIfInBounds_toArray, List.set_cons_zero, List.set_cons_succ]
  · -- 7
    have nb : y7 = false := need_not hr
    refine wpOp_step (i := 7) (o := { dst := some 25, op := Op.fieldAddr 27 (Operand.tmp 5) 1, type := 0, pos := "pullback.go:154", after := #[], guard := none }) (by rfl) (fun K hK => ?_)
    refine event_step (v := .pointer (some ⟨B5, 1, none⟩)) (w1 := w') rfl ?_ ?_
    · first | (go_simp; done) | (go_simp; rfl)
    refine hK _ _ ⟨y0, y1, y2, y3, y4, y5, y6, true, y8, y9, y10, y11, y12, y13, y14, y15, y16, x6, x7, x8, x18, x19, x20, x21, x22, x23, x24, .pointer (some ⟨B5, 1, none⟩), x26, x27, x28, x29, x30, x31, p, q, s, t, rfl, ?_, f0,
      f1,
      f2,
      f3,
      f4,
      f5,
      d6,
      f6,
      fun _ => rfl,
      f8,
      f9,
      f10,
      f11,
      f12,
      f13,
      f14,
      f15,
      f16,
      sb⟩
    simp only [Act.put, List.setIfInBounds_toArray, List.set_cons_zero, List.set_cons_succ]
  · -- 8
    have nb : y8 = false := need_not hr
    have n7 : y7 = true := need (j := 7) hr rfl (by decide)
    refine wpOp_step (i := 8) (o := { dst := some 26, op := Op.load 22 (Operand.tmp 25), type := 22, pos := "pullback.go:154", after := #[{ on := 7, ground := Ground.data }], guard := none }) (by rfl) (fun K hK => ?_)
    obtain rfl := f7 n7
    have hx := (BZ.below sb.get).c1
    refine event_step (v := .slice A5 m.length c5) (w1 := w') rfl ?_ ?_
    · first | (go_simp; done) | (go_simp; rfl)
    refine hK _ _ ⟨y0, y1, y2, y3, y4, y5, y6, y7, true, y9, y10, y11, y12, y13, y14, y15, y16, x6, x7, x8, x18, x19, x20, x21, x22, x23, x24, .pointer (some ⟨B5, 1, none⟩), .slice A5 m.length c5, x27, x28, x29, x30, x31, p, q, s, t, rfl, ?_, f0,
      f1,
      f2,
      f3,
      f4,
      f5,
      d6,
      f6,
      fun _ => rfl,
      fun _ => rfl,
      f9,
      f10,
      f11,
      f12,
      f13,
      f14,
      f15,
      f16,
      sb⟩
    simp only [Act.put, List.setIfInBounds_toArray, List.set_cons_zero, List.set_cons_succ]
  · -- 9
    have nb : y9 = false := need_not hr
    refine wpOp_step (i := 9) (o := { dst := some 27, op := Op.fieldAddr 27 (Operand.tmp 5) 1, type := 0, pos := "pullback.go:154", after := #[], guard := none }) (by rfl) (fun K hK => ?_)
    refine event_step (v := .pointer (some ⟨B5, 1, none⟩)) (w1 := w') rfl ?_ ?_
    · first | (go_simp; done) | (go_simp; rfl)
    refine hK _ _ ⟨y0, y1, y2, y3, y4, y5, y6, y7, y8, true, y10, y11, y12, y13, y14, y15, y16, x6, x7, x8, x18, x19, x20, x21, x22, x23, x24, x25, x26, .pointer (some ⟨B5, 1, none⟩), x28, x29, x30, x31, p, q, s, t, rfl, ?_, f0,
      f1,
      f2,
      f3,
      f4,
      f5,
      d6,
      f6,
      f7,
      f8,
      fun _ => rfl,
      f10,
      f11,
      f12,
      f13,
      f14,
      f15,
      f16,
      sb⟩
    simp only [Act.put, List.setIfInBounds_toArray, List.set_cons_zero, List.set_cons_succ]
  · -- 10
    have nb : y10 = false := need_not hr
    have n9 : y9 = true := need (j := 9) hr rfl (by decide)
    refine wpOp_step (i := 10) (o := { dst := some 28, op := Op.load 22 (Operand.tmp 27), type := 22, pos := "pullback.go:154", after := #[{ on := 9, ground := Ground.data }], guard := none }) (by rfl) (fun K hK => ?_)
    obtain rfl := f9 n9
    have hx := (BZ.below sb.get).c1
    refine event_step (v := .slice A5 m.length c5) (w1 := w') rfl ?_ ?_
    · first | (go_simp; done) | (go_simp; rfl)
    refine hK _ _ ⟨y0, y1, y2, y3, y4, y5, y6, y7, y8, y9, true, y11, y12, y13, y14, y15, y16, x6, x7, x8, x18, x19, x20, x21, x22, x23, x24, x25, x26, .pointer (some ⟨B5, 1, none⟩), .slice A5 m.length c5, x29, x30, x31, p, q, s, t, rfl, ?_, f0,
      f1,
      f2,
      f3,
      f4,
      f5,
      d6,
      f6,
      f7,
      f8,
      fun _ => rfl,
      fun _ => rfl,
      f11,
      f12,
      f13,
      f14,
      f15,
      f16,
      sb⟩
    simp only [Act.put, List.setIfInBounds_toArray, List.set_cons_zero, List.set_cons_succ]
  · -- 11
    have nb : y11 = false := need_not hr
    have n8 : y8 = true := need (j := 8) hr rfl (by decide)
    have n10 : y10 = true := need (j := 10) hr rfl (by decide)
    have n6 : y6 = true := need (j := 6) hr rfl (by decide)
    refine wpOp_step (i := 11) (o := { dst := some 29, op := Op.call { callee := Callee.value (Operand.func 66), args := #[Operand.tmp 26, Operand.tmp 28], argTypes := #[22, 22] }, type := 70, pos := "pullback.go:154", after := #[{ on := 8, ground := Ground.data }, { on := 10, ground := Ground.data }, { on := 6, ground := Ground.chain }], guard := none }) (by rfl) (fun K hK => ?_)
    obtain rfl := f8 n8
    obtain rfl := f10 n10
    refine goes_ Try.func66 (by kernel_rfl) rfl #[.slice A5 m.length c5, .slice A5 m.length c5] (by rfl) rfl rfl (by (try simp only [List.map_toArray, List.map_cons, List.map_nil]); first | done | rfl) ?_
    refine (pullback_pairs.calls k _ _ m _ _ m Q _ (R5.below sb.get).at_ R5.cap (R5.below sb.get).at_ R5.cap hQ).mono ?_
    rintro e w1 ⟨s', rfl, h0, hb⟩
    refine ⟨_, rfl, ?_⟩
    refine hK _ _ ⟨y0, y1, y2, y3, y4, y5, y6, y7, y8, y9, y10, true, y12, y13, y14, y15, y16, x6, x7, x8, x18, x19, x20, x21, x22, x23, x24, x25, .slice A5 m.length c5, x27, .slice A5 m.length c5, s', x30, x31, p, q, s', t, rfl, ?_, f0,
      f1,
      f2,
      f3,
      fun h => ⟨(f4 h).1, fun h' => absurd h' (by rw [n6]; decide)⟩,
      f5,
      d6,
      fun h => ⟨(f6 h).1, fun h' => absurd h' (by decide)⟩,
      f7,
      fun _ => rfl,
      f9,
      fun _ => rfl,
      fun _ => ⟨n6, rfl, w', sb, hb, (f6 n6).2 nb, fun _ => h0, fun h => absurd (f13 h) (by rw [nb]; decide)⟩,
      f12,
      fun _ => rfl,
      f14,
      f15,
      f16,
      sb.step hb⟩
    simp only [Act.put, List.setIfInBounds_toArray, List.set_cons_zero, List.set_cons_succ]
  · -- 12
    have nb : y12 = false := need_not hr
    refine wpOp_step (i := 12) (o := { dst := some 30, op := Op.move (Operand.tmp 10), type := 102, pos := "pullback.go:154", after := #[], guard := none }) (by rfl) (fun K hK => ?_)
    refine event_step (v := .func (.func 64) #[] #[]) (w1 := w') rfl ?_ ?_
    · first | (go_simp; done) | (go_simp; rfl)
    refine hK _ _ ⟨y0, y1, y2, y3, y4, y5, y6, y7, y8, y9, y10, y11, true, y13, y14, y15, y16, x6, x7, x8, x18, x19, x20, x21, x22, x23, x24, x25, x26, x27, x28, x29, .func (.func 64) #[] #[], x31, p, q, s, t, rfl, ?_, f0,
      f1,
      f2,
      f3,
      f4,
      f5,
      d6,
      f6,
      f7,
      f8,
      f9,
      f10,
      f11,
      fun _ => rfl,
      f13,
      f14,
      f15,
      f16,
      sb⟩
    simp only [Act.put, List.setIfInBounds_toArray, List.set_cons_zero, List.set_cons_succ]
  · -- 13
    have nb : y13 = false := need_not hr
    have n11 : y11 = true := need (j := 11) hr rfl (by decide)
    have n12 : y12 = true := need (j := 12) hr rfl (by decide)
    obtain ⟨n6, -⟩ := f11 n11
    refine wpOp_step (i := 13) (o := { dst := some 31, op := Op.call { callee := Callee.value (Operand.func 65), args := #[Operand.tmp 29, Operand.tmp 30], argTypes := #[70, 102] }, type := 70, pos := "pullback.go:154", after := #[{ on := 11, ground := Ground.data }, { on := 12, ground := Ground.data }, { on := 11, ground := Ground.chain }], guard := none }) (by rfl) (fun K hK => ?_)
    obtain ⟨-, e11, W1, k1, k2, k3, k4, -⟩ := f11 n11
    subst s
    obtain rfl := f12 n12
    refine goes_ Try.func65 (by kernel_rfl) rfl #[x29, .func (.func 64) #[] #[]] (by rfl) rfl rfl (by (try simp only [List.map_toArray, List.map_cons, List.map_nil]); first | done | rfl) ?_
    refine (DeleteFunc65_R (fun x => decide (x.f0 ≥ x.f1)) 64 #[] (fun args w => enters_ Try.func64 (by kernel_rfl) rfl args w) x29 Q W1 w' k2 (k4 nb) (fun W x => Kernel1_calls x W)).mono ?_
    rintro e w1 ⟨t', rfl, h0, hb⟩
    refine ⟨_, rfl, ?_⟩
    refine hK _ _ ⟨y0, y1, y2, y3, y4, y5, y6, y7, y8, y9, y10, y11, y12, true, y14, y15, y16, x6, x7, x8, x18, x19, x20, x21, x22, x23, x24, x25, x26, x27, x28, x29, .func (.func 64) #[] #[], t', p, q, x29, t', rfl, ?_, f0,
      f1,
      f2,
      f3,
      fun h => ⟨(f4 h).1, fun h' => absurd h' (by rw [n6]; decide)⟩,
      f5,
      d6,
      fun h => ⟨(f6 h).1, fun h' => absurd h' (by rw [n11]; decide)⟩,
      f7,
      f8,
      f9,
      f10,
      fun _ => ⟨n6, rfl, W1, k1, hb, k3, fun h => absurd h (by decide), fun _ => ⟨rfl, h0⟩⟩,
      fun _ => rfl,
      fun _ => n11,
      f14,
      fun h => absurd (f15 h).1 (by rw [nb]; decide),
      f16,
      ⟨below_step k1.get hb⟩⟩
    simp only [Act.put, List.setIfInBounds_toArray, List.set_cons_zero, List.set_cons_succ]
  · -- 14
    have nb : y14 = false := need_not hr
    have n6 : y6 = true := need (j := 6) hr rfl (by decide)
    have n13 : y13 = true := need (j := 13) hr rfl (by decide)
    refine wpOp_step (i := 14) (o := { dst := some 6, op := Op.assign (Operand.tmp 24), type := 70, pos := "pullback.go:154", after := #[{ on := 6, ground := Ground.data }, { on := 13, ground := Ground.chain }, { on := 0, ground := Ground.phase }, { on := 1, ground := Ground.phase }, { on := 2, ground := Ground.phase }, { on := 3, ground := Ground.phase }, { on := 4, ground := Ground.phase }, { on := 5, ground := Ground.phase }, { on := 6, ground := Ground.phase }, { on := 7, ground := Ground.textOnly Departure.lateStores }, { on := 8, ground := Ground.textOnly Departure.lateStores }, { on := 9, ground := Ground.textOnly Departure.lateStores }, { on := 10, ground := Ground.textOnly Departure.lateStores }, { on := 11, ground := Ground.textOnly Departure.lateStoresUnsure }, { on := 12, ground := Ground.textOnly Departure.lateStores }, { on := 13, ground := Ground.textOnly Departure.lateStoresUnsure }], guard := none }) (by rfl) (fun K hK => ?_)
    obtain ⟨e6, _⟩ := f6 n6
    subst q
    refine event_step (v := x24) (w1 := w') rfl ?_ ?_
    · first | (go_simp; done) | (go_simp; rfl)
    refine hK _ _ ⟨y0, y1, y2, y3, y4, y5, y6, y7, y8, y9, y10, y11, y12, y13, true, y15, y16, x24, x7, x8, x18, x19, x20, x21, x22, x23, x24, x25, x26, x27, x28, x29, x30, x31, p, x24, s, t, rfl, ?_, f0,
      f1,
      f2,
      f3,
      f4,
      f5,
      d6,
      fun h => ⟨rfl, (f6 h).2⟩,
      f7,
      f8,
      f9,
      f10,
      f11,
      f12,
      f13,
      fun _ => ⟨n6, rfl⟩,
      f15,
      f16,
      sb⟩
    simp only [Act.put, List.setIfInBounds_toArray, List.set_cons_zero, List.set_cons_succ]
  · -- 15
    have nb : y15 = false := need_not hr
    have n13 : y13 = true := need (j := 13) hr rfl (by decide)
    have n14 : y14 = true := need (j := 14) hr rfl (by decide)
    refine wpOp_step (i := 15) (o := { dst := some 7, op := Op.assign (Operand.tmp 31), type := 70, pos := "pullback.go:154", after := #[{ on := 13, ground := Ground.data }, { on := 14, ground := Ground.chain }, { on := 0, ground := Ground.phase }, { on := 1, ground := Ground.phase }, { on := 2, ground := Ground.phase }, { on := 3, ground := Ground.phase }, { on := 4, ground := Ground.phase }, { on := 5, ground := Ground.phase }, { on := 6, ground := Ground.phase }, { on := 7, ground := Ground.phase }, { on := 8, ground := Ground.phase }, { on := 9, ground := Ground.phase }, { on := 10, ground := Ground.phase }, { on := 11, ground := Ground.phase }, { on := 12, ground := Ground.phase }, { on := 13, ground := Ground.phase }, { on := 14, ground := Ground.phase }], guard := none }) (by rfl) (fun K hK => ?_)
    obtain ⟨-, -, W1, k1, k2, k3, k4, k5⟩ := f11 (f13 n13)
    obtain ⟨e7, k6⟩ := k5 n13
    subst t
    refine event_step (v := x31) (w1 := w') rfl ?_ ?_
    · first | (go_simp; done) | (go_simp; rfl)
    refine hK _ _ ⟨y0, y1, y2, y3, y4, y5, y6, y7, y8, y9, y10, y11, y12, y13, y14, true, y16, x6, x31, x8, x18, x19, x20, x21, x22, x23, x24, x25, x26, x27, x28, x29, x30, x31, p, q, s, x31, rfl, ?_, f0,
      f1,
      f2,
      f3,
      f4,
      f5,
      d6,
      f6,
      f7,
      f8,
      f9,
      f10,
      fun h => ⟨(f11 h).1, (f11 h).2.1, W1, k1, k2, k3, k4, fun _ => ⟨rfl, k6⟩⟩,
      f12,
      f13,
      f14,
      fun _ => ⟨n13, rfl⟩,
      f16,
      sb⟩
    simp only [Act.put, List.setIfInBounds_toArray, List.set_cons_zero, List.set_cons_succ]
  · -- 16
    have nb : y16 = false := need_not hr
    have n15 : y15 = true := need (j := 15) hr rfl (by decide)
    refine wpOp_step (i := 16) (o := { dst := some 8, op := Op.assign (Operand.const (Value.int IntKind.i64 0)), type := 34, pos := "pullback.go:154", after := #[{ on := 15, ground := Ground.chain }, { on := 0, ground := Ground.phase }, { on := 1, ground := Ground.phase }, { on := 2, ground := Ground.phase }, { on := 3, ground := Ground.phase }, { on := 4, ground := Ground.phase }, { on := 5, ground := Ground.phase }, { on := 6, ground := Ground.phase }, { on := 7, ground := Ground.phase }, { on := 8, ground := Ground.phase }, { on := 9, ground := Ground.phase }, { on := 10, ground := Ground.phase }, { on := 11, ground := Ground.phase }, { on := 12, ground := Ground.phase }, { on := 13, ground := Ground.phase }, { on := 14, ground := Ground.phase }, { on := 15, ground := Ground.phase }], guard := none }) (by rfl) (fun K hK => ?_)
    refine event_step (v := .int .i64 0) (w1 := w') rfl ?_ ?_
    · first | (go_simp; done) | (go_simp; rfl)
    refine hK _ _ ⟨y0, y1, y2, y3, y4, y5, y6, y7, y8, y9, y10, y11, y12, y13, y14, y15, true, x6, x7, .int .i64 0, x18, x19, x20, x21, x22, x23, x24, x25, x26, x27, x28, x29, x30, x31, p, q, s, t, rfl, ?_, f0,
      f1,
      f2,
      f3,
      f4,
      f5,
      d6,
      f6,
      f7,
      f8,
      f9,
      f10,
      f11,
      f12,
      f13,
      f14,
      f15,
      fun _ => rfl,
      sb⟩
    simp only [Act.put, List.setIfInBounds_toArray, List.set_cons_zero, List.set_cons_succ]
set_option maxHeartbeats 4000000 in
set_option maxRecDepth 100000 in
theorem kernel_a (A0 : Option Addr) (c0 : Nat) (a0 : List Int) (A1 : Option Addr) (c1 : Nat) (a1 : List S94) (A2 : Option Addr) (c2 : Nat) (b0 : List Int) (A3 : Option Addr) (c3 : Nat) (b1 : List S94) (A4 : Option Addr) (c4 : Nat) (n : List Int) (A5 : Option Addr) (c5 : Nat) (m : List Int) (w : World) (R0 : Row (Kd.int .i64) w A0 c0 a0) (R1 : Row k94 w A1 c1 a1) (R2 : Row (Kd.int .i64) w A2 c2 b0) (R3 : Row k94 w A3 c3 b1) (R4 : Row (Kd.int .i64) w A4 c4 n) (R5 : Row (Kd.int .i64) w A5 c5 m) (hv : mvalid a0 a1 b0 b1 n m ≠ 0) :
    Calls Try.prog 33 #[.agg #[.slice A0 a0.length c0, .slice A1 a1.length c1], .agg #[.slice A2 b0.length c2, .slice A3 b1.length c3], .agg #[.slice A4 n.length c4, .slice A5 m.length c5]] w fun e w' => ∃ v0_ v1_ : Value, e = .returned (.tuple #[v0_, v1_, .int .i64 (mvalid a0 a1 b0 b1 n m)]) ∧ Kd.R k79 79 w' w.heap.size (fun k_ => some k_ ≠ (v1_ : Value).ownBlock) v0_ [] ∧ Kd.R k79 79 w' w.heap.size (fun k_ => some k_ ≠ (v0_ : Value).ownBlock) v1_ [] ∧ Below w.heap.size w w' := by
  have hu25 := Try.underlying25
  have hu27 := Try.underlying27
  have hu94 := Try.underlying94
  have HV_ := Aside0.mk hv
  clear hv
  have SB := Since.refl w
  go_enter Try.func33, Try.ntmps33
  go_upto_region 1 with fail
  obtain ⟨BX, BY, BZ, hb⟩ := tri_new w (.slice A0 a0.length c0) (.slice A1 a1.length c1) 25 (.slice A2 b0.length c2) (.slice A3 b1.length c3) 25 (.slice A4 n.length c4) (.slice A5 m.length c5) 27
  replace R0 := R0.below hb
  replace R1 := R1.below hb
  replace R2 := R2.below hb
  replace R3 := R3.below hb
  replace R4 := R4.below hb
  replace R5 := R5.below hb
  replace SB := SB.step hb
  clear hb
  generalize hw : (((w.alloc (.cells #[.slice A0 a0.length c0, .slice A1 a1.length c1] 25)).alloc (.cells #[.slice A2 b0.length c2, .slice A3 b1.length c3] 25)).alloc (.cells #[.slice A4 n.length c4, .slice A5 m.length c5] 27)) = w0 at *
  clear hw
  have BXx0 := BX.c0
  have BXx1 := BX.c1
  have BYx0 := BY.c0
  have BYx1 := BY.c1
  have BZx0 := BZ.c0
  have BZx1 := BZ.c1
  go_wp2_with fail
  refine (morphism_Valid.calls _ _ a0 _ _ a1 _ _ b0 _ _ b1 _ _ n _ _ m (mvalid a0 a1 b0 b1 n m) _ R0.at_ R0.cap R1.at_ R1.cap R2.at_ R2.cap R3.at_ R3.cap R4.at_ R4.cap R5.at_ R5.cap rfl).mono ?_
  rintro e w1 ⟨rfl, hb⟩
  replace hb := below_step (show Below w0.heap.size w0 _ from by repeat (first | exact Below.refl _ _ | apply below_alloc | apply pw_below_drewN | apply below_drew1)) hb
  replace R0 := R0.below hb
  replace R1 := R1.below hb
  replace R2 := R2.below hb
  replace R3 := R3.below hb
  replace R4 := R4.below hb
  replace R5 := R5.below hb
  replace BX := BX.below hb
  replace BY := BY.below hb
  replace BZ := BZ.below hb
  replace SB := SB.step hb
  clear hb
  have BXx0 := BX.c0
  have BXx1 := BX.c1
  have BYx0 := BY.c0
  have BYx1 := BY.c1
  have BZx0 := BZ.c0
  have BZx1 := BZ.c1
  have hz : (mvalid a0 a1 b0 b1 n m != 0) = true := bne_iff_ne.mpr HV_.out
  go_wp2_with fail
  go_ret3
  exact ⟨_, _, rfl, Kd.R_nil _ _ _ _ _, Kd.R_nil _ _ _ _ _, SB.get⟩
set_option maxHeartbeats 4000000 in
set_option maxRecDepth 100000 in
theorem kernel_b (k : Nat) (A0 : Option Addr) (c0 : Nat) (a0 : List Int) (A1 : Option Addr) (c1 : Nat) (a1 : List S94) (A2 : Option Addr) (c2 : Nat) (b0 : List Int) (A3 : Option Addr) (c3 : Nat) (b1 : List S94) (A4 : Option Addr) (c4 : Nat) (n : List Int) (A5 : Option Addr) (c5 : Nat) (m : List Int) (w : World) (R0 : Row (Kd.int .i64) w A0 c0 a0) (R1 : Row k94 w A1 c1 a1) (R2 : Row (Kd.int .i64) w A2 c2 b0) (R3 : Row k94 w A3 c3 b1) (R4 : Row (Kd.int .i64) w A4 c4 n) (R5 : Row (Kd.int .i64) w A5 c5 m) (hv : mvalid a0 a1 b0 b1 n m = 0) (P Q : List S79) (hP : pullback_pairs.f k n n = some P) (hQ : pullback_pairs.f k m m = some Q) :
    Calls Try.prog 33 #[.agg #[.slice A0 a0.length c0, .slice A1 a1.length c1], .agg #[.slice A2 b0.length c2, .slice A3 b1.length c3], .agg #[.slice A4 n.length c4, .slice A5 m.length c5]] w fun e w' => ∃ v0_ v1_ : Value, e = .returned (.tuple #[v0_, v1_, .int .i64 0]) ∧ Kd.R k79 79 w' w.heap.size (fun k_ => some k_ ≠ (v1_ : Value).ownBlock) v0_ (P.filter (fun x => !decide (x.f0 ≥ x.f1))) ∧ Kd.R k79 79 w' w.heap.size (fun k_ => some k_ ≠ (v0_ : Value).ownBlock) v1_ (Q.filter (fun x => !decide (x.f0 ≥ x.f1))) ∧ Below w.heap.size w w' := by
  have hu25 := Try.underlying25
  have hu27 := Try.underlying27
  have hu94 := Try.underlying94
  have HV_ := Aside0.mk hv
  have HP_ := Aside0.mk hP
  have HQ_ := Aside0.mk hQ
  clear hv hP hQ
  have SB := Since.refl w
  go_enter Try.func33, Try.ntmps33
  go_upto_region 1 with fail
  obtain ⟨BX, BY, BZ, hb⟩ := tri_new w (.slice A0 a0.length c0) (.slice A1 a1.length c1) 25 (.slice A2 b0.length c2) (.slice A3 b1.length c3) 25 (.slice A4 n.length c4) (.slice A5 m.length c5) 27
  replace R0 := R0.below hb
  replace R1 := R1.below hb
  replace R2 := R2.below hb
  replace R3 := R3.below hb
  replace R4 := R4.below hb
  replace R5 := R5.below hb
  replace SB := SB.step hb
  clear hb
  generalize hw : (((w.alloc (.cells #[.slice A0 a0.length c0, .slice A1 a1.length c1] 25)).alloc (.cells #[.slice A2 b0.length c2, .slice A3 b1.length c3] 25)).alloc (.cells #[.slice A4 n.length c4, .slice A5 m.length c5] 27)) = w0 at *
  clear hw
  have BXx0 := BX.c0
  have BXx1 := BX.c1
  have BYx0 := BY.c0
  have BYx1 := BY.c1
  have BZx0 := BZ.c0
  have BZx1 := BZ.c1
  go_wp2_with fail
  refine (morphism_Valid.calls _ _ a0 _ _ a1 _ _ b0 _ _ b1 _ _ n _ _ m 0 _ R0.at_ R0.cap R1.at_ R1.cap R2.at_ R2.cap R3.at_ R3.cap R4.at_ R4.cap R5.at_ R5.cap (by unfold morphism_Valid.f; rw [HV_.out])).mono ?_
  rintro e w1 ⟨rfl, hb⟩
  replace hb := below_step (show Below w0.heap.size w0 _ from by repeat (first | exact Below.refl _ _ | apply below_alloc | apply pw_below_drewN | apply below_drew1)) hb
  replace R0 := R0.below hb
  replace R1 := R1.below hb
  replace R2 := R2.below hb
  replace R3 := R3.below hb
  replace R4 := R4.below hb
  replace R5 := R5.below hb
  replace BX := BX.below hb
  replace BY := BY.below hb
  replace BZ := BZ.below hb
  replace SB := SB.step hb
  clear hb
  have BXx0 := BX.c0
  have BXx1 := BX.c1
  have BYx0 := BY.c0
  have BYx1 := BY.c1
  have BZx0 := BZ.c0
  have BZx1 := BZ.c1
  go_upto_region 5 with fail
  refine drawn_ (J33 w1 w.heap.size (w.heap.size + 1) (w.heap.size + 2) A0 c0 a0 A1 c1 a1 A2 c2 b0 A3 c3 b1 A4 c4 n A5 c5 m P Q) T33 tab33 (by kernel_rfl) ?_ (J33_step k w1 w.heap.size (w.heap.size + 1) (w.heap.size + 2) A0 c0 a0 A1 c1 a1 A2 c2 b0 A3 c3 b1 A4 c4 n A5 c5 m P Q BZ R4 R5 HP_.out HQ_.out) ?_
  · exact ⟨false, false, false, false, false, false, false, false, false, false, false, false, false, false, false, false, false, .slice none 0 0, .slice none 0 0, .int .i64 0, undef, undef, undef, undef, undef, undef, undef, undef, undef, undef, undef, undef, undef, undef, undef, undef, undef, undef, rfl, rfl, fun h => absurd h (by decide), fun h => absurd h (by decide), fun h => absurd h (by decide), fun h => absurd h (by decide), fun h => absurd h (by decide), fun h => absurd h (by decide), fun h => absurd h (by decide), fun h => absurd h (by decide), fun h => absurd h (by decide), fun h => absurd h (by decide), fun h => absurd h (by decide), fun h => absurd h (by decide), fun h => absurd h (by decide), fun h => absurd h (by decide), fun h => absurd h (by decide), fun h => absurd h (by decide), fun h => absurd h (by decide), fun h => absurd h (by decide), ⟨below_drew1 (Below.refl _ _)⟩⟩
  rintro l a wd ⟨y0, y1, y2, y3, y4, y5, y6, y7, y8, y9, y10, y11, y12, y13, y14, y15, y16, x6, x7, x8, x18, x19, x20, x21, x22, x23, x24, x25, x26, x27, x28, x29, x30, x31, p, q, s, t, rfl, rfl, f0, f1, f2, f3, f4, f5, d6, f6, f7, f8, f9, f10, f11, f12, f13, f14, f15, f16, sb⟩ _ hr
  obtain rfl : y0 = true := all_done hr 0 rfl rfl
  obtain rfl : y1 = true := all_done hr 1 rfl rfl
  obtain rfl : y2 = true := all_done hr 2 rfl rfl
  obtain rfl : y3 = true := all_done hr 3 rfl rfl
  obtain rfl : y4 = true := all_done hr 4 rfl rfl
  obtain rfl : y5 = true := all_done hr 5 rfl rfl
  obtain rfl : y6 = true := all_done hr 6 rfl rfl
  obtain rfl : y7 = true := all_done hr 7 rfl rfl
  obtain rfl : y8 = true := all_done hr 8 rfl rfl
  obtain rfl : y9 = true := all_done hr 9 rfl rfl
  obtain rfl : y10 = true := all_done hr 10 rfl rfl
  obtain rfl : y11 = true := all_done hr 11 rfl rfl
  obtain rfl : y12 = true := all_done hr 12 rfl rfl
  obtain rfl : y13 = true := all_done hr 13 rfl rfl
  obtain rfl : y14 = true := all_done hr 14 rfl rfl
  obtain rfl : y15 = true := all_done hr 15 rfl rfl
  obtain rfl : y16 = true := all_done hr 16 rfl rfl
  obtain ⟨-, rfl⟩ := f14 rfl
  obtain ⟨-, rfl⟩ := f15 rfl
  obtain rfl := f16 rfl
  obtain ⟨-, -, W1, k1, k2, k3, -, k5⟩ := f11 rfl
  obtain ⟨-, k6⟩ := k5 rfl
  obtain ⟨z0, z1⟩ := two_R k3 k2 k6 k1.get.size
  clear hr f0 f1 f2 f3 f4 f5 d6 f6 f7 f8 f9 f10 f11 f12 f13 f14 f15 f16 k1 k2 k3 k5 k6
  have hb := sb.get
  have SB0 := SB
  replace SB := SB.step hb
  have hs := sb.get.size
  go_wp2_with fail
  go_ret3
  exact ⟨_, _, rfl, Kd.R_lower z0 SB0.get.size, Kd.R_lower z1 SB0.get.size, SB.get⟩
def pullback_Kernel.f (k : Nat) (l0_0 : List Int) (l0_1 : List (S94)) (l1_0 : List Int) (l1_1 : List (S94)) (l2_0 : List Int) (l2_1 : List Int) : Option ((List (S79)) × (List (S79)) × Int) := if mvalid l0_0 l0_1 l1_0 l1_1 l2_0 l2_1 = 0 then ((pullback_pairs.f k l2_0 l2_0).bind fun P => (pullback_pairs.f k l2_1 l2_1).bind fun Q => some ((P.filter (fun x => !decide (x.f0 ≥ x.f1))), (Q.filter (fun x => !decide (x.f0 ≥ x.f1))), 0)) else some ([], [], mvalid l0_0 l0_1 l1_0 l1_1 l2_0 l2_1)
theorem pullback_Kernel.mono : ∀ a0 a1 a2 a3 a4 a5 k, LeO (pullback_Kernel.f k a0 a1 a2 a3 a4 a5) (pullback_Kernel.f (k + 1) a0 a1 a2 a3 a4 a5) := by
  intro a0 a1 a2 a3 a4 a5 k
  unfold pullback_Kernel.f
  refine LeO.ite ?_ (LeO.refl _)
  refine LeO.bind (pullback_pairs.mono _ _ _) (fun _ => ?_)
  exact LeO.bind (pullback_pairs.mono _ _ _) (fun _ => LeO.refl _)
theorem pullback_Kernel.calls (k : Nat) (A0_0 : Option Addr) (c0_0 : Nat) (l0_0 : List Int) (A0_1 : Option Addr) (c0_1 : Nat) (l0_1 : List (S94)) (A1_0 : Option Addr) (c1_0 : Nat) (l1_0 : List Int) (A1_1 : Option Addr) (c1_1 : Nat) (l1_1 : List (S94)) (A2_0 : Option Addr) (c2_0 : Nat) (l2_0 : List Int) (A2_1 : Option Addr) (c2_1 : Nat) (l2_1 : List Int) (r1 r2 : List S79) (r3 : Int) (w : World) (hr0_0 : Kd.C (Kd.int .i64) w A0_0 l0_0.length l0_0) (hc0_0 : l0_0.length ≤ c0_0) (hr0_1 : Kd.C k94 w A0_1 l0_1.length l0_1) (hc0_1 : l0_1.length ≤ c0_1) (hr1_0 : Kd.C (Kd.int .i64) w A1_0 l1_0.length l1_0) (hc1_0 : l1_0.length ≤ c1_0) (hr1_1 : Kd.C k94 w A1_1 l1_1.length l1_1) (hc1_1 : l1_1.length ≤ c1_1) (hr2_0 : Kd.C (Kd.int .i64) w A2_0 l2_0.length l2_0) (hc2_0 : l2_0.length ≤ c2_0) (hr2_1 : Kd.C (Kd.int .i64) w A2_1 l2_1.length l2_1) (hc2_1 : l2_1.length ≤ c2_1) (h : pullback_Kernel.f k l0_0 l0_1 l1_0 l1_1 l2_0 l2_1 = some (r1, r2, r3)) :
    Calls Try.prog 33 #[.agg #[.slice A0_0 l0_0.length c0_0, .slice A0_1 l0_1.length c0_1], .agg #[.slice A1_0 l1_0.length c1_0, .slice A1_1 l1_1.length c1_1], .agg #[.slice A2_0 l2_0.length c2_0, .slice A2_1 l2_1.length c2_1]] w fun e w' => ∃ v0_ v1_ : Value, e = .returned (.tuple #[v0_, v1_, .int .i64 r3]) ∧ Kd.R k79 79 w' w.heap.size (fun k_ => some k_ ≠ (v1_ : Value).ownBlock) v0_ r1 ∧ Kd.R k79 79 w' w.heap.size (fun k_ => some k_ ≠ (v0_ : Value).ownBlock) v1_ r2 ∧ Below w.heap.size w w' := by
  unfold pullback_Kernel.f at h
  split at h
  · rename_i hv
    cases hP : pullback_pairs.f k l2_0 l2_0 with
    | none => rw [hP] at h; cases h
    | some P =>
      cases hQ : pullback_pairs.f k l2_1 l2_1 with
      | none => rw [hP, hQ] at h; cases h
      | some Q =>
        rw [hP, hQ] at h
        cases h
        exact kernel_b k A0_0 c0_0 l0_0 A0_1 c0_1 l0_1 A1_0 c1_0 l1_0 A1_1 c1_1 l1_1 A2_0 c2_0 l2_0 A2_1 c2_1 l2_1 w ⟨hc0_0, hr0_0⟩ ⟨hc0_1, hr0_1⟩ ⟨hc1_0, hr1_0⟩ ⟨hc1_1, hr1_1⟩ ⟨hc2_0, hr2_0⟩ ⟨hc2_1, hr2_1⟩ hv P Q hP hQ
  · rename_i hv
    cases h
    exact kernel_a A0_0 c0_0 l0_0 A0_1 c0_1 l0_1 A1_0 c1_0 l1_0 A1_1 c1_1 l1_1 A2_0 c2_0 l2_0 A2_1 c2_1 l2_1 w ⟨hc0_0, hr0_0⟩ ⟨hc0_1, hr0_1⟩ ⟨hc1_0, hr1_0⟩ ⟨hc1_1, hr1_1⟩ ⟨hc2_0, hr2_0⟩ ⟨hc2_1, hr2_1⟩ hv
end Go.Proofs.Ytillofiphkmjjaa.X

namespace Go.Proofs.Ytillofiphkmjjaa.X
open Go.RowKit Go.Proofs.YtillofiphkmjjaaW.PrintWords Go.Proofs.YtillofiphkmjjaaW.PrintLast Go.Proofs.YtillofiphkmjjaaW.PrintMore
open Go.Proofs.YtillofiphkmjjaaW.PrintWords renaming blk_drewN → bN, blk_drew → bD, blk_alloc → bA, below_alloc → wA, pw_below_drewN → wN, below_drew1 → wD, blk_below → bB, below_step → wS, blk_at → bT, blk_grown → bG
open Go.Proofs.YtillofiphkmjjaaW.PrintWords.Kd renaming R_alloc → rA, R_drewN → rN, R_drew → rD, R_below → rB, R_grown → rG, C_below → cB, C_alloc → cA, C_drewN → cN, C_drew → cD
attribute [local go_sem] max2_int min2_int max_two min_two max_three min_three max_four min_four
set_option linter.unusedVariables false
set_option linter.unusedSimpArgs false
attribute [local go_sem high] eqA79
/-! ### scarfjointref11_SamePairs: function 35 -/
def scarfjointref11_SamePairs.l0 : Nat → List (S79) → List (S79) → Int → Option (Bool)
 | 0, _, _, _ => none
 | k + 1, x0, x1, x5 => if x5 < (x0.length : Int) then (if 0 ≤ x5 then (if x5 < (x1.length : Int) then (if (!(((rd_T79 x0 x5).f0) == ((rd_T79 x1 x5).f0)) || (!(((rd_T79 x0 x5).f1) == ((rd_T79 x1 x5).f1)))) = true then (some false) else (scarfjointref11_SamePairs.l0 k x0 x1 (wrap64 (x5 + 1)))) else (none)) else (none)) else (some true)
def scarfjointref11_SamePairs.f (k : Nat) (l0 : List (S79)) (l1 : List (S79)) : Option (Bool) := if (l0.length : Int) = (l1.length : Int) then (scarfjointref11_SamePairs.l0 k l0 l1 0) else (some false)
theorem scarfjointref11_SamePairs.mono_l : ∀ k, (∀ y0 y1 y2, LeO (scarfjointref11_SamePairs.l0 k y0 y1 y2) (scarfjointref11_SamePairs.l0 (k + 1) y0 y1 y2))
 | 0 => fun _ _ _ r h => by simp [scarfjointref11_SamePairs.l0] at h
 | k + 1 => by
  have ih0 := scarfjointref11_SamePairs.mono_l k
  ·intro y0 y1 y2
   unfold scarfjointref11_SamePairs.l0
   repeat' first
   | (with_reducible exact ih0 _ _ _)
   | (with_reducible exact LeO.refl _)
   | (with_reducible exact LeO.none _)
   | (with_reducible refine LeO.ite ?_ ?_)
   | (with_reducible refine LeO.bind ?_ (fun _ => ?_))
   | exact ih0 _ _ _
   | exact LeO.none _
   | refine LeO.ite ?_ ?_
   | refine LeO.bind ?_ (fun _ => ?_)
theorem scarfjointref11_SamePairs.mono : ∀ a0 a1 k, LeO (scarfjointref11_SamePairs.f k a0 a1) (scarfjointref11_SamePairs.f (k + 1) a0 a1) := by
 intro a0 a1 k
 have ih0 := scarfjointref11_SamePairs.mono_l k
 unfold scarfjointref11_SamePairs.f
 repeat' first
   | (with_reducible exact ih0 _ _ _)
   | (with_reducible exact LeO.refl _)
   | (with_reducible exact LeO.none _)
   | (with_reducible refine LeO.ite ?_ ?_)
   | (with_reducible refine LeO.bind ?_ (fun _ => ?_))
   | exact ih0 _ _ _
   | exact LeO.none _
   | refine LeO.ite ?_ ?_
   | refine LeO.bind ?_ (fun _ => ?_)
set_option maxHeartbeats 8000000 in
set_option maxRecDepth 100000 in
theorem scarfjointref11_SamePairs.calls (k : Nat) (A0 : Option Addr) (c0 : Nat) (l0 : List (S79)) (A1 : Option Addr) (c1 : Nat) (l1 : List (S79)) (r : Bool) (w : World) (hr0 : Kd.C k79 w A0 l0.length l0) (hc0 : l0.length ≤ c0) (hr1 : Kd.C k79 w A1 l1.length l1) (hc1 : l1.length ≤ c1) (h : scarfjointref11_SamePairs.f k l0 l1 = some r) :
  Calls Try.prog 35 #[.slice A0 l0.length c0, .slice A1 l1.length c1] w fun e w' => e = .returned (.bool r) ∧ Drawn0 w w' := by
 have hu79 := Try.underlying79
 have HR0 := Aside0.mk hr0
 have HC0 := Aside0.mk hc0
 clear hr0 hc0
 have HR1 := Aside0.mk hr1
 have HC1 := Aside0.mk hc1
 clear hr1 hc1
 have H : (if (l0.length : Int) = (l1.length : Int) then (scarfjointref11_SamePairs.l0 k l0 l1 0) else (some false)) = some r := h
 clear h
 by_cases c3 : (l0.length : Int) = (l1.length : Int)
 ·rw [if_pos c3] at H
  have c3b0 : ((l0.length : Int) == (l1.length : Int)) = true := beq_iff_eq.mpr c3
  have c3b1 : ((l0.length : Int) != (l1.length : Int)) = false := bne_eq_false_iff_eq.mpr c3
  have c3b2 : (l0.length == l1.length) = true := by first | simpa using c3 | (simp at c3 ⊢; omega)
  clear c3
  have H' := Aside0.mk H
  clear H
  go_enter Try.func35, Try.ntmps35
  go_wp2
  repeat (go_quiet (fail); try go_wp2)
  go_loopg [5] k (fun kq v5 w' => ∃ (x5_1 : Int), v5 = .int .i64 x5_1 ∧ Aside0 (scarfjointref11_SamePairs.l0 kq l0 l1 x5_1 = some r) ∧ Aside0 (kq ≤ k) ∧ Drawn0 w w')
  case atStart => exact ⟨(0), rS, H', ⟨Nat.le_refl _⟩, by repeat (first | exact Drawn0.refl _ | apply Drawn0.step)⟩
  case round =>
   clear H'
   try clear c1; try clear p2; try clear c3; try clear c3b0; try clear c3b1; try clear c3b2
   obtain ⟨x5_1, rfl, HA, HK1, ⟨m1, rfl⟩⟩ := hrel
   cases gk with
   | zero => exact absurd HA.out (by simp [scarfjointref11_SamePairs.l0])
   | succ k1 =>
    have H := HA.out
    clear HA
    simp only [scarfjointref11_SamePairs.l0] at H
    by_cases c4 : x5_1 < (l0.length : Int)
    ·rw [if_pos c4] at H
     have c4b0 : decide (x5_1 < (l0.length : Int)) = true := decide_eq_true c4
     clear c4
     by_cases c5 : 0 ≤ x5_1
     ·rw [if_pos c5] at H
      have c5b0 : decide (0 ≤ x5_1) = true := decide_eq_true c5
      clear c5
      by_cases c6 : x5_1 < (l1.length : Int)
      ·rw [if_pos c6] at H
       have c6b0 : decide (x5_1 < (l1.length : Int)) = true := decide_eq_true c6
       clear c6
       by_cases c7 : (!(((rd_T79 l0 x5_1).f0) == ((rd_T79 l1 x5_1).f0)) || (!(((rd_T79 l0 x5_1).f1) == ((rd_T79 l1 x5_1).f1)))) = true
       ·rw [if_pos c7] at H
        have c7b0 : (!(((rd_T79 l0 x5_1).f0) == ((rd_T79 l1 x5_1).f0)) || (!(((rd_T79 l0 x5_1).f1) == ((rd_T79 l1 x5_1).f1)))) = true := c7
        clear c7
        obtain rfl := Option.some.inj H
        have p101 : 0 ≤ (x5_1 : Int) := oT
        have q101 : x5_1 < (l0.length : Int) := oT
        obtain ⟨ad101, e101, hx101_0, hx101_1⟩ := at_T79 HR0.out x5_1 p101 q101
        cases e101
        replace p101 := eq_true p101
        replace q101 := eq_true q101
        have p102 : 0 ≤ (x5_1 : Int) := oT
        have q102 : x5_1 < (l1.length : Int) := oT
        obtain ⟨ad102, e102, hx102_0, hx102_1⟩ := at_T79 HR1.out x5_1 p102 q102
        cases e102
        replace p102 := eq_true p102
        replace q102 := eq_true q102
        go_wp2
        repeat (go_quiet (fail); try go_wp2)
        go_ret
        exact ⟨by first | rfl | (simp; done) | (simp [*]; done), by repeat (first | exact Drawn0.refl _ | apply Drawn0.step)⟩
       ·rw [if_neg c7] at H
        have c7b0 : (!(((rd_T79 l0 x5_1).f0) == ((rd_T79 l1 x5_1).f0)) || (!(((rd_T79 l0 x5_1).f1) == ((rd_T79 l1 x5_1).f1)))) = false := by simpa using c7
        clear c7
        have H' := Aside0.mk H
        clear H
        have p101 : 0 ≤ (x5_1 : Int) := oT
        have q101 : x5_1 < (l0.length : Int) := oT
        obtain ⟨ad101, e101, hx101_0, hx101_1⟩ := at_T79 HR0.out x5_1 p101 q101
        cases e101
        replace p101 := eq_true p101
        replace q101 := eq_true q101
        have p102 : 0 ≤ (x5_1 : Int) := oT
        have q102 : x5_1 < (l1.length : Int) := oT
        obtain ⟨ad102, e102, hx102_0, hx102_1⟩ := at_T79 HR1.out x5_1 p102 q102
        cases e102
        replace p102 := eq_true p102
        replace q102 := eq_true q102
        go_wp2
        repeat (go_quiet (fail); try go_wp2)
        go_roundg k1
        case measure => have := HK1.out; omega
        case rel => exact ⟨(wrap64 (x5_1 + 1)), rS, H', ⟨by have := HK1.out; omega⟩, by repeat (first | exact Drawn0.refl _ | apply Drawn0.step)⟩
      ·rw [if_neg c6] at H
       exact absurd H (by simp)
     ·rw [if_neg c5] at H
      exact absurd H (by simp)
    ·rw [if_neg c4] at H
     have c4b0 : decide (x5_1 < (l0.length : Int)) = false := decide_eq_false c4
     clear c4
     obtain rfl := Option.some.inj H
     go_wp2
     repeat (go_quiet (fail); try go_wp2)
     go_ret
     exact ⟨by first | rfl | (simp; done) | (simp [*]; done), by repeat (first | exact Drawn0.refl _ | apply Drawn0.step)⟩
 ·rw [if_neg c3] at H
  have c3b0 : ((l0.length : Int) == (l1.length : Int)) = false := beq_eq_false_iff_ne.mpr c3
  have c3b1 : ((l0.length : Int) != (l1.length : Int)) = true := bne_iff_ne.mpr c3
  have c3b2 : (l0.length == l1.length) = false := by first | simpa using c3 | (simp at c3 ⊢; omega)
  obtain rfl := Option.some.inj H
  go_enter Try.func35, Try.ntmps35
  go_wp2
  repeat (go_quiet (fail); try go_wp2)
  go_ret
  exact ⟨by first | rfl | (simp; done) | (simp [*]; done), by repeat (first | exact Drawn0.refl _ | apply Drawn0.step)⟩
end Go.Proofs.Ytillofiphkmjjaa.X

namespace Go.Proofs.Ytillofiphkmjjaa.X
open Go.RowKit Go.Proofs.YtillofiphkmjjaaW.PrintWords Go.Proofs.YtillofiphkmjjaaW.PrintLast Go.Proofs.YtillofiphkmjjaaW.PrintMore
open Go.Proofs.YtillofiphkmjjaaW.PrintWords renaming blk_drewN → bN, blk_drew → bD, blk_alloc → bA, below_alloc → wA, pw_below_drewN → wN, below_drew1 → wD, blk_below → bB, below_step → wS, blk_at → bT, blk_grown → bG
open Go.Proofs.YtillofiphkmjjaaW.PrintWords.Kd renaming R_alloc → rA, R_drewN → rN, R_drew → rD, R_below → rB, R_grown → rG, C_below → cB, C_alloc → cA, C_drewN → cN, C_drew → cD
attribute [local go_sem] max2_int min2_int max_two min_two max_three min_three max_four min_four
set_option linter.unusedVariables false
set_option linter.unusedSimpArgs false
/-! ### scarfjointlaw11_example: function 39 -/
def scarfjointlaw11_example.f  : Option (List Int × (List (S94)) × List Int × (List (S94)) × List Int × (List (S94)) × List Int × List Int × List Int × List Int) := (some (([0, 0] : List Int) : List Int)).bind fun y102 => ((some (([0, 0] : List Int) : List Int)).bind fun y110 => (some (y102, ([] : List (S94)), y102, ([] : List (S94)), (([0] : List Int)), ([] : List (S94)), y110, ([] : List Int), y110, ([] : List Int))))
set_option maxHeartbeats 8000000 in
set_option maxRecDepth 100000 in
theorem scarfjointlaw11_example.calls  (r1 : List Int) (r2 : List (S94)) (r3 : List Int) (r4 : List (S94)) (r5 : List Int) (r6 : List (S94)) (r7 : List Int) (r8 : List Int) (r9 : List Int) (r10 : List Int) (w : World) (h : scarfjointlaw11_example.f  = some (r1, r2, r3, r4, r5, r6, r7, r8, r9, r10)) :
  Calls Try.prog 39 #[] w fun e w' => ∃ v0_ v1_ v2_ v3_ v4_ v5_ v6_ v7_ v8_ v9_ : Value, e = .returned (.agg #[v0_, v1_, v2_, v3_, v4_, v5_, v6_, v7_, v8_, v9_]) ∧ Kd.V (Kd.int .i64) 3 w' w.heap.size (fun k_ => (w.heap.size ≤ k_) ∧ some k_ ≠ (v1_ : Value).ownBlock ∧ some k_ ≠ (v3_ : Value).ownBlock ∧ some k_ ≠ (v4_ : Value).ownBlock ∧ some k_ ≠ (v5_ : Value).ownBlock ∧ some k_ ≠ (v7_ : Value).ownBlock ∧ some k_ ≠ (v9_ : Value).ownBlock) v0_ r1 ∧ Kd.R k94 94 w' w.heap.size (fun k_ => (w.heap.size ≤ k_) ∧ some k_ ≠ (v3_ : Value).ownBlock ∧ some k_ ≠ (v5_ : Value).ownBlock) v1_ r2 ∧ Kd.V (Kd.int .i64) 3 w' w.heap.size (fun k_ => (w.heap.size ≤ k_) ∧ some k_ ≠ (v1_ : Value).ownBlock ∧ some k_ ≠ (v3_ : Value).ownBlock ∧ some k_ ≠ (v4_ : Value).ownBlock ∧ some k_ ≠ (v5_ : Value).ownBlock ∧ some k_ ≠ (v7_ : Value).ownBlock ∧ some k_ ≠ (v9_ : Value).ownBlock) v2_ r3 ∧ Kd.R k94 94 w' w.heap.size (fun k_ => (w.heap.size ≤ k_) ∧ some k_ ≠ (v1_ : Value).ownBlock ∧ some k_ ≠ (v5_ : Value).ownBlock) v3_ r4 ∧ Kd.R (Kd.int .i64) 3 w' w.heap.size (fun k_ => (w.heap.size ≤ k_) ∧ some k_ ≠ (v7_ : Value).ownBlock ∧ some k_ ≠ (v9_ : Value).ownBlock) v4_ r5 ∧ Kd.R k94 94 w' w.heap.size (fun k_ => (w.heap.size ≤ k_) ∧ some k_ ≠ (v1_ : Value).ownBlock ∧ some k_ ≠ (v3_ : Value).ownBlock) v5_ r6 ∧ Kd.V (Kd.int .i64) 3 w' w.heap.size (fun k_ => (w.heap.size ≤ k_) ∧ some k_ ≠ (v1_ : Value).ownBlock ∧ some k_ ≠ (v3_ : Value).ownBlock ∧ some k_ ≠ (v4_ : Value).ownBlock ∧ some k_ ≠ (v5_ : Value).ownBlock ∧ some k_ ≠ (v7_ : Value).ownBlock ∧ some k_ ≠ (v9_ : Value).ownBlock) v6_ r7 ∧ Kd.R (Kd.int .i64) 3 w' w.heap.size (fun k_ => (w.heap.size ≤ k_) ∧ some k_ ≠ (v4_ : Value).ownBlock ∧ some k_ ≠ (v9_ : Value).ownBlock) v7_ r8 ∧ Kd.V (Kd.int .i64) 3 w' w.heap.size (fun k_ => (w.heap.size ≤ k_) ∧ some k_ ≠ (v1_ : Value).ownBlock ∧ some k_ ≠ (v3_ : Value).ownBlock ∧ some k_ ≠ (v4_ : Value).ownBlock ∧ some k_ ≠ (v5_ : Value).ownBlock ∧ some k_ ≠ (v7_ : Value).ownBlock ∧ some k_ ≠ (v9_ : Value).ownBlock) v8_ r9 ∧ Kd.R (Kd.int .i64) 3 w' w.heap.size (fun k_ => (w.heap.size ≤ k_) ∧ some k_ ≠ (v4_ : Value).ownBlock ∧ some k_ ≠ (v7_ : Value).ownBlock) v9_ r10 ∧ Below w.heap.size w w' := by
 have hu29 := Try.underlying29
 have hu25 := Try.underlying25
 have hu27 := Try.underlying27
 have HB := Aside0.mk (Below.refl w.heap.size w)
 have H : ((some (([0, 0] : List Int) : List Int)).bind fun y102 => ((some (([0, 0] : List Int) : List Int)).bind fun y110 => (some (y102, ([] : List (S94)), y102, ([] : List (S94)), (([0] : List Int)), ([] : List (S94)), y110, ([] : List Int), y110, ([] : List Int))))) = some (r1, r2, r3, r4, r5, r6, r7, r8, r9, r10) := h
 clear h
 obtain ⟨y102, hy102⟩ : ∃ y_ : List Int, y_ = (([0, 0] : List Int)) := ⟨_, rfl⟩
 replace H : ((some (([0, 0] : List Int) : List Int)).bind fun y110 => (some (y102, ([] : List (S94)), y102, ([] : List (S94)), (([0] : List Int)), ([] : List (S94)), y110, ([] : List Int), y110, ([] : List Int)))) = some (r1, r2, r3, r4, r5, r6, r7, r8, r9, r10) := by first | (rw [hy102]; with_reducible exact H) | (have H2_ := (Option.bind_some _ _).symm.trans H; rw [hy102]; with_reducible exact H2_) | (have H2_ := (Option.bind_some _ _).symm.trans H; with_reducible exact H2_) | with_reducible exact H | (rw [hy102]; exact H) | exact H
 have Ny102 := Aside0.mk hy102
 clear hy102
 obtain ⟨y105, hy105⟩ : ∃ y_ : List Int, y_ = (([0] : List Int)) := ⟨_, rfl⟩
 replace H : ((some (([0, 0] : List Int) : List Int)).bind fun y110 => (some (y102, ([] : List (S94)), y102, ([] : List (S94)), y105, ([] : List (S94)), y110, ([] : List Int), y110, ([] : List Int)))) = some (r1, r2, r3, r4, r5, r6, r7, r8, r9, r10) := by first | (rw [hy105]; with_reducible exact H) | (have H2_ := (Option.bind_some _ _).symm.trans H; rw [hy105]; with_reducible exact H2_) | (have H2_ := (Option.bind_some _ _).symm.trans H; with_reducible exact H2_) | with_reducible exact H | (rw [hy105]; exact H) | exact H
 have Ny105 := Aside0.mk hy105
 clear hy105
 obtain ⟨y110, hy110⟩ : ∃ y_ : List Int, y_ = (([0, 0] : List Int)) := ⟨_, rfl⟩
 replace H : (some (y102, ([] : List (S94)), y102, ([] : List (S94)), y105, ([] : List (S94)), y110, ([] : List Int), y110, ([] : List Int))) = some (r1, r2, r3, r4, r5, r6, r7, r8, r9, r10) := by first | (rw [hy110]; with_reducible exact H) | (have H2_ := (Option.bind_some _ _).symm.trans H; rw [hy110]; with_reducible exact H2_) | (have H2_ := (Option.bind_some _ _).symm.trans H; with_reducible exact H2_) | with_reducible exact H | (rw [hy110]; exact H) | exact H
 have Ny110 := Aside0.mk hy110
 clear hy110
 simp only [Option.some.injEq, Prod.mk.injEq] at H
 obtain ⟨rfl, rfl, rfl, rfl, rfl, rfl, rfl, rfl, rfl, rfl⟩ := H
 go_enter Try.func39, Try.ntmps39
 go_wp2_with (first | ((with_reducible refine gate_dst (N := 0) rfl ?_); refine box_event ?hg (N := 0) ?hd (cs := #[.slice none 0 0, .slice none 0 0, .slice none 0 0, .slice none 0 0, .slice none 0 0, .slice none 0 0, .slice none 0 0, .slice none 0 0, .slice none 0 0, .slice none 0 0]) (t := 29) ?hr ?_; (case hd => rfl); (case hg => rfl); (case hr => first | (go_simp; done) | (go_simp; rfl)); intro Q00 hg w1 hbox hb; have Q01 := Aside0.mk (hbox); have Q0u := Aside0.mk ((by rw [hg]; exact (below_size hB) : w.heap.size ≤ Q00)); have Q0i := Aside0.mk ((by rw [hg]; exact (below_size hB) : w.heap.size ≤ Q00)); replace HB := uH HB hb; clear hb hbox hg) | ((with_reducible refine gate_dst (N := 4) rfl ?_); refine Kd.R_lit (Kd.int .i64) _ 3 ?hg (N := 4) ?hd (xs := ([0, 0] : List Int)) (inner := [.int .i64 0, .int .i64 0]) (ok := fun _ => True) (okp := fun _ => True) ?hr ?hp (fun _ hk => hk) trivial (Below.refl _ _) (Nat.le_refl _) (by simp) ?_; (case hd => rfl); (case hg => rfl); (case hr => first | (go_simp; done) | (go_simp; rfl)); (case hp => exact (Reps.one (show Kd.M (Kd.int .i64) _ _ _ 0 [.int .i64 0] from rfl) (Reps.one (show Kd.M (Kd.int .i64) _ _ _ 0 [.int .i64 0] from rfl) (Reps.none _ _)))); intro v103 w2 ho3 hb hg_ hnew_; clear hg_ hnew_; (first | rw [← Ny102.out] at ho3 | (simp only [Int.reduceToNat] at ho3; rw [← Ny102.out] at ho3)); have Q06 := Aside0.mk (Kd.R_lower (Kd.R_newM (M := fun k_ => (w.heap.size ≤ k_)) ho3 (below_size (pH HB)) (fun k_ h_ => h_)) (below_size (pH HB))); replace Q01 := uB Q01 hb; replace HB := uH HB hb; clear hb ho3; obtain ⟨Ao4, co4, eo4⟩ := Kd.R_slice Q06.out; subst eo4) | ((with_reducible refine gate_dst (N := 6) rfl ?_); refine Kd.R_lit (Kd.int .i64) _ 3 ?hg (N := 6) ?hd (xs := ([0] : List Int)) (inner := [.int .i64 0]) (ok := fun _ => True) (okp := fun _ => True) ?hr ?hp (fun _ hk => hk) trivial (Below.refl _ _) (Nat.le_refl _) (by simp) ?_; (case hd => rfl); (case hg => rfl); (case hr => first | (go_simp; done) | (go_simp; rfl)); (case hp => exact (Reps.one (show Kd.M (Kd.int .i64) _ _ _ 0 [.int .i64 0] from rfl) (Reps.none _ _))); intro v106 w5 ho6 hb hg_ hnew_; clear hg_ hnew_; (first | rw [← Ny105.out] at ho6 | (simp only [Int.reduceToNat] at ho6; rw [← Ny105.out] at ho6)); have Q0a := Aside0.mk (Kd.R_lower (Kd.R_new' (Kd.R_newM (M := fun k_ => (w.heap.size ≤ k_)) ho6 (below_size (pH HB)) (fun k_ h_ => h_)) (Kd.R_lt (pR Q06))) (below_size (pH HB))); replace Q06 := eR Q06 (Kd.R_base ho6) hb; replace Q01 := uB Q01 hb; replace HB := uH HB hb; clear hb ho6; obtain ⟨Ao7, co7, eo7⟩ := Kd.R_slice Q0a.out; subst eo7) | ((with_reducible refine gate_dst (N := 1) rfl ?_); refine box_event ?hg (N := 1) ?hd (cs := #[.slice none 0 0, .slice none 0 0]) (t := 25) ?hr ?_; (case hd => rfl); (case hg => rfl); (case hr => first | (go_simp; done) | (go_simp; rfl)); intro Q07 hg w8 hbox hb; replace Q06 := uR Q06 hb; replace Q0a := uR Q0a hb; have Q02 := Aside0.mk (hbox); have Q0v := uS HB hg; have Q0j := uS HB hg; replace HB := uH HB hb; have Q0d := uL Q01 hg; have Q0k := uG Q01 hg; replace Q01 := uB Q01 hb; clear hb hbox hg) | ((with_reducible refine gate_dst (N := 2) rfl ?_); refine box_event ?hg (N := 2) ?hd (cs := #[.slice none 0 0, .slice none 0 0]) (t := 25) ?hr ?_; (case hd => rfl); (case hg => rfl); (case hr => first | (go_simp; done) | (go_simp; rfl)); intro Q08 hg w9 hbox hb; replace Q06 := uR Q06 hb; replace Q0a := uR Q0a hb; have Q05 := Aside0.mk (hbox); have Q0w := uS HB hg; have Q0l := uS HB hg; replace HB := uH HB hb; have Q0e := uL Q01 hg; have Q0m := uG Q01 hg; replace Q01 := uB Q01 hb; have Q0f := uL Q02 hg; have Q0g := uG Q02 hg; replace Q02 := uB Q02 hb; clear hb hbox hg; have Q0x := Q0k.out; have Q0y := Q0d.out; have Q0z := Q0f.out; have Q10 := Q0g.out; have Q11 : w9.cell? ⟨Q07, 0, none⟩ = some (.slice none 0 0) := (blk_cell Q02.out 0).trans rfl; have Q12 : w9.cell? ⟨Q07, 1, none⟩ = some (.slice none 0 0) := (blk_cell Q02.out 1).trans rfl; have Q13 := blk_frozen Q02.out 0; have Q14 := blk_frozen Q02.out 1; have Q15 := Q0m.out; have Q16 := Q0e.out; have Q17 : w9.cell? ⟨Q08, 0, none⟩ = some (.slice none 0 0) := (blk_cell Q05.out 0).trans rfl; have Q18 : w9.cell? ⟨Q08, 1, none⟩ = some (.slice none 0 0) := (blk_cell Q05.out 1).trans rfl; have Q19 := blk_frozen Q05.out 0; have Q1a := blk_frozen Q05.out 1) | ((with_reducible refine gate_dst (N := 8) rfl ?_); refine Kd.R_lit (Kd.int .i64) _ 3 ?hg (N := 8) ?hd (xs := ([0, 0] : List Int)) (inner := [.int .i64 0, .int .i64 0]) (ok := fun _ => True) (okp := fun _ => True) ?hr ?hp (fun _ hk => hk) trivial (Below.refl _ _) (Nat.le_refl _) (by simp) ?_; (case hd => rfl); (case hg => rfl); (case hr => first | (go_simp; done) | (go_simp; rfl)); (case hp => exact (Reps.one (show Kd.M (Kd.int .i64) _ _ _ 0 [.int .i64 0] from rfl) (Reps.one (show Kd.M (Kd.int .i64) _ _ _ 0 [.int .i64 0] from rfl) (Reps.none _ _)))); intro v111 w15 ho16 hb hg_ hnew_; clear hg_ hnew_; (first | rw [← Ny110.out] at ho16 | (simp only [Int.reduceToNat] at ho16; rw [← Ny110.out] at ho16)); have Q0c := Aside0.mk (Kd.R_lower (Kd.R_new' (Kd.R_new' (Kd.R_newM (M := fun k_ => (w.heap.size ≤ k_)) ho16 (below_size (pH HB)) (fun k_ h_ => h_)) (Kd.R_lt (by (with_reducible repeat (first | apply rA | apply rN | apply rD)); exact (Kd.R_mono (Kd.R_mono (Kd.R_far (p := ⟨Q08, 1, none⟩) (Kd.R_far (p := ⟨Q08, 0, none⟩) (Kd.R_far (p := ⟨Q07, 1, none⟩) (Kd.R_far (p := ⟨Q07, 0, none⟩) (Kd.R_types (Kd.R_types Q06.out Q02.out (by decide)) Q05.out (by decide)) (fun _ hk => hk.1.2) (.slice Ao4 y102.length co4)) (fun _ hk => hk.1.2) (.slice none 0 0)) (fun _ hk => hk.2) (.slice Ao7 y105.length co7)) (fun _ hk => hk.2) (.slice none 0 0)) (fun _ h_ => h_.1)) (fun _ h_ => h_.1))))) (Kd.R_lt (by (with_reducible repeat (first | apply rA | apply rN | apply rD)); exact (Kd.R_mono (Kd.R_mono (Kd.R_far (p := ⟨Q08, 1, none⟩) (Kd.R_far (p := ⟨Q08, 0, none⟩) (Kd.R_far (p := ⟨Q07, 1, none⟩) (Kd.R_far (p := ⟨Q07, 0, none⟩) (Kd.R_types (Kd.R_types Q0a.out Q02.out (by decide)) Q05.out (by decide)) (fun _ hk => hk.1.2) (.slice Ao4 y102.length co4)) (fun _ hk => hk.1.2) (.slice none 0 0)) (fun _ hk => hk.2) (.slice Ao7 y105.length co7)) (fun _ hk => hk.2) (.slice none 0 0)) (fun _ h_ => h_.1)) (fun _ h_ => h_.1))))) (below_size (pH HB))); replace Q06 := Aside0.mk (Kd.R_elder' (by (with_reducible repeat (first | apply rA | apply rN | apply rD)); exact (Kd.R_mono (Kd.R_mono (Kd.R_far (p := ⟨Q08, 1, none⟩) (Kd.R_far (p := ⟨Q08, 0, none⟩) (Kd.R_far (p := ⟨Q07, 1, none⟩) (Kd.R_far (p := ⟨Q07, 0, none⟩) (Kd.R_types (Kd.R_types Q06.out Q02.out (by decide)) Q05.out (by decide)) (fun _ hk => hk.1.2) (.slice Ao4 y102.length co4)) (fun _ hk => hk.1.2) (.slice none 0 0)) (fun _ hk => hk.2) (.slice Ao7 y105.length co7)) (fun _ hk => hk.2) (.slice none 0 0)) (fun _ h_ => h_.1)) (fun _ h_ => h_.1))) (Kd.R_base ho16) hb); replace Q0a := Aside0.mk (Kd.R_elder' (by (with_reducible repeat (first | apply rA | apply rN | apply rD)); exact (Kd.R_mono (Kd.R_mono (Kd.R_far (p := ⟨Q08, 1, none⟩) (Kd.R_far (p := ⟨Q08, 0, none⟩) (Kd.R_far (p := ⟨Q07, 1, none⟩) (Kd.R_far (p := ⟨Q07, 0, none⟩) (Kd.R_types (Kd.R_types Q0a.out Q02.out (by decide)) Q05.out (by decide)) (fun _ hk => hk.1.2) (.slice Ao4 y102.length co4)) (fun _ hk => hk.1.2) (.slice none 0 0)) (fun _ hk => hk.2) (.slice Ao7 y105.length co7)) (fun _ hk => hk.2) (.slice none 0 0)) (fun _ h_ => h_.1)) (fun _ h_ => h_.1))) (Kd.R_base ho16) hb); replace Q01 := Aside0.mk (bB (g := Q00) (o := .cells #[.slice none 0 0, .slice none 0 0, .slice none 0 0, .slice none 0 0, .slice none 0 0, .slice none 0 0, .slice none 0 0, .slice none 0 0, .slice none 0 0, .slice none 0 0] 29 (0, 0)) (by (with_reducible repeat (first | refine bN ?_ _ | refine bD ?_ | refine bA ?_ _)); refine blk_far ?_ Q0e.out _; (with_reducible repeat (first | refine bN ?_ _ | refine bD ?_ | refine bA ?_ _)); refine blk_far ?_ Q0e.out _; (with_reducible repeat (first | refine bN ?_ _ | refine bD ?_ | refine bA ?_ _)); refine blk_far ?_ Q0d.out _; (with_reducible repeat (first | refine bN ?_ _ | refine bD ?_ | refine bA ?_ _)); refine blk_far ?_ Q0d.out _; (with_reducible repeat (first | refine bN ?_ _ | refine bD ?_ | refine bA ?_ _)); exact Q01.out) hb); replace Q02 := Aside0.mk (bB (g := Q07) (o := .cells #[.slice Ao4 y102.length co4, .slice none 0 0] 25 (0, 0)) (by (with_reducible repeat (first | refine bN ?_ _ | refine bD ?_ | refine bA ?_ _)); refine blk_far ?_ Q0f.out _; (with_reducible repeat (first | refine bN ?_ _ | refine bD ?_ | refine bA ?_ _)); refine blk_far ?_ Q0f.out _; (with_reducible repeat (first | refine bN ?_ _ | refine bD ?_ | refine bA ?_ _)); refine blk_put (cs := #[.slice Ao4 y102.length co4, .slice none 0 0]) ?_ 1 _ rfl; (with_reducible repeat (first | refine bN ?_ _ | refine bD ?_ | refine bA ?_ _)); refine blk_put (cs := #[.slice none 0 0, .slice none 0 0]) ?_ 0 _ rfl; (with_reducible repeat (first | refine bN ?_ _ | refine bD ?_ | refine bA ?_ _)); exact Q02.out) hb); replace Q05 := Aside0.mk (bB (g := Q08) (o := .cells #[.slice Ao7 y105.length co7, .slice none 0 0] 25 (0, 0)) (by (with_reducible repeat (first | refine bN ?_ _ | refine bD ?_ | refine bA ?_ _)); refine blk_put (cs := #[.slice Ao7 y105.length co7, .slice none 0 0]) ?_ 1 _ rfl; (with_reducible repeat (first | refine bN ?_ _ | refine bD ?_ | refine bA ?_ _)); refine blk_put (cs := #[.slice none 0 0, .slice none 0 0]) ?_ 0 _ rfl; (with_reducible repeat (first | refine bN ?_ _ | refine bD ?_ | refine bA ?_ _)); refine blk_far ?_ Q0g.out _; (with_reducible repeat (first | refine bN ?_ _ | refine bD ?_ | refine bA ?_ _)); refine blk_far ?_ Q0g.out _; (with_reducible repeat (first | refine bN ?_ _ | refine bD ?_ | refine bA ?_ _)); exact Q05.out) hb); replace HB := uH HB hb; clear hb ho16; obtain ⟨Q03, Q04, Q0n⟩ := Kd.R_slice Q0c.out; subst Q0n) | ((with_reducible refine gate_dst (N := 3) rfl ?_); refine box_event ?hg (N := 3) ?hd (cs := #[.slice none 0 0, .slice none 0 0]) (t := 27) ?hr ?_; (case hd => rfl); (case hg => rfl); (case hr => first | (go_simp; done) | (go_simp; rfl)); intro Q09 hg w18 hbox hb; replace Q06 := uR Q06 hb; replace Q0a := uR Q0a hb; replace Q0c := uR Q0c hb; have Q0b := Aside0.mk (hbox); have Q1b := uS HB hg; have Q0o := uS HB hg; replace HB := uH HB hb; have Q0h := uL Q01 hg; have Q0p := uG Q01 hg; replace Q01 := uB Q01 hb; have Q0q := uL Q02 hg; have Q0r := uG Q02 hg; replace Q02 := uB Q02 hb; have Q0s := uL Q05 hg; have Q0t := uG Q05 hg; replace Q05 := uB Q05 hb; clear hb hbox hg; have Q1c := Q0p.out; have Q1d := Q0h.out; have Q1e := Q0r.out; have Q1f := Q0q.out; have Q1g := Q0t.out; have Q1h := Q0s.out; have Q1i : w18.cell? ⟨Q09, 0, none⟩ = some (.slice none 0 0) := (blk_cell Q0b.out 0).trans rfl; have Q1j : w18.cell? ⟨Q09, 1, none⟩ = some (.slice none 0 0) := (blk_cell Q0b.out 1).trans rfl; have Q1k := blk_frozen Q0b.out 0; have Q1l := blk_frozen Q0b.out 1; have Q1m : w18.cell? ⟨Q07, 0, none⟩ = some (.slice Ao4 y102.length co4) := (blk_cell Q02.out 0).trans rfl; have Q1n : w18.cell? ⟨Q07, 1, none⟩ = some (.slice none 0 0) := (blk_cell Q02.out 1).trans rfl; have Q1o := blk_frozen Q02.out 0; have Q1p := blk_frozen Q02.out 1; have Q1q : w18.cell? ⟨Q08, 0, none⟩ = some (.slice Ao7 y105.length co7) := (blk_cell Q05.out 0).trans rfl; have Q1r : w18.cell? ⟨Q08, 1, none⟩ = some (.slice none 0 0) := (blk_cell Q05.out 1).trans rfl; have Q1s := blk_frozen Q05.out 0; have Q1t := blk_frozen Q05.out 1; have Q1u : w18.cell? ⟨Q00, 0, none⟩ = some (.slice none 0 0) := (blk_cell Q01.out 0).trans rfl; have Q1v : w18.cell? ⟨Q00, 1, none⟩ = some (.slice none 0 0) := (blk_cell Q01.out 1).trans rfl; have Q1w : w18.cell? ⟨Q00, 2, none⟩ = some (.slice none 0 0) := (blk_cell Q01.out 2).trans rfl; have Q1x : w18.cell? ⟨Q00, 3, none⟩ = some (.slice none 0 0) := (blk_cell Q01.out 3).trans rfl; have Q1y : w18.cell? ⟨Q00, 4, none⟩ = some (.slice none 0 0) := (blk_cell Q01.out 4).trans rfl; have Q1z : w18.cell? ⟨Q00, 5, none⟩ = some (.slice none 0 0) := (blk_cell Q01.out 5).trans rfl; have Q20 : w18.cell? ⟨Q00, 6, none⟩ = some (.slice none 0 0) := (blk_cell Q01.out 6).trans rfl; have Q21 : w18.cell? ⟨Q00, 7, none⟩ = some (.slice none 0 0) := (blk_cell Q01.out 7).trans rfl; have Q22 : w18.cell? ⟨Q00, 8, none⟩ = some (.slice none 0 0) := (blk_cell Q01.out 8).trans rfl; have Q23 : w18.cell? ⟨Q00, 9, none⟩ = some (.slice none 0 0) := (blk_cell Q01.out 9).trans rfl; have Q24 := blk_frozen Q01.out 0; have Q25 := blk_frozen Q01.out 1; have Q26 := blk_frozen Q01.out 2; have Q27 := blk_frozen Q01.out 3; have Q28 := blk_frozen Q01.out 4; have Q29 := blk_frozen Q01.out 5; have Q2a := blk_frozen Q01.out 6; have Q2b := blk_frozen Q01.out 7; have Q2c := blk_frozen Q01.out 8; have Q2d := blk_frozen Q01.out 9))
 refine bodyPost_ret (results_cell_row rfl _ _ Q00 29 #[.slice Ao4 y102.length co4, .slice none 0 0, .slice Ao4 y102.length co4, .slice none 0 0, .slice Ao7 y105.length co7, .slice none 0 0, .slice Q03 y110.length Q04, .slice none 0 0, .slice Q03 y110.length Q04, .slice none 0 0] (0, 0) _ rfl (by (with_reducible repeat (first | refine bN ?_ _ | refine bD ?_ | refine bA ?_ _)); refine blk_put (cs := #[.slice Ao4 y102.length co4, .slice none 0 0, .slice Ao4 y102.length co4, .slice none 0 0, .slice Ao7 y105.length co7, .slice none 0 0, .slice Q03 y110.length Q04, .slice none 0 0, .slice Q03 y110.length Q04, .slice none 0 0]) ?_ 9 _ rfl; (with_reducible repeat (first | refine bN ?_ _ | refine bD ?_ | refine bA ?_ _)); refine blk_put (cs := #[.slice Ao4 y102.length co4, .slice none 0 0, .slice Ao4 y102.length co4, .slice none 0 0, .slice Ao7 y105.length co7, .slice none 0 0, .slice Q03 y110.length Q04, .slice none 0 0, .slice none 0 0, .slice none 0 0]) ?_ 8 _ rfl; (with_reducible repeat (first | refine bN ?_ _ | refine bD ?_ | refine bA ?_ _)); refine blk_put (cs := #[.slice Ao4 y102.length co4, .slice none 0 0, .slice Ao4 y102.length co4, .slice none 0 0, .slice Ao7 y105.length co7, .slice none 0 0, .slice Q03 y110.length Q04, .slice none 0 0, .slice none 0 0, .slice none 0 0]) ?_ 7 _ rfl; (with_reducible repeat (first | refine bN ?_ _ | refine bD ?_ | refine bA ?_ _)); refine blk_put (cs := #[.slice Ao4 y102.length co4, .slice none 0 0, .slice Ao4 y102.length co4, .slice none 0 0, .slice Ao7 y105.length co7, .slice none 0 0, .slice none 0 0, .slice none 0 0, .slice none 0 0, .slice none 0 0]) ?_ 6 _ rfl; (with_reducible repeat (first | refine bN ?_ _ | refine bD ?_ | refine bA ?_ _)); refine blk_put (cs := #[.slice Ao4 y102.length co4, .slice none 0 0, .slice Ao4 y102.length co4, .slice none 0 0, .slice Ao7 y105.length co7, .slice none 0 0, .slice none 0 0, .slice none 0 0, .slice none 0 0, .slice none 0 0]) ?_ 5 _ rfl; (with_reducible repeat (first | refine bN ?_ _ | refine bD ?_ | refine bA ?_ _)); refine blk_put (cs := #[.slice Ao4 y102.length co4, .slice none 0 0, .slice Ao4 y102.length co4, .slice none 0 0, .slice none 0 0, .slice none 0 0, .slice none 0 0, .slice none 0 0, .slice none 0 0, .slice none 0 0]) ?_ 4 _ rfl; (with_reducible repeat (first | refine bN ?_ _ | refine bD ?_ | refine bA ?_ _)); refine blk_put (cs := #[.slice Ao4 y102.length co4, .slice none 0 0, .slice Ao4 y102.length co4, .slice none 0 0, .slice none 0 0, .slice none 0 0, .slice none 0 0, .slice none 0 0, .slice none 0 0, .slice none 0 0]) ?_ 3 _ rfl; (with_reducible repeat (first | refine bN ?_ _ | refine bD ?_ | refine bA ?_ _)); refine blk_put (cs := #[.slice Ao4 y102.length co4, .slice none 0 0, .slice none 0 0, .slice none 0 0, .slice none 0 0, .slice none 0 0, .slice none 0 0, .slice none 0 0, .slice none 0 0, .slice none 0 0]) ?_ 2 _ rfl; (with_reducible repeat (first | refine bN ?_ _ | refine bD ?_ | refine bA ?_ _)); refine blk_put (cs := #[.slice Ao4 y102.length co4, .slice none 0 0, .slice none 0 0, .slice none 0 0, .slice none 0 0, .slice none 0 0, .slice none 0 0, .slice none 0 0, .slice none 0 0, .slice none 0 0]) ?_ 1 _ rfl; (with_reducible repeat (first | refine bN ?_ _ | refine bD ?_ | refine bA ?_ _)); refine blk_put (cs := #[.slice none 0 0, .slice none 0 0, .slice none 0 0, .slice none 0 0, .slice none 0 0, .slice none 0 0, .slice none 0 0, .slice none 0 0, .slice none 0 0, .slice none 0 0]) ?_ 0 _ rfl; (with_reducible repeat (first | refine bN ?_ _ | refine bD ?_ | refine bA ?_ _)); refine blk_far ?_ Q0h.out _; (with_reducible repeat (first | refine bN ?_ _ | refine bD ?_ | refine bA ?_ _)); refine blk_far ?_ Q0h.out _; (with_reducible repeat (first | refine bN ?_ _ | refine bD ?_ | refine bA ?_ _)); exact Q01.out) Try.underlying29 rfl (by kernel_rfl)) rfl ?_
 exact ⟨_, _, _, _, _, _, _, _, _, _, by first | rfl | (simp [errW_none, errW_some] <;> rfl) | (simp [*, errW_none, errW_some] <;> rfl), Kd.R_V (by (with_reducible repeat (first | apply rA | apply rN | apply rD)); exact Kd.R_mono (Kd.R_far (p := ⟨Q00, 9, none⟩) (Kd.R_far (p := ⟨Q00, 8, none⟩) (Kd.R_far (p := ⟨Q00, 7, none⟩) (Kd.R_far (p := ⟨Q00, 6, none⟩) (Kd.R_far (p := ⟨Q00, 5, none⟩) (Kd.R_far (p := ⟨Q00, 4, none⟩) (Kd.R_far (p := ⟨Q00, 3, none⟩) (Kd.R_far (p := ⟨Q00, 2, none⟩) (Kd.R_far (p := ⟨Q00, 1, none⟩) (Kd.R_far (p := ⟨Q00, 0, none⟩) (Kd.R_far (p := ⟨Q09, 1, none⟩) (Kd.R_far (p := ⟨Q09, 0, none⟩) (Kd.R_types (Kd.R_types Q06.out Q0b.out (by decide)) Q01.out (by decide)) (fun _ hk => hk.1.2) (.slice Q03 y110.length Q04)) (fun _ hk => hk.1.2) (.slice none 0 0)) (fun _ hk => hk.2) (.slice Ao4 y102.length co4)) (fun _ hk => hk.2) (.slice none 0 0)) (fun _ hk => hk.2) (.slice Ao4 y102.length co4)) (fun _ hk => hk.2) (.slice none 0 0)) (fun _ hk => hk.2) (.slice Ao7 y105.length co7)) (fun _ hk => hk.2) (.slice none 0 0)) (fun _ hk => hk.2) (.slice Q03 y110.length Q04)) (fun _ hk => hk.2) (.slice none 0 0)) (fun _ hk => hk.2) (.slice Q03 y110.length Q04)) (fun _ hk => hk.2) (.slice none 0 0)) (fun _ hk => ⟨hk.1.1.1.1.1, ⟨(by simp [Value.ownBlock]), ⟨(by simp [Value.ownBlock]), ⟨hk.1.1.1.2, ⟨(by simp [Value.ownBlock]), ⟨(by simp [Value.ownBlock]), (by simp [Value.ownBlock])⟩⟩⟩⟩⟩⟩)), by first | exact Kd.R_nil _ _ _ _ _ | exact Kd.N_nil _ _ _ _ _ | exact Kd.V_nil _ _ _ _ _ | exact Kd.Q_nil _ _ _ _ _ | exact Kd.S_nil _ _ _ _ _, Kd.R_V (by (with_reducible repeat (first | apply rA | apply rN | apply rD)); exact Kd.R_mono (Kd.R_far (p := ⟨Q00, 9, none⟩) (Kd.R_far (p := ⟨Q00, 8, none⟩) (Kd.R_far (p := ⟨Q00, 7, none⟩) (Kd.R_far (p := ⟨Q00, 6, none⟩) (Kd.R_far (p := ⟨Q00, 5, none⟩) (Kd.R_far (p := ⟨Q00, 4, none⟩) (Kd.R_far (p := ⟨Q00, 3, none⟩) (Kd.R_far (p := ⟨Q00, 2, none⟩) (Kd.R_far (p := ⟨Q00, 1, none⟩) (Kd.R_far (p := ⟨Q00, 0, none⟩) (Kd.R_far (p := ⟨Q09, 1, none⟩) (Kd.R_far (p := ⟨Q09, 0, none⟩) (Kd.R_types (Kd.R_types Q06.out Q0b.out (by decide)) Q01.out (by decide)) (fun _ hk => hk.1.2) (.slice Q03 y110.length Q04)) (fun _ hk => hk.1.2) (.slice none 0 0)) (fun _ hk => hk.2) (.slice Ao4 y102.length co4)) (fun _ hk => hk.2) (.slice none 0 0)) (fun _ hk => hk.2) (.slice Ao4 y102.length co4)) (fun _ hk => hk.2) (.slice none 0 0)) (fun _ hk => hk.2) (.slice Ao7 y105.length co7)) (fun _ hk => hk.2) (.slice none 0 0)) (fun _ hk => hk.2) (.slice Q03 y110.length Q04)) (fun _ hk => hk.2) (.slice none 0 0)) (fun _ hk => hk.2) (.slice Q03 y110.length Q04)) (fun _ hk => hk.2) (.slice none 0 0)) (fun _ hk => ⟨hk.1.1.1.1.1, ⟨(by simp [Value.ownBlock]), ⟨(by simp [Value.ownBlock]), ⟨hk.1.1.1.2, ⟨(by simp [Value.ownBlock]), ⟨(by simp [Value.ownBlock]), (by simp [Value.ownBlock])⟩⟩⟩⟩⟩⟩)), by first | exact Kd.R_nil _ _ _ _ _ | exact Kd.N_nil _ _ _ _ _ | exact Kd.V_nil _ _ _ _ _ | exact Kd.Q_nil _ _ _ _ _ | exact Kd.S_nil _ _ _ _ _, by (with_reducible repeat (first | apply rA | apply rN | apply rD)); exact Kd.R_mono (Kd.R_far (p := ⟨Q00, 9, none⟩) (Kd.R_far (p := ⟨Q00, 8, none⟩) (Kd.R_far (p := ⟨Q00, 7, none⟩) (Kd.R_far (p := ⟨Q00, 6, none⟩) (Kd.R_far (p := ⟨Q00, 5, none⟩) (Kd.R_far (p := ⟨Q00, 4, none⟩) (Kd.R_far (p := ⟨Q00, 3, none⟩) (Kd.R_far (p := ⟨Q00, 2, none⟩) (Kd.R_far (p := ⟨Q00, 1, none⟩) (Kd.R_far (p := ⟨Q00, 0, none⟩) (Kd.R_far (p := ⟨Q09, 1, none⟩) (Kd.R_far (p := ⟨Q09, 0, none⟩) (Kd.R_types (Kd.R_types Q0a.out Q0b.out (by decide)) Q01.out (by decide)) (fun _ hk => hk.1.2) (.slice Q03 y110.length Q04)) (fun _ hk => hk.1.2) (.slice none 0 0)) (fun _ hk => hk.2) (.slice Ao4 y102.length co4)) (fun _ hk => hk.2) (.slice none 0 0)) (fun _ hk => hk.2) (.slice Ao4 y102.length co4)) (fun _ hk => hk.2) (.slice none 0 0)) (fun _ hk => hk.2) (.slice Ao7 y105.length co7)) (fun _ hk => hk.2) (.slice none 0 0)) (fun _ hk => hk.2) (.slice Q03 y110.length Q04)) (fun _ hk => hk.2) (.slice none 0 0)) (fun _ hk => hk.2) (.slice Q03 y110.length Q04)) (fun _ hk => hk.2) (.slice none 0 0)) (fun _ hk => ⟨hk.1.1.1.1.1, ⟨(by simp [Value.ownBlock]), (by simp [Value.ownBlock])⟩⟩), by first | exact Kd.R_nil _ _ _ _ _ | exact Kd.N_nil _ _ _ _ _ | exact Kd.V_nil _ _ _ _ _ | exact Kd.Q_nil _ _ _ _ _ | exact Kd.S_nil _ _ _ _ _, Kd.R_V (by (with_reducible repeat (first | apply rA | apply rN | apply rD)); exact Kd.R_mono (Kd.R_far (p := ⟨Q00, 9, none⟩) (Kd.R_far (p := ⟨Q00, 8, none⟩) (Kd.R_far (p := ⟨Q00, 7, none⟩) (Kd.R_far (p := ⟨Q00, 6, none⟩) (Kd.R_far (p := ⟨Q00, 5, none⟩) (Kd.R_far (p := ⟨Q00, 4, none⟩) (Kd.R_far (p := ⟨Q00, 3, none⟩) (Kd.R_far (p := ⟨Q00, 2, none⟩) (Kd.R_far (p := ⟨Q00, 1, none⟩) (Kd.R_far (p := ⟨Q00, 0, none⟩) (Kd.R_far (p := ⟨Q09, 1, none⟩) (Kd.R_far (p := ⟨Q09, 0, none⟩) (Kd.R_types (Kd.R_types Q0c.out Q0b.out (by decide)) Q01.out (by decide)) (fun _ hk => hk.1.2) (.slice Q03 y110.length Q04)) (fun _ hk => hk.1.2) (.slice none 0 0)) (fun _ hk => hk.2) (.slice Ao4 y102.length co4)) (fun _ hk => hk.2) (.slice none 0 0)) (fun _ hk => hk.2) (.slice Ao4 y102.length co4)) (fun _ hk => hk.2) (.slice none 0 0)) (fun _ hk => hk.2) (.slice Ao7 y105.length co7)) (fun _ hk => hk.2) (.slice none 0 0)) (fun _ hk => hk.2) (.slice Q03 y110.length Q04)) (fun _ hk => hk.2) (.slice none 0 0)) (fun _ hk => hk.2) (.slice Q03 y110.length Q04)) (fun _ hk => hk.2) (.slice none 0 0)) (fun _ hk => ⟨hk.1.1.1.1.1, ⟨(by simp [Value.ownBlock]), ⟨(by simp [Value.ownBlock]), ⟨hk.1.1.2, ⟨(by simp [Value.ownBlock]), ⟨(by simp [Value.ownBlock]), (by simp [Value.ownBlock])⟩⟩⟩⟩⟩⟩)), by first | exact Kd.R_nil _ _ _ _ _ | exact Kd.N_nil _ _ _ _ _ | exact Kd.V_nil _ _ _ _ _ | exact Kd.Q_nil _ _ _ _ _ | exact Kd.S_nil _ _ _ _ _, Kd.R_V (by (with_reducible repeat (first | apply rA | apply rN | apply rD)); exact Kd.R_mono (Kd.R_far (p := ⟨Q00, 9, none⟩) (Kd.R_far (p := ⟨Q00, 8, none⟩) (Kd.R_far (p := ⟨Q00, 7, none⟩) (Kd.R_far (p := ⟨Q00, 6, none⟩) (Kd.R_far (p := ⟨Q00, 5, none⟩) (Kd.R_far (p := ⟨Q00, 4, none⟩) (Kd.R_far (p := ⟨Q00, 3, none⟩) (Kd.R_far (p := ⟨Q00, 2, none⟩) (Kd.R_far (p := ⟨Q00, 1, none⟩) (Kd.R_far (p := ⟨Q00, 0, none⟩) (Kd.R_far (p := ⟨Q09, 1, none⟩) (Kd.R_far (p := ⟨Q09, 0, none⟩) (Kd.R_types (Kd.R_types Q0c.out Q0b.out (by decide)) Q01.out (by decide)) (fun _ hk => hk.1.2) (.slice Q03 y110.length Q04)) (fun _ hk => hk.1.2) (.slice none 0 0)) (fun _ hk => hk.2) (.slice Ao4 y102.length co4)) (fun _ hk => hk.2) (.slice none 0 0)) (fun _ hk => hk.2) (.slice Ao4 y102.length co4)) (fun _ hk => hk.2) (.slice none 0 0)) (fun _ hk => hk.2) (.slice Ao7 y105.length co7)) (fun _ hk => hk.2) (.slice none 0 0)) (fun _ hk => hk.2) (.slice Q03 y110.length Q04)) (fun _ hk => hk.2) (.slice none 0 0)) (fun _ hk => hk.2) (.slice Q03 y110.length Q04)) (fun _ hk => hk.2) (.slice none 0 0)) (fun _ hk => ⟨hk.1.1.1.1.1, ⟨(by simp [Value.ownBlock]), ⟨(by simp [Value.ownBlock]), ⟨hk.1.1.2, ⟨(by simp [Value.ownBlock]), ⟨(by simp [Value.ownBlock]), (by simp [Value.ownBlock])⟩⟩⟩⟩⟩⟩)), by first | exact Kd.R_nil _ _ _ _ _ | exact Kd.N_nil _ _ _ _ _ | exact Kd.V_nil _ _ _ _ _ | exact Kd.Q_nil _ _ _ _ _ | exact Kd.S_nil _ _ _ _ _, by repeat (first | (with_reducible first | exact HB.out | apply wA | apply wN | apply wD | refine below_set ?_ Q0i.out | refine below_set ?_ Q0j.out | refine below_set ?_ Q0l.out | refine below_set ?_ Q0o.out) | exact HB.out)⟩
end Go.Proofs.Ytillofiphkmjjaa.X

namespace Go.Proofs.Ytillofiphkmjjaa.X
open Go.RowKit Go.Proofs.YtillofiphkmjjaaW.PrintWords Go.Proofs.YtillofiphkmjjaaW.PrintLast Go.Proofs.YtillofiphkmjjaaW.PrintMore
open Go.Proofs.YtillofiphkmjjaaW.PrintWords renaming blk_drewN → bN, blk_drew → bD, blk_alloc → bA, below_alloc → wA, pw_below_drewN → wN, below_drew1 → wD, blk_below → bB, below_step → wS, blk_at → bT, blk_grown → bG
open Go.Proofs.YtillofiphkmjjaaW.PrintWords.Kd renaming R_alloc → rA, R_drewN → rN, R_drew → rD, R_below → rB, R_grown → rG, C_below → cB, C_alloc → cA, C_drewN → cN, C_drew → cD
attribute [local go_sem] max2_int min2_int max_two min_two max_three min_three max_four min_four
set_option linter.unusedVariables false
set_option linter.unusedSimpArgs false
/-! ### slices_Equal_int_int: function 40 -/
def slices_Equal_int_int.l0 : Nat → List Int → List Int → Int → Int → Option (Bool)
 | 0, _, _, _, _ => none
 | k + 1, x0, x1, x12, x13 => if x13 < x12 then (if 0 ≤ x13 then (if x13 < (x0.length : Int) then (if x13 < (x1.length : Int) then (if (rd x0 x13) = (rd x1 x13) then (slices_Equal_int_int.l0 k x0 x1 x12 (wrap64 (x13 + 1))) else (some false)) else (none)) else (none)) else (none)) else (some true)
def slices_Equal_int_int.f (k : Nat) (l0 : List Int) (l1 : List Int) : Option (Bool) := if (l0.length : Int) = (l1.length : Int) then (slices_Equal_int_int.l0 k l0 l1 (l0.length : Int) 0) else (some false)
theorem slices_Equal_int_int.mono_l : ∀ k, (∀ y0 y1 y2 y3, LeO (slices_Equal_int_int.l0 k y0 y1 y2 y3) (slices_Equal_int_int.l0 (k + 1) y0 y1 y2 y3))
 | 0 => fun _ _ _ _ r h => by simp [slices_Equal_int_int.l0] at h
 | k + 1 => by
  have ih0 := slices_Equal_int_int.mono_l k
  ·intro y0 y1 y2 y3
   unfold slices_Equal_int_int.l0
   repeat' first
   | (with_reducible exact ih0 _ _ _ _)
   | (with_reducible exact LeO.refl _)
   | (with_reducible exact LeO.none _)
   | (with_reducible refine LeO.ite ?_ ?_)
   | (with_reducible refine LeO.bind ?_ (fun _ => ?_))
   | exact ih0 _ _ _ _
   | exact LeO.none _
   | refine LeO.ite ?_ ?_
   | refine LeO.bind ?_ (fun _ => ?_)
theorem slices_Equal_int_int.mono : ∀ a0 a1 k, LeO (slices_Equal_int_int.f k a0 a1) (slices_Equal_int_int.f (k + 1) a0 a1) := by
 intro a0 a1 k
 have ih0 := slices_Equal_int_int.mono_l k
 unfold slices_Equal_int_int.f
 repeat' first
   | (with_reducible exact ih0 _ _ _ _)
   | (with_reducible exact LeO.refl _)
   | (with_reducible exact LeO.none _)
   | (with_reducible refine LeO.ite ?_ ?_)
   | (with_reducible refine LeO.bind ?_ (fun _ => ?_))
   | exact ih0 _ _ _ _
   | exact LeO.none _
   | refine LeO.ite ?_ ?_
   | refine LeO.bind ?_ (fun _ => ?_)
set_option maxHeartbeats 8000000 in
set_option maxRecDepth 100000 in
theorem slices_Equal_int_int.calls (k : Nat) (A0 : Option Addr) (c0 : Nat) (l0 : List Int) (A1 : Option Addr) (c1 : Nat) (l1 : List Int) (r : Bool) (w : World) (hr0 : Kd.C (Kd.int .i64) w A0 l0.length l0) (hc0 : l0.length ≤ c0) (hr1 : Kd.C (Kd.int .i64) w A1 l1.length l1) (hc1 : l1.length ≤ c1) (h : slices_Equal_int_int.f k l0 l1 = some r) :
  Calls Try.prog 40 #[.slice A0 l0.length c0, .slice A1 l1.length c1] w fun e w' => e = .returned (.bool r) ∧ Drawn0 w w' := by
 have HR0 := Aside0.mk hr0
 have HC0 := Aside0.mk hc0
 clear hr0 hc0
 have HR1 := Aside0.mk hr1
 have HC1 := Aside0.mk hc1
 clear hr1 hc1
 have H : (if (l0.length : Int) = (l1.length : Int) then (slices_Equal_int_int.l0 k l0 l1 (l0.length : Int) 0) else (some false)) = some r := h
 clear h
 by_cases c3 : (l0.length : Int) = (l1.length : Int)
 ·rw [if_pos c3] at H
  have c3b0 : ((l0.length : Int) == (l1.length : Int)) = true := beq_iff_eq.mpr c3
  have c3b1 : ((l0.length : Int) != (l1.length : Int)) = false := bne_eq_false_iff_eq.mpr c3
  have c3b2 : (l0.length == l1.length) = true := by first | simpa using c3 | (simp at c3 ⊢; omega)
  clear c3
  have H' := Aside0.mk H
  clear H
  go_enter Try.func40, Try.ntmps40
  go_wp2
  repeat (go_quiet (fail); try go_wp2)
  go_loopg [13] k (fun kq v13 w' => ∃ (x13_1 : Int), v13 = .int .i64 x13_1 ∧ Aside0 (slices_Equal_int_int.l0 kq l0 l1 (l0.length : Int) x13_1 = some r) ∧ Aside0 (kq ≤ k) ∧ Drawn0 w w')
  case atStart => exact ⟨(0), rS, H', ⟨Nat.le_refl _⟩, by repeat (first | exact Drawn0.refl _ | apply Drawn0.step)⟩
  case round =>
   clear H'
   try clear c1; try clear p2; try clear c3; try clear c3b0; try clear c3b1; try clear c3b2
   obtain ⟨x13_1, rfl, HA, HK1, ⟨m1, rfl⟩⟩ := hrel
   cases gk with
   | zero => exact absurd HA.out (by simp [slices_Equal_int_int.l0])
   | succ k1 =>
    have H := HA.out
    clear HA
    simp only [slices_Equal_int_int.l0] at H
    by_cases c4 : x13_1 < (l0.length : Int)
    ·rw [if_pos c4] at H
     have c4b0 : decide (x13_1 < (l0.length : Int)) = true := decide_eq_true c4
     clear c4
     by_cases c5 : 0 ≤ x13_1
     ·rw [if_pos c5] at H
      have c5b0 : decide (0 ≤ x13_1) = true := decide_eq_true c5
      clear c5
      by_cases c6 : x13_1 < (l0.length : Int)
      ·rw [if_pos c6] at H
       have c6b0 : decide (x13_1 < (l0.length : Int)) = true := decide_eq_true c6
       clear c6
       by_cases c7 : x13_1 < (l1.length : Int)
       ·rw [if_pos c7] at H
        have c7b0 : decide (x13_1 < (l1.length : Int)) = true := decide_eq_true c7
        clear c7
        by_cases c8 : (rd l0 x13_1) = (rd l1 x13_1)
        ·rw [if_pos c8] at H
         have c8b0 : ((rd l0 x13_1) == (rd l1 x13_1)) = true := beq_iff_eq.mpr c8
         have c8b1 : ((rd l0 x13_1) != (rd l1 x13_1)) = false := bne_eq_false_iff_eq.mpr c8
         clear c8
         have H' := Aside0.mk H
         clear H
         have p101 : 0 ≤ (x13_1 : Int) := oT
         have q101 : x13_1 < (l0.length : Int) := oT
         obtain ⟨ad101, e101, hx101_0⟩ := Kd.at_int HR0.out x13_1 p101 q101
         cases e101
         replace p101 := eq_true p101
         replace q101 := eq_true q101
         have p102 : 0 ≤ (x13_1 : Int) := oT
         have q102 : x13_1 < (l1.length : Int) := oT
         obtain ⟨ad102, e102, hx102_0⟩ := Kd.at_int HR1.out x13_1 p102 q102
         cases e102
         replace p102 := eq_true p102
         replace q102 := eq_true q102
         go_wp2
         repeat (go_quiet (fail); try go_wp2)
         go_roundg k1
         case measure => have := HK1.out; omega
         case rel => exact ⟨(wrap64 (x13_1 + 1)), rS, H', ⟨by have := HK1.out; omega⟩, by repeat (first | exact Drawn0.refl _ | apply Drawn0.step)⟩
        ·rw [if_neg c8] at H
         have c8b0 : ((rd l0 x13_1) == (rd l1 x13_1)) = false := beq_eq_false_iff_ne.mpr c8
         have c8b1 : ((rd l0 x13_1) != (rd l1 x13_1)) = true := bne_iff_ne.mpr c8
         obtain rfl := Option.some.inj H
         have p101 : 0 ≤ (x13_1 : Int) := oT
         have q101 : x13_1 < (l0.length : Int) := oT
         obtain ⟨ad101, e101, hx101_0⟩ := Kd.at_int HR0.out x13_1 p101 q101
         cases e101
         replace p101 := eq_true p101
         replace q101 := eq_true q101
         have p102 : 0 ≤ (x13_1 : Int) := oT
         have q102 : x13_1 < (l1.length : Int) := oT
         obtain ⟨ad102, e102, hx102_0⟩ := Kd.at_int HR1.out x13_1 p102 q102
         cases e102
         replace p102 := eq_true p102
         replace q102 := eq_true q102
         go_wp2
         repeat (go_quiet (fail); try go_wp2)
         go_ret
         exact ⟨by first | rfl | (simp; done) | (simp [*]; done), by repeat (first | exact Drawn0.refl _ | apply Drawn0.step)⟩
       ·rw [if_neg c7] at H
        exact absurd H (by simp)
      ·rw [if_neg c6] at H
       exact absurd H (by simp)
     ·rw [if_neg c5] at H
      exact absurd H (by simp)
    ·rw [if_neg c4] at H
     have c4b0 : decide (x13_1 < (l0.length : Int)) = false := decide_eq_false c4
     clear c4
     obtain rfl := Option.some.inj H
     go_wp2
     repeat (go_quiet (fail); try go_wp2)
     go_ret
     exact ⟨by first | rfl | (simp; done) | (simp [*]; done), by repeat (first | exact Drawn0.refl _ | apply Drawn0.step)⟩
 ·rw [if_neg c3] at H
  have c3b0 : ((l0.length : Int) == (l1.length : Int)) = false := beq_eq_false_iff_ne.mpr c3
  have c3b1 : ((l0.length : Int) != (l1.length : Int)) = true := bne_iff_ne.mpr c3
  have c3b2 : (l0.length == l1.length) = false := by first | simpa using c3 | (simp at c3 ⊢; omega)
  obtain rfl := Option.some.inj H
  go_enter Try.func40, Try.ntmps40
  go_wp2
  repeat (go_quiet (fail); try go_wp2)
  go_ret
  exact ⟨by first | rfl | (simp; done) | (simp [*]; done), by repeat (first | exact Drawn0.refl _ | apply Drawn0.step)⟩
end Go.Proofs.Ytillofiphkmjjaa.X

/- awake, walked by hand. -/
namespace Go.Proofs.Ytillofiphkmjjaa.X
open Go.RowKit Go.Proofs.YtillofiphkmjjaaW.PrintWords Go.Proofs.YtillofiphkmjjaaW.PrintLast Go.Proofs.YtillofiphkmjjaaW.PrintMore
set_option linter.unusedVariables false
set_option linter.unusedSimpArgs false

theorem size_alloc1 (w : World) (o : Obj) : (w.alloc o).heap.size = w.heap.size + 1 := by simp
set_option maxHeartbeats 4000000 in
set_option maxRecDepth 100000 in
theorem awake_walk (k : Nat) (e0 : List Int) (e1 : List S94) (e2 : List Int) (e3 : List S94) (e4 : List Int) (e5 : List S94) (e6 : List Int) (e7 : List Int) (e8 : List Int) (e9 : List Int) (r1 : List Int) (r2 : List S94) (r3 r4 r5 r6 : List Int) (m1 m2 : List Int) (n1 n2 : List S79) (w : World)
    (hE : scarfjointlaw11_example.f = some (e0, e1, e2, e3, e4, e5, e6, e7, e8, e9))
    (hO : pullback_Of.f k e0 e1 e2 e3 e4 e5 e6 e7 e8 e9 = some (r1, r2, r3, r4, r5, r6, 0))
    (hM : pullback_Mediate.f k e0 e1 e2 e3 e4 e5 e6 e7 e8 e9 e4 e5 [1] [] [0] [] = some (m1, m2, 0))
    (hK : pullback_Kernel.f k e0 e1 e4 e5 e6 e7 = some (n1, n2, 0))
    (hL : r1.length = 4)
    (hp : slices_Equal_int_int.f k r3 [0, 0, 1, 1] = some true)
    (hq : slices_Equal_int_int.f k r5 [0, 1, 0, 1] = some true)
    (hm : slices_Equal_int_int.f k m1 [2] = some true)
    (hs : scarfjointref11_SamePairs.f k n1 [(⟨0, 1⟩ : S79)] = some true) :
    Calls Try.prog 10 #[] w fun e w' => e = .returned (.bool true) ∧ Below w.heap.size w w' := by
  have HE_ := Aside0.mk hE
  have HO_ := Aside0.mk hO
  have HM_ := Aside0.mk hM
  have HK_ := Aside0.mk hK
  have HL_ := Aside0.mk hL
  have HP_L := Aside0.mk hp
  have HQ_L := Aside0.mk hq
  have HM_L := Aside0.mk hm
  have HS_L := Aside0.mk hs
  clear hE hO hM hK hL hp hq hm hs
  have hu25 := Try.underlying25
  have hu27 := Try.underlying27
  have hu29 := Try.underlying29
  have hu79 := Try.underlying79
  have SB := Since.refl w
  go_enter Try.func10, Try.ntmps10
  go_wp2_with fail
  refine (scarfjointlaw11_example.calls e0 e1 e2 e3 e4 e5 e6 e7 e8 e9 _ HE_.out).mono ?_
  rintro e w1 ⟨y0, y1, y2, y3, y4, y5, y6, y7, y8, y9, rfl, q0, q1, q2, q3, q4, q5, q6, q7, q8, q9, hb⟩
  replace hb := below_step (show Below w.heap.size w _ from by repeat (first | exact Below.refl _ _ | apply below_alloc | apply pw_below_drewN | apply below_drew1)) hb
  replace SB := SB.step hb
  clear hb
  obtain ⟨A0, c0, rfl, R0⟩ := Row.of_V q0
  clear q0
  obtain ⟨A1, c1, rfl, R1⟩ := Row.of_R q1
  clear q1
  obtain ⟨A2, c2, rfl, R2⟩ := Row.of_V q2
  clear q2
  obtain ⟨A3, c3, rfl, R3⟩ := Row.of_R q3
  clear q3
  obtain ⟨A4, c4, rfl, R4⟩ := Row.of_R q4
  clear q4
  obtain ⟨A5, c5, rfl, R5⟩ := Row.of_R q5
  clear q5
  obtain ⟨A6, c6, rfl, R6⟩ := Row.of_V q6
  clear q6
  obtain ⟨A7, c7, rfl, R7⟩ := Row.of_R q7
  clear q7
  obtain ⟨A8, c8, rfl, R8⟩ := Row.of_V q8
  clear q8
  obtain ⟨A9, c9, rfl, R9⟩ := Row.of_R q9
  clear q9
  go_upto_region 2 with fail
  obtain ⟨BS, hb⟩ := blk_new1 w1 29 #[.slice A0 e0.length c0, .slice A1 e1.length c1, .slice A2 e2.length c2, .slice A3 e3.length c3, .slice A4 e4.length c4, .slice A5 e5.length c5, .slice A6 e6.length c6, .slice A7 e7.length c7, .slice A8 e8.length c8, .slice A9 e9.length c9]
  replace R0 := R0.below hb
  replace R1 := R1.below hb
  replace R2 := R2.below hb
  replace R3 := R3.below hb
  replace R4 := R4.below hb
  replace R5 := R5.below hb
  replace R6 := R6.below hb
  replace R7 := R7.below hb
  replace R8 := R8.below hb
  replace R9 := R9.below hb
  replace SB := SB.step hb
  clear hb
  generalize hw : (w1.alloc (.cells #[.slice A0 e0.length c0, .slice A1 e1.length c1, .slice A2 e2.length c2, .slice A3 e3.length c3, .slice A4 e4.length c4, .slice A5 e5.length c5, .slice A6 e6.length c6, .slice A7 e7.length c7, .slice A8 e8.length c8, .slice A9 e9.length c9] 29)) = w2 at *
  clear hw
  have BSx0 := BS.at 0 rfl
  have BSx1 := BS.at 1 rfl
  have BSx2 := BS.at 2 rfl
  have BSx3 := BS.at 3 rfl
  have BSx4 := BS.at 4 rfl
  have BSx5 := BS.at 5 rfl
  have BSx6 := BS.at 6 rfl
  have BSx7 := BS.at 7 rfl
  have BSx8 := BS.at 8 rfl
  have BSx9 := BS.at 9 rfl
  go_wp2_with fail
  refine (pullback_Of.calls k _ _ e0 _ _ e1 _ _ e2 _ _ e3 _ _ e4 _ _ e5 _ _ e6 _ _ e7 _ _ e8 _ _ e9 r1 r2 r3 r4 r5 r6 0 _ R0.at_ R0.cap R1.at_ R1.cap R2.at_ R2.cap R3.at_ R3.cap R4.at_ R4.cap R5.at_ R5.cap R6.at_ R6.cap R7.at_ R7.cap R8.at_ R8.cap R9.at_ R9.cap HO_.out).mono ?_
  rintro e w3 ⟨y0, y1, y2, y3, y4, y5, rfl, q0, q1, q2, q3, q4, q5, hb⟩
  replace hb := below_step (show Below w2.heap.size w2 _ from by repeat (first | exact Below.refl _ _ | apply below_alloc | apply pw_below_drewN | apply below_drew1)) hb
  replace R0 := R0.below hb
  replace R1 := R1.below hb
  replace R2 := R2.below hb
  replace R3 := R3.below hb
  replace R4 := R4.below hb
  replace R5 := R5.below hb
  replace R6 := R6.below hb
  replace R7 := R7.below hb
  replace R8 := R8.below hb
  replace R9 := R9.below hb
  replace BS := BS.below hb
  replace SB := SB.step hb
  clear hb
  obtain ⟨P0, p0, rfl, Q0⟩ := Row.of_R q0
  clear q0
  obtain ⟨P1, p1, rfl, Q1⟩ := Row.of_R q1
  clear q1
  obtain ⟨P2, p2, rfl, Q2⟩ := Row.of_R q2
  clear q2
  obtain ⟨P3, p3, rfl, Q3⟩ := Row.of_R q3
  clear q3
  obtain ⟨P4, p4, rfl, Q4⟩ := Row.of_R q4
  clear q4
  obtain ⟨P5, p5, rfl, Q5⟩ := Row.of_R q5
  clear q5
  have BSx0 := BS.at 0 rfl
  have BSx1 := BS.at 1 rfl
  have BSx2 := BS.at 2 rfl
  have BSx3 := BS.at 3 rfl
  have BSx4 := BS.at 4 rfl
  have BSx5 := BS.at 5 rfl
  have BSx6 := BS.at 6 rfl
  have BSx7 := BS.at 7 rfl
  have BSx8 := BS.at 8 rfl
  have BSx9 := BS.at 9 rfl
  go_upto_region 3 with fail
  obtain ⟨BA, hb⟩ := blk_new1 w3 25 #[.slice P0 r1.length p0, .slice P1 r2.length p1]
  replace R0 := R0.below hb
  replace R1 := R1.below hb
  replace R2 := R2.below hb
  replace R3 := R3.below hb
  replace R4 := R4.below hb
  replace R5 := R5.below hb
  replace R6 := R6.below hb
  replace R7 := R7.below hb
  replace R8 := R8.below hb
  replace R9 := R9.below hb
  replace Q0 := Q0.below hb
  replace Q1 := Q1.below hb
  replace Q2 := Q2.below hb
  replace Q3 := Q3.below hb
  replace Q4 := Q4.below hb
  replace Q5 := Q5.below hb
  replace BS := BS.below hb
  replace SB := SB.step hb
  clear hb
  obtain ⟨BP, hb⟩ := blk_new1 (w3.alloc (.cells #[.slice P0 r1.length p0, .slice P1 r2.length p1] 25)) 27 #[.slice P2 r3.length p2, .slice P3 r4.length p3]
  replace R0 := R0.below hb
  replace R1 := R1.below hb
  replace R2 := R2.below hb
  replace R3 := R3.below hb
  replace R4 := R4.below hb
  replace R5 := R5.below hb
  replace R6 := R6.below hb
  replace R7 := R7.below hb
  replace R8 := R8.below hb
  replace R9 := R9.below hb
  replace Q0 := Q0.below hb
  replace Q1 := Q1.below hb
  replace Q2 := Q2.below hb
  replace Q3 := Q3.below hb
  replace Q4 := Q4.below hb
  replace Q5 := Q5.below hb
  replace BS := BS.below hb
  replace BA := BA.below hb
  replace SB := SB.step hb
  clear hb
  obtain ⟨BQ, hb⟩ := blk_new1 ((w3.alloc (.cells #[.slice P0 r1.length p0, .slice P1 r2.length p1] 25)).alloc (.cells #[.slice P2 r3.length p2, .slice P3 r4.length p3] 27)) 27 #[.slice P4 r5.length p4, .slice P5 r6.length p5]
  replace R0 := R0.below hb
  replace R1 := R1.below hb
  replace R2 := R2.below hb
  replace R3 := R3.below hb
  replace R4 := R4.below hb
  replace R5 := R5.below hb
  replace R6 := R6.below hb
  replace R7 := R7.below hb
  replace R8 := R8.below hb
  replace R9 := R9.below hb
  replace Q0 := Q0.below hb
  replace Q1 := Q1.below hb
  replace Q2 := Q2.below hb
  replace Q3 := Q3.below hb
  replace Q4 := Q4.below hb
  replace Q5 := Q5.below hb
  replace BS := BS.below hb
  replace BA := BA.below hb
  replace BP := BP.below hb
  replace SB := SB.step hb
  clear hb
  simp only [size_alloc1] at BP BQ
  generalize hw : (((w3.alloc (.cells #[.slice P0 r1.length p0, .slice P1 r2.length p1] 25)).alloc (.cells #[.slice P2 r3.length p2, .slice P3 r4.length p3] 27)).alloc (.cells #[.slice P4 r5.length p4, .slice P5 r6.length p5] 27)) = w4 at *
  clear hw
  have BSx0 := BS.at 0 rfl
  have BSx1 := BS.at 1 rfl
  have BSx2 := BS.at 2 rfl
  have BSx3 := BS.at 3 rfl
  have BSx4 := BS.at 4 rfl
  have BSx5 := BS.at 5 rfl
  have BSx6 := BS.at 6 rfl
  have BSx7 := BS.at 7 rfl
  have BSx8 := BS.at 8 rfl
  have BSx9 := BS.at 9 rfl
  have BAx0 := BA.at 0 rfl
  have BAx1 := BA.at 1 rfl
  have BPx0 := BP.at 0 rfl
  have BPx1 := BP.at 1 rfl
  have BQx0 := BQ.at 0 rfl
  have BQx1 := BQ.at 1 rfl
  go_wp2_with fail
  obtain ⟨L1, hb⟩ := blk_new1 w4 3 #[.int .i64 1]
  replace R0 := R0.below hb
  replace R1 := R1.below hb
  replace R2 := R2.below hb
  replace R3 := R3.below hb
  replace R4 := R4.below hb
  replace R5 := R5.below hb
  replace R6 := R6.below hb
  replace R7 := R7.below hb
  replace R8 := R8.below hb
  replace R9 := R9.below hb
  replace Q0 := Q0.below hb
  replace Q1 := Q1.below hb
  replace Q2 := Q2.below hb
  replace Q3 := Q3.below hb
  replace Q4 := Q4.below hb
  replace Q5 := Q5.below hb
  replace BS := BS.below hb
  replace BA := BA.below hb
  replace BP := BP.below hb
  replace BQ := BQ.below hb
  replace SB := SB.step hb
  clear hb
  obtain ⟨L0, hb⟩ := blk_new1 (w4.alloc (.cells #[.int .i64 1] 3)) 3 #[.int .i64 0]
  replace R0 := R0.below hb
  replace R1 := R1.below hb
  replace R2 := R2.below hb
  replace R3 := R3.below hb
  replace R4 := R4.below hb
  replace R5 := R5.below hb
  replace R6 := R6.below hb
  replace R7 := R7.below hb
  replace R8 := R8.below hb
  replace R9 := R9.below hb
  replace Q0 := Q0.below hb
  replace Q1 := Q1.below hb
  replace Q2 := Q2.below hb
  replace Q3 := Q3.below hb
  replace Q4 := Q4.below hb
  replace Q5 := Q5.below hb
  replace BS := BS.below hb
  replace BA := BA.below hb
  replace BP := BP.below hb
  replace BQ := BQ.below hb
  replace L1 := L1.below hb
  replace SB := SB.step hb
  clear hb
  simp only [size_alloc1] at L0
  generalize hw : ((w4.alloc (.cells #[.int .i64 1] 3)).alloc (.cells #[.int .i64 0] 3)) = w5 at *
  clear hw
  have RL1 := Row.mk (L1.row (l := [1]) (by decide)).cap (L1.row (l := [1]) (by decide)).at_
  have RL0 := L0.row (l := [0]) (by decide)
  have RN1 := Row.nil (Kd.int .i64) w5
  refine (pullback_Mediate.calls k _ _ e0 _ _ e1 _ _ e2 _ _ e3 _ _ e4 _ _ e5 _ _ e6 _ _ e7 _ _ e8 _ _ e9 _ _ e4 _ _ e5 _ _ [1] _ _ [] _ _ [0] _ _ [] m1 m2 0 _ R0.at_ R0.cap R1.at_ R1.cap R2.at_ R2.cap R3.at_ R3.cap R4.at_ R4.cap R5.at_ R5.cap R6.at_ R6.cap R7.at_ R7.cap R8.at_ R8.cap R9.at_ R9.cap R4.at_ R4.cap R5.at_ R5.cap RL1.at_ RL1.cap RN1.at_ RN1.cap RL0.at_ RL0.cap RN1.at_ RN1.cap HM_.out).mono ?_
  rintro e w6 ⟨y0, y1, rfl, q0, q1, hb⟩
  clear RL1 RL0 RN1
  clear L1 L0
  replace hb := below_step (show Below w5.heap.size w5 _ from by repeat (first | exact Below.refl _ _ | apply below_alloc | apply pw_below_drewN | apply below_drew1)) hb
  replace R0 := R0.below hb
  replace R1 := R1.below hb
  replace R2 := R2.below hb
  replace R3 := R3.below hb
  replace R4 := R4.below hb
  replace R5 := R5.below hb
  replace R6 := R6.below hb
  replace R7 := R7.below hb
  replace R8 := R8.below hb
  replace R9 := R9.below hb
  replace Q0 := Q0.below hb
  replace Q1 := Q1.below hb
  replace Q2 := Q2.below hb
  replace Q3 := Q3.below hb
  replace Q4 := Q4.below hb
  replace Q5 := Q5.below hb
  replace BS := BS.below hb
  replace BA := BA.below hb
  replace BP := BP.below hb
  replace BQ := BQ.below hb
  replace SB := SB.step hb
  clear hb
  obtain ⟨N0, g0, rfl, M0⟩ := Row.of_R q0
  clear q0
  obtain ⟨N1, g1, rfl, M1⟩ := Row.of_R q1
  clear q1
  go_upto_region 4 with fail
  obtain ⟨BM, hb⟩ := blk_new1 w6 27 #[.slice N0 m1.length g0, .slice N1 m2.length g1]
  replace R0 := R0.below hb
  replace R1 := R1.below hb
  replace R2 := R2.below hb
  replace R3 := R3.below hb
  replace R4 := R4.below hb
  replace R5 := R5.below hb
  replace R6 := R6.below hb
  replace R7 := R7.below hb
  replace R8 := R8.below hb
  replace R9 := R9.below hb
  replace Q0 := Q0.below hb
  replace Q1 := Q1.below hb
  replace Q2 := Q2.below hb
  replace Q3 := Q3.below hb
  replace Q4 := Q4.below hb
  replace Q5 := Q5.below hb
  replace M0 := M0.below hb
  replace M1 := M1.below hb
  replace BS := BS.below hb
  replace BA := BA.below hb
  replace BP := BP.below hb
  replace BQ := BQ.below hb
  replace SB := SB.step hb
  clear hb
  generalize hw : (w6.alloc (.cells #[.slice N0 m1.length g0, .slice N1 m2.length g1] 27)) = w7 at *
  clear hw
  have BSx0 := BS.at 0 rfl
  have BSx1 := BS.at 1 rfl
  have BSx2 := BS.at 2 rfl
  have BSx3 := BS.at 3 rfl
  have BSx4 := BS.at 4 rfl
  have BSx5 := BS.at 5 rfl
  have BSx6 := BS.at 6 rfl
  have BSx7 := BS.at 7 rfl
  have BSx8 := BS.at 8 rfl
  have BSx9 := BS.at 9 rfl
  have BAx0 := BA.at 0 rfl
  have BAx1 := BA.at 1 rfl
  have BPx0 := BP.at 0 rfl
  have BPx1 := BP.at 1 rfl
  have BQx0 := BQ.at 0 rfl
  have BQx1 := BQ.at 1 rfl
  have BMx0 := BM.at 0 rfl
  have BMx1 := BM.at 1 rfl
  go_wp2_with fail
  refine (pullback_Kernel.calls k _ _ e0 _ _ e1 _ _ e4 _ _ e5 _ _ e6 _ _ e7 n1 n2 0 _ R0.at_ R0.cap R1.at_ R1.cap R4.at_ R4.cap R5.at_ R5.cap R6.at_ R6.cap R7.at_ R7.cap HK_.out).mono ?_
  rintro e w8 ⟨y0, y1, rfl, q0, q1, hb⟩
  replace hb := below_step (show Below w7.heap.size w7 _ from by repeat (first | exact Below.refl _ _ | apply below_alloc | apply pw_below_drewN | apply below_drew1)) hb
  replace R0 := R0.below hb
  replace R1 := R1.below hb
  replace R2 := R2.below hb
  replace R3 := R3.below hb
  replace R4 := R4.below hb
  replace R5 := R5.below hb
  replace R6 := R6.below hb
  replace R7 := R7.below hb
  replace R8 := R8.below hb
  replace R9 := R9.below hb
  replace Q0 := Q0.below hb
  replace Q1 := Q1.below hb
  replace Q2 := Q2.below hb
  replace Q3 := Q3.below hb
  replace Q4 := Q4.below hb
  replace Q5 := Q5.below hb
  replace M0 := M0.below hb
  replace M1 := M1.below hb
  replace BS := BS.below hb
  replace BA := BA.below hb
  replace BP := BP.below hb
  replace BQ := BQ.below hb
  replace BM := BM.below hb
  replace SB := SB.step hb
  clear hb
  obtain ⟨G0, h0, rfl, K0⟩ := Row.of_R q0
  clear q0
  obtain ⟨G1, h1, rfl, K1⟩ := Row.of_R q1
  clear q1
  have BSx0 := BS.at 0 rfl
  have BSx1 := BS.at 1 rfl
  have BSx2 := BS.at 2 rfl
  have BSx3 := BS.at 3 rfl
  have BSx4 := BS.at 4 rfl
  have BSx5 := BS.at 5 rfl
  have BSx6 := BS.at 6 rfl
  have BSx7 := BS.at 7 rfl
  have BSx8 := BS.at 8 rfl
  have BSx9 := BS.at 9 rfl
  have BAx0 := BA.at 0 rfl
  have BAx1 := BA.at 1 rfl
  have BPx0 := BP.at 0 rfl
  have BPx1 := BP.at 1 rfl
  have BQx0 := BQ.at 0 rfl
  have BQx1 := BQ.at 1 rfl
  have BMx0 := BM.at 0 rfl
  have BMx1 := BM.at 1 rfl
  have hl4 : (r1.length : Int) = 4 := by have := HL_.out; omega
  go_wp2_with fail
  obtain ⟨LT1, hb⟩ := blk_new1 w8 3 #[.int .i64 0, .int .i64 0, .int .i64 1, .int .i64 1]
  replace R0 := R0.below hb
  replace R1 := R1.below hb
  replace R2 := R2.below hb
  replace R3 := R3.below hb
  replace R4 := R4.below hb
  replace R5 := R5.below hb
  replace R6 := R6.below hb
  replace R7 := R7.below hb
  replace R8 := R8.below hb
  replace R9 := R9.below hb
  replace Q0 := Q0.below hb
  replace Q1 := Q1.below hb
  replace Q2 := Q2.below hb
  replace Q3 := Q3.below hb
  replace Q4 := Q4.below hb
  replace Q5 := Q5.below hb
  replace M0 := M0.below hb
  replace M1 := M1.below hb
  replace K0 := K0.below hb
  replace K1 := K1.below hb
  replace BS := BS.below hb
  replace BA := BA.below hb
  replace BP := BP.below hb
  replace BQ := BQ.below hb
  replace BM := BM.below hb
  replace SB := SB.step hb
  clear hb
  generalize hw : (w8.alloc (.cells #[.int .i64 0, .int .i64 0, .int .i64 1, .int .i64 1] 3)) = v1 at *
  clear hw
  have RL := LT1.row (l := [0, 0, 1, 1]) (by decide)
  refine (slices_Equal_int_int.calls k _ _ r3 _ _ [0, 0, 1, 1] true _ Q2.at_ Q2.cap RL.at_ RL.cap HP_L.out).mono ?_
  rintro e v2 ⟨rfl, hd⟩
  have hb := hd.below
  clear hd RL
  clear LT1
  replace hb := below_step (show Below v1.heap.size v1 _ from by repeat (first | exact Below.refl _ _ | apply below_alloc | apply pw_below_drewN | apply below_drew1)) hb
  replace R0 := R0.below hb
  replace R1 := R1.below hb
  replace R2 := R2.below hb
  replace R3 := R3.below hb
  replace R4 := R4.below hb
  replace R5 := R5.below hb
  replace R6 := R6.below hb
  replace R7 := R7.below hb
  replace R8 := R8.below hb
  replace R9 := R9.below hb
  replace Q0 := Q0.below hb
  replace Q1 := Q1.below hb
  replace Q2 := Q2.below hb
  replace Q3 := Q3.below hb
  replace Q4 := Q4.below hb
  replace Q5 := Q5.below hb
  replace M0 := M0.below hb
  replace M1 := M1.below hb
  replace K0 := K0.below hb
  replace K1 := K1.below hb
  replace BS := BS.below hb
  replace BA := BA.below hb
  replace BP := BP.below hb
  replace BQ := BQ.below hb
  replace BM := BM.below hb
  replace SB := SB.step hb
  clear hb
  have BSx0 := BS.at 0 rfl
  have BSx1 := BS.at 1 rfl
  have BSx2 := BS.at 2 rfl
  have BSx3 := BS.at 3 rfl
  have BSx4 := BS.at 4 rfl
  have BSx5 := BS.at 5 rfl
  have BSx6 := BS.at 6 rfl
  have BSx7 := BS.at 7 rfl
  have BSx8 := BS.at 8 rfl
  have BSx9 := BS.at 9 rfl
  have BAx0 := BA.at 0 rfl
  have BAx1 := BA.at 1 rfl
  have BPx0 := BP.at 0 rfl
  have BPx1 := BP.at 1 rfl
  have BQx0 := BQ.at 0 rfl
  have BQx1 := BQ.at 1 rfl
  have BMx0 := BM.at 0 rfl
  have BMx1 := BM.at 1 rfl
  go_wp2_with fail
  obtain ⟨LT2, hb⟩ := blk_new1 v2 3 #[.int .i64 0, .int .i64 1, .int .i64 0, .int .i64 1]
  replace R0 := R0.below hb
  replace R1 := R1.below hb
  replace R2 := R2.below hb
  replace R3 := R3.below hb
  replace R4 := R4.below hb
  replace R5 := R5.below hb
  replace R6 := R6.below hb
  replace R7 := R7.below hb
  replace R8 := R8.below hb
  replace R9 := R9.below hb
  replace Q0 := Q0.below hb
  replace Q1 := Q1.below hb
  replace Q2 := Q2.below hb
  replace Q3 := Q3.below hb
  replace Q4 := Q4.below hb
  replace Q5 := Q5.below hb
  replace M0 := M0.below hb
  replace M1 := M1.below hb
  replace K0 := K0.below hb
  replace K1 := K1.below hb
  replace BS := BS.below hb
  replace BA := BA.below hb
  replace BP := BP.below hb
  replace BQ := BQ.below hb
  replace BM := BM.below hb
  replace SB := SB.step hb
  clear hb
  generalize hw : (v2.alloc (.cells #[.int .i64 0, .int .i64 1, .int .i64 0, .int .i64 1] 3)) = v3 at *
  clear hw
  have RL := LT2.row (l := [0, 1, 0, 1]) (by decide)
  refine (slices_Equal_int_int.calls k _ _ r5 _ _ [0, 1, 0, 1] true _ Q4.at_ Q4.cap RL.at_ RL.cap HQ_L.out).mono ?_
  rintro e v4 ⟨rfl, hd⟩
  have hb := hd.below
  clear hd RL
  clear LT2
  replace hb := below_step (show Below v3.heap.size v3 _ from by repeat (first | exact Below.refl _ _ | apply below_alloc | apply pw_below_drewN | apply below_drew1)) hb
  replace R0 := R0.below hb
  replace R1 := R1.below hb
  replace R2 := R2.below hb
  replace R3 := R3.below hb
  replace R4 := R4.below hb
  replace R5 := R5.below hb
  replace R6 := R6.below hb
  replace R7 := R7.below hb
  replace R8 := R8.below hb
  replace R9 := R9.below hb
  replace Q0 := Q0.below hb
  replace Q1 := Q1.below hb
  replace Q2 := Q2.below hb
  replace Q3 := Q3.below hb
  replace Q4 := Q4.below hb
  replace Q5 := Q5.below hb
  replace M0 := M0.below hb
  replace M1 := M1.below hb
  replace K0 := K0.below hb
  replace K1 := K1.below hb
  replace BS := BS.below hb
  replace BA := BA.below hb
  replace BP := BP.below hb
  replace BQ := BQ.below hb
  replace BM := BM.below hb
  replace SB := SB.step hb
  clear hb
  have BSx0 := BS.at 0 rfl
  have BSx1 := BS.at 1 rfl
  have BSx2 := BS.at 2 rfl
  have BSx3 := BS.at 3 rfl
  have BSx4 := BS.at 4 rfl
  have BSx5 := BS.at 5 rfl
  have BSx6 := BS.at 6 rfl
  have BSx7 := BS.at 7 rfl
  have BSx8 := BS.at 8 rfl
  have BSx9 := BS.at 9 rfl
  have BAx0 := BA.at 0 rfl
  have BAx1 := BA.at 1 rfl
  have BPx0 := BP.at 0 rfl
  have BPx1 := BP.at 1 rfl
  have BQx0 := BQ.at 0 rfl
  have BQx1 := BQ.at 1 rfl
  have BMx0 := BM.at 0 rfl
  have BMx1 := BM.at 1 rfl
  go_wp2_with fail
  obtain ⟨LT3, hb⟩ := blk_new1 v4 3 #[.int .i64 2]
  replace R0 := R0.below hb
  replace R1 := R1.below hb
  replace R2 := R2.below hb
  replace R3 := R3.below hb
  replace R4 := R4.below hb
  replace R5 := R5.below hb
  replace R6 := R6.below hb
  replace R7 := R7.below hb
  replace R8 := R8.below hb
  replace R9 := R9.below hb
  replace Q0 := Q0.below hb
  replace Q1 := Q1.below hb
  replace Q2 := Q2.below hb
  replace Q3 := Q3.below hb
  replace Q4 := Q4.below hb
  replace Q5 := Q5.below hb
  replace M0 := M0.below hb
  replace M1 := M1.below hb
  replace K0 := K0.below hb
  replace K1 := K1.below hb
  replace BS := BS.below hb
  replace BA := BA.below hb
  replace BP := BP.below hb
  replace BQ := BQ.below hb
  replace BM := BM.below hb
  replace SB := SB.step hb
  clear hb
  generalize hw : (v4.alloc (.cells #[.int .i64 2] 3)) = v5 at *
  clear hw
  have RL := LT3.row (l := [2]) (by decide)
  refine (slices_Equal_int_int.calls k _ _ m1 _ _ [2] true _ M0.at_ M0.cap RL.at_ RL.cap HM_L.out).mono ?_
  rintro e v6 ⟨rfl, hd⟩
  have hb := hd.below
  clear hd RL
  clear LT3
  replace hb := below_step (show Below v5.heap.size v5 _ from by repeat (first | exact Below.refl _ _ | apply below_alloc | apply pw_below_drewN | apply below_drew1)) hb
  replace R0 := R0.below hb
  replace R1 := R1.below hb
  replace R2 := R2.below hb
  replace R3 := R3.below hb
  replace R4 := R4.below hb
  replace R5 := R5.below hb
  replace R6 := R6.below hb
  replace R7 := R7.below hb
  replace R8 := R8.below hb
  replace R9 := R9.below hb
  replace Q0 := Q0.below hb
  replace Q1 := Q1.below hb
  replace Q2 := Q2.below hb
  replace Q3 := Q3.below hb
  replace Q4 := Q4.below hb
  replace Q5 := Q5.below hb
  replace M0 := M0.below hb
  replace M1 := M1.below hb
  replace K0 := K0.below hb
  replace K1 := K1.below hb
  replace BS := BS.below hb
  replace BA := BA.below hb
  replace BP := BP.below hb
  replace BQ := BQ.below hb
  replace BM := BM.below hb
  replace SB := SB.step hb
  clear hb
  have BSx0 := BS.at 0 rfl
  have BSx1 := BS.at 1 rfl
  have BSx2 := BS.at 2 rfl
  have BSx3 := BS.at 3 rfl
  have BSx4 := BS.at 4 rfl
  have BSx5 := BS.at 5 rfl
  have BSx6 := BS.at 6 rfl
  have BSx7 := BS.at 7 rfl
  have BSx8 := BS.at 8 rfl
  have BSx9 := BS.at 9 rfl
  have BAx0 := BA.at 0 rfl
  have BAx1 := BA.at 1 rfl
  have BPx0 := BP.at 0 rfl
  have BPx1 := BP.at 1 rfl
  have BQx0 := BQ.at 0 rfl
  have BQx1 := BQ.at 1 rfl
  have BMx0 := BM.at 0 rfl
  have BMx1 := BM.at 1 rfl
  go_wp2_with fail
  obtain ⟨LP, hb⟩ := blk_new1 v6 79 #[.int .i64 0, .int .i64 1]
  replace R0 := R0.below hb
  replace R1 := R1.below hb
  replace R2 := R2.below hb
  replace R3 := R3.below hb
  replace R4 := R4.below hb
  replace R5 := R5.below hb
  replace R6 := R6.below hb
  replace R7 := R7.below hb
  replace R8 := R8.below hb
  replace R9 := R9.below hb
  replace Q0 := Q0.below hb
  replace Q1 := Q1.below hb
  replace Q2 := Q2.below hb
  replace Q3 := Q3.below hb
  replace Q4 := Q4.below hb
  replace Q5 := Q5.below hb
  replace M0 := M0.below hb
  replace M1 := M1.below hb
  replace K0 := K0.below hb
  replace K1 := K1.below hb
  replace BS := BS.below hb
  replace BA := BA.below hb
  replace BP := BP.below hb
  replace BQ := BQ.below hb
  replace BM := BM.below hb
  replace SB := SB.step hb
  clear hb
  generalize hw : (v6.alloc (.cells #[.int .i64 0, .int .i64 1] 79)) = v7 at *
  clear hw
  have RL := LP.row79 (x := ⟨0, 1⟩)
  refine (scarfjointref11_SamePairs.calls k _ _ n1 _ _ [⟨0, 1⟩] true _ K0.at_ K0.cap RL.at_ RL.cap HS_L.out).mono ?_
  rintro e v8 ⟨rfl, hd⟩
  have hb := hd.below
  clear hd RL LP
  replace hb := below_step (show Below v7.heap.size v7 _ from by repeat (first | exact Below.refl _ _ | apply below_alloc | apply pw_below_drewN | apply below_drew1)) hb
  replace R0 := R0.below hb
  replace R1 := R1.below hb
  replace R2 := R2.below hb
  replace R3 := R3.below hb
  replace R4 := R4.below hb
  replace R5 := R5.below hb
  replace R6 := R6.below hb
  replace R7 := R7.below hb
  replace R8 := R8.below hb
  replace R9 := R9.below hb
  replace Q0 := Q0.below hb
  replace Q1 := Q1.below hb
  replace Q2 := Q2.below hb
  replace Q3 := Q3.below hb
  replace Q4 := Q4.below hb
  replace Q5 := Q5.below hb
  replace M0 := M0.below hb
  replace M1 := M1.below hb
  replace K0 := K0.below hb
  replace K1 := K1.below hb
  replace BS := BS.below hb
  replace BA := BA.below hb
  replace BP := BP.below hb
  replace BQ := BQ.below hb
  replace BM := BM.below hb
  replace SB := SB.step hb
  clear hb
  go_wp2_with fail
  go_ret
  exact ⟨rfl, SB.get⟩
theorem awake_calls (w : World) : Calls Try.prog 10 #[] w fun e w' => e = .returned (.bool true) ∧ Below w.heap.size w w' :=
  awake_walk 40 [0, 0] [] [0, 0] [] [0] [] [0, 0] [] [0, 0] [] [0, 0, 0, 0] [] [0, 0, 1, 1] [] [0, 1, 0, 1] [] [2] [] [⟨0, 1⟩] [] w rfl (by kernel_rfl) (by kernel_rfl) (by kernel_rfl) rfl (by kernel_rfl) (by kernel_rfl) (by kernel_rfl) (by kernel_rfl)
end Go.Proofs.Ytillofiphkmjjaa.X

namespace Go.Proofs.Ytillofiphkmjjaa.X
open Go.RowKit Go.Proofs.YtillofiphkmjjaaW.PrintWords Go.Proofs.YtillofiphkmjjaaW.PrintLast Go.Proofs.YtillofiphkmjjaaW.PrintMore
open Go.Proofs.YtillofiphkmjjaaW.PrintWords renaming blk_drewN → bN, blk_drew → bD, blk_alloc → bA, below_alloc → wA, pw_below_drewN → wN, below_drew1 → wD, blk_below → bB, below_step → wS, blk_at → bT, blk_grown → bG
open Go.Proofs.YtillofiphkmjjaaW.PrintWords.Kd renaming R_alloc → rA, R_drewN → rN, R_drew → rD, R_below → rB, R_grown → rG, C_below → cB, C_alloc → cA, C_drewN → cN, C_drew → cD
attribute [local go_sem] max2_int min2_int max_two min_two max_three min_three max_four min_four
set_option linter.unusedVariables false
set_option linter.unusedSimpArgs false
/-! ### scarfjointref06_Valid: function 44 -/
set_option maxHeartbeats 4000000 in
set_option maxRecDepth 100000 in
theorem rvalid_a (A0 : Option Addr) (c0 : Nat) (a0 : List Int) (A1 : Option Addr) (c1 : Nat) (a1 : List S94) (A2 : Option Addr) (c2 : Nat) (b0 : List Int) (A3 : Option Addr) (c3 : Nat) (b1 : List S94) (A4 : Option Addr) (c4 : Nat) (n : List Int) (A5 : Option Addr) (c5 : Nat) (m : List Int) (w : World) (R0 : Row (Kd.int .i64) w A0 c0 a0) (R1 : Row k94 w A1 c1 a1) (R2 : Row (Kd.int .i64) w A2 c2 b0) (R3 : Row k94 w A3 c3 b1) (R4 : Row (Kd.int .i64) w A4 c4 n) (R5 : Row (Kd.int .i64) w A5 c5 m) (hv : validE a0 a1 ≠ 0) :
  Calls Try.prog 44 #[.agg #[.slice A0 a0.length c0, .slice A1 a1.length c1], .agg #[.slice A2 b0.length c2, .slice A3 b1.length c3], .agg #[.slice A4 n.length c4, .slice A5 m.length c5]] w fun e w' => e = .returned (.int .i64 (validE a0 a1)) ∧ Below w.heap.size w w' := by
 obtain ⟨ka, hka⟩ := Pl.valid_ev a0 a1
 have HKA := Aside0.mk (hka ka (Nat.le_refl _))
 obtain ⟨kb, hkb⟩ := Pl.valid_ev b0 b1
 have HKB := Aside0.mk (hkb kb (Nat.le_refl _))
 clear hka hkb
 have hu25 := Try.underlying25
 have hu27 := Try.underlying27
 have hu94 := Try.underlying94
 have HV_ := Aside0.mk hv
 clear hv
 have SB := Since.refl w
 go_enter Try.func44, Try.ntmps44
 go_upto_region 1 with fail
 obtain ⟨BX, BY, BZ, hb⟩ := tri_new w (.slice A0 a0.length c0) (.slice A1 a1.length c1) 25 (.slice A2 b0.length c2) (.slice A3 b1.length c3) 25 (.slice A4 n.length c4) (.slice A5 m.length c5) 27
 replace R0 := R0.below hb
 replace R1 := R1.below hb
 replace R2 := R2.below hb
 replace R3 := R3.below hb
 replace R4 := R4.below hb
 replace R5 := R5.below hb
 replace SB := SB.step hb
 clear hb
 generalize hw : (((w.alloc (.cells #[.slice A0 a0.length c0, .slice A1 a1.length c1] 25)).alloc (.cells #[.slice A2 b0.length c2, .slice A3 b1.length c3] 25)).alloc (.cells #[.slice A4 n.length c4, .slice A5 m.length c5] 27)) = w0 at *
 clear hw
 have BXx0 := BX.c0
 have BXx1 := BX.c1
 have BYx0 := BY.c0
 have BYx1 := BY.c1
 have BZx0 := BZ.c0
 have BZx1 := BZ.c1
 go_wp2_with fail
 refine (scarfjointref05_Valid.calls ka _ _ a0 _ _ a1 (validE a0 a1) _ R0.at_ R0.cap R1.at_ R1.cap HKA.out).mono ?_
 rintro e w1 ⟨rfl, hb⟩
 replace hb := wS (show Below w0.heap.size w0 _ from by repeat (first | exact Below.refl _ _ | apply wA | apply wN | apply wD)) hb
 replace R0 := R0.below hb
 replace R1 := R1.below hb
 replace R2 := R2.below hb
 replace R3 := R3.below hb
 replace R4 := R4.below hb
 replace R5 := R5.below hb
 replace BX := BX.below hb
 replace BY := BY.below hb
 replace BZ := BZ.below hb
 replace SB := SB.step hb
 clear hb
 have BXx0 := BX.c0
 have BXx1 := BX.c1
 have BYx0 := BY.c0
 have BYx1 := BY.c1
 have BZx0 := BZ.c0
 have BZx1 := BZ.c1
 have hz : (validE a0 a1 != 0) = true := bne_iff_ne.mpr HV_.out
 go_wp2_with fail
 go_ret
 exact ⟨rfl, SB.get⟩
set_option maxHeartbeats 4000000 in
set_option maxRecDepth 100000 in
theorem rvalid_b (A0 : Option Addr) (c0 : Nat) (a0 : List Int) (A1 : Option Addr) (c1 : Nat) (a1 : List S94) (A2 : Option Addr) (c2 : Nat) (b0 : List Int) (A3 : Option Addr) (c3 : Nat) (b1 : List S94) (A4 : Option Addr) (c4 : Nat) (n : List Int) (A5 : Option Addr) (c5 : Nat) (m : List Int) (w : World) (R0 : Row (Kd.int .i64) w A0 c0 a0) (R1 : Row k94 w A1 c1 a1) (R2 : Row (Kd.int .i64) w A2 c2 b0) (R3 : Row k94 w A3 c3 b1) (R4 : Row (Kd.int .i64) w A4 c4 n) (R5 : Row (Kd.int .i64) w A5 c5 m) (hv : validE a0 a1 = 0) (hu : validE b0 b1 ≠ 0) :
  Calls Try.prog 44 #[.agg #[.slice A0 a0.length c0, .slice A1 a1.length c1], .agg #[.slice A2 b0.length c2, .slice A3 b1.length c3], .agg #[.slice A4 n.length c4, .slice A5 m.length c5]] w fun e w' => e = .returned (.int .i64 (validE b0 b1)) ∧ Below w.heap.size w w' := by
 obtain ⟨ka, hka⟩ := Pl.valid_ev a0 a1
 have HKA := Aside0.mk (hka ka (Nat.le_refl _))
 obtain ⟨kb, hkb⟩ := Pl.valid_ev b0 b1
 have HKB := Aside0.mk (hkb kb (Nat.le_refl _))
 clear hka hkb
 have hu25 := Try.underlying25
 have hu27 := Try.underlying27
 have hu94 := Try.underlying94
 have HV_ := Aside0.mk hv
 have HU_ := Aside0.mk hu
 clear hv hu
 have SB := Since.refl w
 go_enter Try.func44, Try.ntmps44
 go_upto_region 1 with fail
 obtain ⟨BX, BY, BZ, hb⟩ := tri_new w (.slice A0 a0.length c0) (.slice A1 a1.length c1) 25 (.slice A2 b0.length c2) (.slice A3 b1.length c3) 25 (.slice A4 n.length c4) (.slice A5 m.length c5) 27
 replace R0 := R0.below hb
 replace R1 := R1.below hb
 replace R2 := R2.below hb
 replace R3 := R3.below hb
 replace R4 := R4.below hb
 replace R5 := R5.below hb
 replace SB := SB.step hb
 clear hb
 generalize hw : (((w.alloc (.cells #[.slice A0 a0.length c0, .slice A1 a1.length c1] 25)).alloc (.cells #[.slice A2 b0.length c2, .slice A3 b1.length c3] 25)).alloc (.cells #[.slice A4 n.length c4, .slice A5 m.length c5] 27)) = w0 at *
 clear hw
 have BXx0 := BX.c0
 have BXx1 := BX.c1
 have BYx0 := BY.c0
 have BYx1 := BY.c1
 have BZx0 := BZ.c0
 have BZx1 := BZ.c1
 go_wp2_with fail
 refine (scarfjointref05_Valid.calls ka _ _ a0 _ _ a1 0 _ R0.at_ R0.cap R1.at_ R1.cap (HKA.out.trans (by rw [HV_.out]))).mono ?_
 rintro e w1 ⟨rfl, hb⟩
 replace hb := wS (show Below w0.heap.size w0 _ from by repeat (first | exact Below.refl _ _ | apply wA | apply wN | apply wD)) hb
 replace R0 := R0.below hb
 replace R1 := R1.below hb
 replace R2 := R2.below hb
 replace R3 := R3.below hb
 replace R4 := R4.below hb
 replace R5 := R5.below hb
 replace BX := BX.below hb
 replace BY := BY.below hb
 replace BZ := BZ.below hb
 replace SB := SB.step hb
 clear hb
 have BXx0 := BX.c0
 have BXx1 := BX.c1
 have BYx0 := BY.c0
 have BYx1 := BY.c1
 have BZx0 := BZ.c0
 have BZx1 := BZ.c1
 go_wp2_with fail
 refine (scarfjointref05_Valid.calls kb _ _ b0 _ _ b1 (validE b0 b1) _ R2.at_ R2.cap R3.at_ R3.cap HKB.out).mono ?_
 rintro e w2 ⟨rfl, hb⟩
 replace hb := wS (show Below w1.heap.size w1 _ from by repeat (first | exact Below.refl _ _ | apply wA | apply wN | apply wD)) hb
 replace R0 := R0.below hb
 replace R1 := R1.below hb
 replace R2 := R2.below hb
 replace R3 := R3.below hb
 replace R4 := R4.below hb
 replace R5 := R5.below hb
 replace BX := BX.below hb
 replace BY := BY.below hb
 replace BZ := BZ.below hb
 replace SB := SB.step hb
 clear hb
 have BXx0 := BX.c0
 have BXx1 := BX.c1
 have BYx0 := BY.c0
 have BYx1 := BY.c1
 have BZx0 := BZ.c0
 have BZx1 := BZ.c1
 have hz : (validE b0 b1 != 0) = true := bne_iff_ne.mpr HU_.out
 go_wp2_with fail
 go_ret
 exact ⟨rfl, SB.get⟩
set_option maxHeartbeats 4000000 in
set_option maxRecDepth 100000 in
theorem rvalid_c (A0 : Option Addr) (c0 : Nat) (a0 : List Int) (A1 : Option Addr) (c1 : Nat) (a1 : List S94) (A2 : Option Addr) (c2 : Nat) (b0 : List Int) (A3 : Option Addr) (c3 : Nat) (b1 : List S94) (A4 : Option Addr) (c4 : Nat) (n : List Int) (A5 : Option Addr) (c5 : Nat) (m : List Int) (w : World) (R0 : Row (Kd.int .i64) w A0 c0 a0) (R1 : Row k94 w A1 c1 a1) (R2 : Row (Kd.int .i64) w A2 c2 b0) (R3 : Row k94 w A3 c3 b1) (R4 : Row (Kd.int .i64) w A4 c4 n) (R5 : Row (Kd.int .i64) w A5 c5 m) (hv : validE a0 a1 = 0) (hu : validE b0 b1 = 0) (hn : n.length ≠ a0.length ∨ m.length ≠ a1.length) :
  Calls Try.prog 44 #[.agg #[.slice A0 a0.length c0, .slice A1 a1.length c1], .agg #[.slice A2 b0.length c2, .slice A3 b1.length c3], .agg #[.slice A4 n.length c4, .slice A5 m.length c5]] w fun e w' => e = .returned (.int .i64 20) ∧ Below w.heap.size w w' := by
 obtain ⟨ka, hka⟩ := Pl.valid_ev a0 a1
 have HKA := Aside0.mk (hka ka (Nat.le_refl _))
 obtain ⟨kb, hkb⟩ := Pl.valid_ev b0 b1
 have HKB := Aside0.mk (hkb kb (Nat.le_refl _))
 clear hka hkb
 have hu25 := Try.underlying25
 have hu27 := Try.underlying27
 have hu94 := Try.underlying94
 have HV_ := Aside0.mk hv
 have HU_ := Aside0.mk hu
 clear hv hu
 have SB := Since.refl w
 go_enter Try.func44, Try.ntmps44
 go_upto_region 1 with fail
 obtain ⟨BX, BY, BZ, hb⟩ := tri_new w (.slice A0 a0.length c0) (.slice A1 a1.length c1) 25 (.slice A2 b0.length c2) (.slice A3 b1.length c3) 25 (.slice A4 n.length c4) (.slice A5 m.length c5) 27
 replace R0 := R0.below hb
 replace R1 := R1.below hb
 replace R2 := R2.below hb
 replace R3 := R3.below hb
 replace R4 := R4.below hb
 replace R5 := R5.below hb
 replace SB := SB.step hb
 clear hb
 generalize hw : (((w.alloc (.cells #[.slice A0 a0.length c0, .slice A1 a1.length c1] 25)).alloc (.cells #[.slice A2 b0.length c2, .slice A3 b1.length c3] 25)).alloc (.cells #[.slice A4 n.length c4, .slice A5 m.length c5] 27)) = w0 at *
 clear hw
 have BXx0 := BX.c0
 have BXx1 := BX.c1
 have BYx0 := BY.c0
 have BYx1 := BY.c1
 have BZx0 := BZ.c0
 have BZx1 := BZ.c1
 go_wp2_with fail
 refine (scarfjointref05_Valid.calls ka _ _ a0 _ _ a1 0 _ R0.at_ R0.cap R1.at_ R1.cap (HKA.out.trans (by rw [HV_.out]))).mono ?_
 rintro e w1 ⟨rfl, hb⟩
 replace hb := wS (show Below w0.heap.size w0 _ from by repeat (first | exact Below.refl _ _ | apply wA | apply wN | apply wD)) hb
 replace R0 := R0.below hb
 replace R1 := R1.below hb
 replace R2 := R2.below hb
 replace R3 := R3.below hb
 replace R4 := R4.below hb
 replace R5 := R5.below hb
 replace BX := BX.below hb
 replace BY := BY.below hb
 replace BZ := BZ.below hb
 replace SB := SB.step hb
 clear hb
 have BXx0 := BX.c0
 have BXx1 := BX.c1
 have BYx0 := BY.c0
 have BYx1 := BY.c1
 have BZx0 := BZ.c0
 have BZx1 := BZ.c1
 go_wp2_with fail
 refine (scarfjointref05_Valid.calls kb _ _ b0 _ _ b1 0 _ R2.at_ R2.cap R3.at_ R3.cap (HKB.out.trans (by rw [HU_.out]))).mono ?_
 rintro e w2 ⟨rfl, hb⟩
 replace hb := wS (show Below w1.heap.size w1 _ from by repeat (first | exact Below.refl _ _ | apply wA | apply wN | apply wD)) hb
 replace R0 := R0.below hb
 replace R1 := R1.below hb
 replace R2 := R2.below hb
 replace R3 := R3.below hb
 replace R4 := R4.below hb
 replace R5 := R5.below hb
 replace BX := BX.below hb
 replace BY := BY.below hb
 replace BZ := BZ.below hb
 replace SB := SB.step hb
 clear hb
 have BXx0 := BX.c0
 have BXx1 := BX.c1
 have BYx0 := BY.c0
 have BYx1 := BY.c1
 have BZx0 := BZ.c0
 have BZx1 := BZ.c1
 go_wp2_with fail
 all_goals first | (exfalso; omega) | skip
 all_goals (go_ret; exact ⟨rfl, SB.get⟩)
set_option maxHeartbeats 4000000 in
set_option maxRecDepth 100000 in
theorem rvalid_d (A0 : Option Addr) (c0 : Nat) (a0 : List Int) (A1 : Option Addr) (c1 : Nat) (a1 : List S94) (A2 : Option Addr) (c2 : Nat) (b0 : List Int) (A3 : Option Addr) (c3 : Nat) (b1 : List S94) (A4 : Option Addr) (c4 : Nat) (n : List Int) (A5 : Option Addr) (c5 : Nat) (m : List Int) (w : World) (R0 : Row (Kd.int .i64) w A0 c0 a0) (R1 : Row k94 w A1 c1 a1) (R2 : Row (Kd.int .i64) w A2 c2 b0) (R3 : Row k94 w A3 c3 b1) (R4 : Row (Kd.int .i64) w A4 c4 n) (R5 : Row (Kd.int .i64) w A5 c5 m) (hv : validE a0 a1 = 0) (hu : validE b0 b1 = 0) (hn : n.length = a0.length) (hm : m.length = a1.length) (hl : n.length ≤ 1000000 ∧ m.length ≤ 1000000) (r : Int) (hr : (if mvN a0 b0 0 n = 0 then mvE a1 b1 n 0 m else mvN a0 b0 0 n) = r) :
  Calls Try.prog 44 #[.agg #[.slice A0 a0.length c0, .slice A1 a1.length c1], .agg #[.slice A2 b0.length c2, .slice A3 b1.length c3], .agg #[.slice A4 n.length c4, .slice A5 m.length c5]] w fun e w' => e = .returned (.int .i64 r) ∧ Below w.heap.size w w' := by
 obtain ⟨ka, hka⟩ := Pl.valid_ev a0 a1
 have HKA := Aside0.mk (hka ka (Nat.le_refl _))
 obtain ⟨kb, hkb⟩ := Pl.valid_ev b0 b1
 have HKB := Aside0.mk (hkb kb (Nat.le_refl _))
 clear hka hkb
 have hu25 := Try.underlying25
 have hu27 := Try.underlying27
 have hu94 := Try.underlying94
 have HV_ := Aside0.mk hv
 have HU_ := Aside0.mk hu
 have HN_ := Aside0.mk hn
 have HM_ := Aside0.mk hm
 have HL_ := Aside0.mk hl
 have HR_ := Aside0.mk hr
 clear hv hu hn hm hl hr
 have SB := Since.refl w
 go_enter Try.func44, Try.ntmps44
 go_upto_region 1 with fail
 obtain ⟨BX, BY, BZ, hb⟩ := tri_new w (.slice A0 a0.length c0) (.slice A1 a1.length c1) 25 (.slice A2 b0.length c2) (.slice A3 b1.length c3) 25 (.slice A4 n.length c4) (.slice A5 m.length c5) 27
 replace R0 := R0.below hb
 replace R1 := R1.below hb
 replace R2 := R2.below hb
 replace R3 := R3.below hb
 replace R4 := R4.below hb
 replace R5 := R5.below hb
 replace SB := SB.step hb
 clear hb
 generalize hw : (((w.alloc (.cells #[.slice A0 a0.length c0, .slice A1 a1.length c1] 25)).alloc (.cells #[.slice A2 b0.length c2, .slice A3 b1.length c3] 25)).alloc (.cells #[.slice A4 n.length c4, .slice A5 m.length c5] 27)) = w0 at *
 clear hw
 have BXx0 := BX.c0
 have BXx1 := BX.c1
 have BYx0 := BY.c0
 have BYx1 := BY.c1
 have BZx0 := BZ.c0
 have BZx1 := BZ.c1
 go_wp2_with fail
 refine (scarfjointref05_Valid.calls ka _ _ a0 _ _ a1 0 _ R0.at_ R0.cap R1.at_ R1.cap (HKA.out.trans (by rw [HV_.out]))).mono ?_
 rintro e w1 ⟨rfl, hb⟩
 replace hb := wS (show Below w0.heap.size w0 _ from by repeat (first | exact Below.refl _ _ | apply wA | apply wN | apply wD)) hb
 replace R0 := R0.below hb
 replace R1 := R1.below hb
 replace R2 := R2.below hb
 replace R3 := R3.below hb
 replace R4 := R4.below hb
 replace R5 := R5.below hb
 replace BX := BX.below hb
 replace BY := BY.below hb
 replace BZ := BZ.below hb
 replace SB := SB.step hb
 clear hb
 have BXx0 := BX.c0
 have BXx1 := BX.c1
 have BYx0 := BY.c0
 have BYx1 := BY.c1
 have BZx0 := BZ.c0
 have BZx1 := BZ.c1
 go_wp2_with fail
 refine (scarfjointref05_Valid.calls kb _ _ b0 _ _ b1 0 _ R2.at_ R2.cap R3.at_ R3.cap (HKB.out.trans (by rw [HU_.out]))).mono ?_
 rintro e w2 ⟨rfl, hb⟩
 replace hb := wS (show Below w1.heap.size w1 _ from by repeat (first | exact Below.refl _ _ | apply wA | apply wN | apply wD)) hb
 replace R0 := R0.below hb
 replace R1 := R1.below hb
 replace R2 := R2.below hb
 replace R3 := R3.below hb
 replace R4 := R4.below hb
 replace R5 := R5.below hb
 replace BX := BX.below hb
 replace BY := BY.below hb
 replace BZ := BZ.below hb
 replace SB := SB.step hb
 clear hb
 have BXx0 := BX.c0
 have BXx1 := BX.c1
 have BYx0 := BY.c0
 have BYx1 := BY.c1
 have BZx0 := BZ.c0
 have BZx1 := BZ.c1
 have j1 : ((n.length : Int) != (a0.length : Int)) = false := bne_eq_false_iff_eq.mpr (by rw [HN_.out])
 have j2 : ((m.length : Int) != (a1.length : Int)) = false := bne_eq_false_iff_eq.mpr (by rw [HM_.out])
 go_wp2_with fail
 all_goals first | (exfalso; have h1 := HN_.out; have h2 := HM_.out; omega) | skip
 go_loopg [9] n.length (fun kq v44 w' => ∃ i : Nat, v44 = .int .i64 i ∧ Aside0 (i + kq = n.length ∧ mvN a0 b0 i (n.drop i) = mvN a0 b0 0 n) ∧ Row (Kd.int .i64) w' A0 c0 a0 ∧ Row k94 w' A1 c1 a1 ∧ Row (Kd.int .i64) w' A2 c2 b0 ∧ Row k94 w' A3 c3 b1 ∧ Row (Kd.int .i64) w' A4 c4 n ∧ Row (Kd.int .i64) w' A5 c5 m ∧ Box2 w' w.heap.size 25 (.slice A0 a0.length c0) (.slice A1 a1.length c1) ∧ Box2 w' (w.heap.size + 1) 25 (.slice A2 b0.length c2) (.slice A3 b1.length c3) ∧ Box2 w' (w.heap.size + 2) 27 (.slice A4 n.length c4) (.slice A5 m.length c5) ∧ Since w w')
 case atStart => exact ⟨0, rfl, ⟨by omega, rfl⟩, R0, R1, R2, R3, R4, R5, BX, BY, BZ, SB⟩
 case round =>
  clear R0 R1 R2 R3 R4 R5 BX BY BZ SB
  obtain ⟨i, rfl, A, R0, R1, R2, R3, R4, R5, BX, BY, BZ, SB⟩ := hrel
  have BXx0 := BX.c0
  have BXx1 := BX.c1
  have BYx0 := BY.c0
  have BYx1 := BY.c1
  have BZx0 := BZ.c0
  have BZx1 := BZ.c1
  by_cases k1 : i < n.length
  ·have d1 : decide (i < a0.length) = true := decide_eq_true (by have := HN_.out; omega)
   have hA := A.out.2
   rw [drop_rd n i k1, mvN_cons] at hA
   have k2 : (i : Int) < (n.length : Int) := by omega
   obtain ⟨ad, ead, hx⟩ := Kd.at_int R4.at_ (i : Int) (by omega) k2
   cases ead
   rw [Int.toNat_natCast] at hx
   have HK1 := Aside0.mk k1
   have q1 := eq_true k2
   clear k1 k2
   by_cases e1 : rd n i < 0
   ·have d2 : decide (rd n i < 0) = true := decide_eq_true e1
    rw [if_pos (.inl e1)] at hA
    have HA2 := Aside0.mk hA
    clear hA e1
    as_aux_lemma =>
     go_wp2
     repeat (go_quiet (fail); try go_wp2)
     go_ret
     have hr := HR_.out
     rw [← HA2.out, if_neg (by decide)] at hr
     exact ⟨by rw [← hr]; rfl, (SB.step (by repeat (first | exact Below.refl _ _ | apply wN | apply below_drew | apply wA))).get⟩
   ·have d2 : decide (rd n i < 0) = false := decide_eq_false e1
    by_cases e2 : rd n i ≥ b0.length
    ·have d3 : decide ((b0.length : Int) ≤ rd n i) = true := decide_eq_true e2
     rw [if_pos (.inr e2)] at hA
     have HA2 := Aside0.mk hA
     clear hA e1 e2
     as_aux_lemma =>
      go_wp2
      repeat (go_quiet (fail); try go_wp2)
      go_ret
      have hr := HR_.out
      rw [← HA2.out, if_neg (by decide)] at hr
      exact ⟨by rw [← hr]; rfl, (SB.step (by repeat (first | exact Below.refl _ _ | apply wN | apply below_drew | apply wA))).get⟩
    ·have d3 : decide ((b0.length : Int) ≤ rd n i) = false := decide_eq_false e2
     rw [if_neg (by omega)] at hA
     have f1 : 0 ≤ rd n i := by omega
     have f2 : rd n i < (b0.length : Int) := by omega
     have f3 : (i : Int) < (a0.length : Int) := by have := HN_.out; have := HK1.out; omega
     obtain ⟨ae, eae, hy⟩ := Kd.at_int R2.at_ (rd n i) f1 f2
     cases eae
     obtain ⟨af, eaf, hz⟩ := Kd.at_int R0.at_ (i : Int) (by omega) f3
     cases eaf
     rw [Int.toNat_natCast] at hz
     clear e1 e2
     replace f1 := eq_true f1
     replace f2 := eq_true f2
     replace f3 := eq_true f3
     by_cases e3 : rd b0 (rd n i) = rd a0 i
     ·have d4 : (rd b0 (rd n i) != rd a0 i) = false := bne_eq_false_iff_eq.mpr e3
      rw [if_neg (fun h => h e3)] at hA
      have HA2 := Aside0.mk hA
      clear hA e3
      as_aux_lemma =>
       go_wp2
       repeat (go_quiet (fail); try go_wp2)
       go_roundg (gk - 1)
       case measure => have h1 := A.out; have h2 := HK1.out; omega
       case rel =>
        have h1 := A.out
        have h2 := HK1.out
        have h3 := HL_.out
        exact ⟨i + 1, by rw [show wrap64 ((i : Int) + 1) = ((i + 1 : Nat) : Int) from by unfold wrap64; omega], ⟨by omega, HA2.out⟩, R0.below (by repeat (first | exact Below.refl _ _ | apply wN | apply below_drew | apply wA)), R1.below (by repeat (first | exact Below.refl _ _ | apply wN | apply below_drew | apply wA)), R2.below (by repeat (first | exact Below.refl _ _ | apply wN | apply below_drew | apply wA)), R3.below (by repeat (first | exact Below.refl _ _ | apply wN | apply below_drew | apply wA)), R4.below (by repeat (first | exact Below.refl _ _ | apply wN | apply below_drew | apply wA)), R5.below (by repeat (first | exact Below.refl _ _ | apply wN | apply below_drew | apply wA)), BX.below (by repeat (first | exact Below.refl _ _ | apply wN | apply below_drew | apply wA)), BY.below (by repeat (first | exact Below.refl _ _ | apply wN | apply below_drew | apply wA)), BZ.below (by repeat (first | exact Below.refl _ _ | apply wN | apply below_drew | apply wA)), SB.step (by repeat (first | exact Below.refl _ _ | apply wN | apply below_drew | apply wA))⟩
     ·have d4 : (rd b0 (rd n i) != rd a0 i) = true := bne_iff_ne.mpr e3
      rw [if_pos e3] at hA
      have HA2 := Aside0.mk hA
      clear hA e3
      as_aux_lemma =>
       go_wp2
       repeat (go_quiet (fail); try go_wp2)
       go_ret
       have hr := HR_.out
       rw [← HA2.out, if_neg (by decide)] at hr
       exact ⟨by rw [← hr]; rfl, (SB.step (by repeat (first | exact Below.refl _ _ | apply wN | apply below_drew | apply wA))).get⟩
  ·have d1 : decide (i < a0.length) = false := decide_eq_false (by have := HN_.out; omega)
   have hA := A.out.2
   rw [List.drop_of_length_le (by omega)] at hA
   have hr := HR_.out
   rw [← hA, show mvN a0 b0 i [] = 0 from rfl, if_pos rfl] at hr
   have HR2 := Aside0.mk hr
   clear hr hA k1
   go_wp2
   go_loopg [10] m.length (fun kq v73 w' => ∃ i : Nat, v73 = .int .i64 i ∧ Aside0 (i + kq = m.length ∧ mvE a1 b1 n i (m.drop i) = mvE a1 b1 n 0 m) ∧ Row (Kd.int .i64) w' A0 c0 a0 ∧ Row k94 w' A1 c1 a1 ∧ Row (Kd.int .i64) w' A2 c2 b0 ∧ Row k94 w' A3 c3 b1 ∧ Row (Kd.int .i64) w' A4 c4 n ∧ Row (Kd.int .i64) w' A5 c5 m ∧ Box2 w' w.heap.size 25 (.slice A0 a0.length c0) (.slice A1 a1.length c1) ∧ Box2 w' (w.heap.size + 1) 25 (.slice A2 b0.length c2) (.slice A3 b1.length c3) ∧ Box2 w' (w.heap.size + 2) 27 (.slice A4 n.length c4) (.slice A5 m.length c5) ∧ Since w w')
   case atStart => exact ⟨0, rfl, ⟨by omega, rfl⟩, R0, R1, R2, R3, R4, R5, BX, BY, BZ, SB⟩
   case round =>
    clear A R0 R1 R2 R3 R4 R5 BX BY BZ SB
    obtain ⟨i, rfl, A, R0, R1, R2, R3, R4, R5, BX, BY, BZ, SB⟩ := hrel
    have BXx0 := BX.c0
    have BXx1 := BX.c1
    have BYx0 := BY.c0
    have BYx1 := BY.c1
    have BZx0 := BZ.c0
    have BZx1 := BZ.c1
    by_cases k1 : i < m.length
    ·have d1 : decide (i < a1.length) = true := decide_eq_true (by have := HM_.out; omega)
     have hA := A.out.2
     rw [drop_rd m i k1, mvE_cons] at hA
     have k2 : (i : Int) < (m.length : Int) := by omega
     obtain ⟨ad, ead, hx⟩ := Kd.at_int R5.at_ (i : Int) (by omega) k2
     cases ead
     rw [Int.toNat_natCast] at hx
     have HK1 := Aside0.mk k1
     have q1 := eq_true k2
     clear k1 k2
     by_cases e1 : rd m i < 0
     ·have d2 : decide (rd m i < 0) = true := decide_eq_true e1
      rw [if_pos (.inl e1)] at hA
      have HA2 := Aside0.mk hA
      clear hA e1
      as_aux_lemma =>
       go_wp2
       repeat (go_quiet (fail); try go_wp2)
       go_ret
       have hr := HR2.out
       rw [← HA2.out] at hr
       exact ⟨by rw [← hr]; rfl, (SB.step (by repeat (first | exact Below.refl _ _ | apply wN | apply below_drew | apply wA))).get⟩
     ·have d2 : decide (rd m i < 0) = false := decide_eq_false e1
      by_cases e2 : rd m i ≥ b1.length
      ·have d3 : decide ((b1.length : Int) ≤ rd m i) = true := decide_eq_true e2
       rw [if_pos (.inr e2)] at hA
       have HA2 := Aside0.mk hA
       clear hA e1 e2
       as_aux_lemma =>
        go_wp2
        repeat (go_quiet (fail); try go_wp2)
        go_ret
        have hr := HR2.out
        rw [← HA2.out] at hr
        exact ⟨by rw [← hr]; rfl, (SB.step (by repeat (first | exact Below.refl _ _ | apply wN | apply below_drew | apply wA))).get⟩
      ·have d3 : decide ((b1.length : Int) ≤ rd m i) = false := decide_eq_false e2
       rw [if_neg (by omega)] at hA
       have f1 : 0 ≤ rd m i := by omega
       have f2 : rd m i < (b1.length : Int) := by omega
       have f3 : (i : Int) < (a1.length : Int) := by have := HM_.out; have := HK1.out; omega
       obtain ⟨ae, eae, hy0, hy1, hy2⟩ := at_T94 R3.at_ (rd m i) f1 f2
       cases eae
       obtain ⟨af, eaf, hz0, hz1, hz2⟩ := at_T94 R1.at_ (i : Int) (by omega) f3
       cases eaf
       rw [Int.toNat_natCast] at hz0 hz1 hz2
       clear e1 e2
       replace f1 := eq_true f1
       replace f2 := eq_true f2
       replace f3 := eq_true f3
       have HA1 := Aside0.mk hA
       clear hA
       go_upto_region 20 with fail
       go_quiet (fail)
       go_upto_region 22 with fail
       have hb : Below wr.heap.size wr (wr.drewN nq) := by repeat (first | exact Below.refl _ _ | apply wN)
       replace R0 := R0.below hb
       replace R1 := R1.below hb
       replace R2 := R2.below hb
       replace R3 := R3.below hb
       replace R4 := R4.below hb
       replace R5 := R5.below hb
       replace BX := BX.below hb
       replace BY := BY.below hb
       replace BZ := BZ.below hb
       replace SB := SB.step hb
       clear hb
       clear hx hy0 hy1 hy2 hz0 hz1 hz2 BXx0 BXx1 BYx0 BYx1 BZx0 BZx1
       generalize hq_ : wr.drewN nq = wq at *
       clear hq_
       obtain ⟨ad', ead', hx⟩ := Kd.at_int R5.at_ (i : Int) (by omega) (of_eq_true q1)
       cases ead'
       rw [Int.toNat_natCast] at hx
       obtain ⟨ae', eae', hy0, hy1, hy2⟩ := at_T94 R3.at_ (rd m i) (of_eq_true f1) (of_eq_true f2)
       cases eae'
       obtain ⟨af', eaf', hz0, hz1, hz2⟩ := at_T94 R1.at_ (i : Int) (by omega) (of_eq_true f3)
       cases eaf'
       rw [Int.toNat_natCast] at hz0 hz1 hz2
       have BXx0 := BX.c0
       have BXx1 := BX.c1
       have BYx0 := BY.c0
       have BYx1 := BY.c1
       have BZx0 := BZ.c0
       have BZx1 := BZ.c1
       have BXx0_1 := fun o => cell_alloc BXx0 o
       have BXx0_2 := fun o o' => cell_alloc (cell_alloc BXx0 o) o'
       have BXx1_1 := fun o => cell_alloc BXx1 o
       have BXx1_2 := fun o o' => cell_alloc (cell_alloc BXx1 o) o'
       have BYx0_1 := fun o => cell_alloc BYx0 o
       have BYx0_2 := fun o o' => cell_alloc (cell_alloc BYx0 o) o'
       have BYx1_1 := fun o => cell_alloc BYx1 o
       have BYx1_2 := fun o o' => cell_alloc (cell_alloc BYx1 o) o'
       have BZx0_1 := fun o => cell_alloc BZx0 o
       have BZx0_2 := fun o o' => cell_alloc (cell_alloc BZx0 o) o'
       have BZx1_1 := fun o => cell_alloc BZx1 o
       have BZx1_2 := fun o o' => cell_alloc (cell_alloc BZx1 o) o'
       have hy0_1 := fun o => cell_alloc hy0 o
       have hy0_2 := fun o o' => cell_alloc (cell_alloc hy0 o) o'
       have hy1_1 := fun o => cell_alloc hy1 o
       have hy1_2 := fun o o' => cell_alloc (cell_alloc hy1 o) o'
       have hy2_1 := fun o => cell_alloc hy2 o
       have hy2_2 := fun o o' => cell_alloc (cell_alloc hy2 o) o'
       have hz0_1 := fun o => cell_alloc hz0 o
       have hz0_2 := fun o o' => cell_alloc (cell_alloc hz0 o) o'
       have hz1_1 := fun o => cell_alloc hz1 o
       have hz1_2 := fun o o' => cell_alloc (cell_alloc hz1 o) o'
       have hz2_1 := fun o => cell_alloc hz2 o
       have hx_1 := fun o => cell_alloc hx o
       have hx_2 := fun o o' => cell_alloc (cell_alloc hx o) o'
       have hz2_2 := fun o o' => cell_alloc (cell_alloc hz2 o) o'
       go_region
       ·as_aux_lemma =>
         obtain ⟨BU, BV, hb⟩ := duo3_new wq (.int .i64 (rd_T94 a1 i).f0) (.int .i64 (rd_T94 a1 i).f1) (.int .i64 (rd_T94 a1 i).f2) 94 (.int .i64 (rd_T94 b1 (rd m i)).f0) (.int .i64 (rd_T94 b1 (rd m i)).f1) (.int .i64 (rd_T94 b1 (rd m i)).f2) 94
         replace R0 := R0.below hb
         replace R1 := R1.below hb
         replace R2 := R2.below hb
         replace R3 := R3.below hb
         replace R4 := R4.below hb
         replace R5 := R5.below hb
         replace BX := BX.below hb
         replace BY := BY.below hb
         replace BZ := BZ.below hb
         replace SB := SB.step hb
         generalize hw : ((wq.alloc (.cells #[(.int .i64 (rd_T94 a1 i).f0), (.int .i64 (rd_T94 a1 i).f1), (.int .i64 (rd_T94 a1 i).f2)] 94)).alloc (.cells #[(.int .i64 (rd_T94 b1 (rd m i)).f0), (.int .i64 (rd_T94 b1 (rd m i)).f1), (.int .i64 (rd_T94 b1 (rd m i)).f2)] 94)).drew = wx at *
         clear hw
         have BXx0 := BX.c0
         have BXx1 := BX.c1
         have BYx0 := BY.c0
         have BYx1 := BY.c1
         have BZx0 := BZ.c0
         have BZx1 := BZ.c1
         have BUx0 := BU.c0
         have BUx1 := BU.c1
         have BUx2 := BU.c2
         have BVx0 := BV.c0
         have BVx1 := BV.c1
         have BVx2 := BV.c2
         have hA := HA1.out
         obtain ⟨-, -, hok⟩ := Pl.okE_of HV_.out
         have hmem : rd_T94 a1 i ∈ a1 := by
          have h3 := of_eq_true f3
          unfold rd_T94
          rw [Int.toNat_natCast, List.getD_eq_getElem?_getD, List.getElem?_eq_getElem (by omega)]
          exact List.getElem_mem _
         have hends := hok _ hmem
         unfold Pl.okE at hends
         obtain ⟨⟨g1, g2⟩, g3, g4⟩ := hends
         rw [← HN_.out] at g2 g4
         clear hmem hok
         by_cases e4 : (rd_T94 a1 i).f0 = (rd_T94 b1 (rd m i)).f0
         rotate_left
         ·have d4 : ((rd_T94 a1 i).f0 != (rd_T94 b1 (rd m i)).f0) = true := bne_iff_ne.mpr e4
          rw [if_pos e4] at hA
          have HA2 := Aside0.mk hA
          clear hA e4
          as_aux_lemma =>
           go_wp2
           repeat (go_quiet (fail); try go_wp2)
           go_ret
           have hr := HR2.out
           rw [← HA2.out] at hr
           exact ⟨by rw [← hr]; rfl, (SB.step (by repeat (first | exact Below.refl _ _ | apply wN | apply below_drew | apply wA))).get⟩
         have d4 : ((rd_T94 a1 i).f0 != (rd_T94 b1 (rd m i)).f0) = false := bne_eq_false_iff_eq.mpr e4
         rw [if_neg (fun h => h e4)] at hA
         obtain ⟨ag, eag, hn1⟩ := Kd.at_int R4.at_ _ g1 g2
         cases eag
         obtain ⟨ah, eah, hn2⟩ := Kd.at_int R4.at_ _ g3 g4
         cases eah
         replace g1 := eq_true g1
         replace g2 := eq_true g2
         replace g3 := eq_true g3
         replace g4 := eq_true g4
         clear e4
         by_cases e5 : rd n (rd_T94 a1 i).f1 = (rd_T94 b1 (rd m i)).f1
         rotate_left
         ·have d5 : (rd n (rd_T94 a1 i).f1 != (rd_T94 b1 (rd m i)).f1) = true := bne_iff_ne.mpr e5
          rw [if_pos (.inl e5)] at hA
          have HA2 := Aside0.mk hA
          clear hA e5
          as_aux_lemma =>
           go_wp2
           repeat (go_quiet (fail); try go_wp2)
           go_ret
           have hr := HR2.out
           rw [← HA2.out] at hr
           exact ⟨by rw [← hr]; rfl, (SB.step (by repeat (first | exact Below.refl _ _ | apply wN | apply below_drew | apply wA))).get⟩
         have d5 : (rd n (rd_T94 a1 i).f1 != (rd_T94 b1 (rd m i)).f1) = false := bne_eq_false_iff_eq.mpr e5
         by_cases e6 : rd n (rd_T94 a1 i).f2 = (rd_T94 b1 (rd m i)).f2
         rotate_left
         ·have d6 : (rd n (rd_T94 a1 i).f2 != (rd_T94 b1 (rd m i)).f2) = true := bne_iff_ne.mpr e6
          rw [if_pos (.inr e6)] at hA
          have HA2 := Aside0.mk hA
          clear hA e5 e6
          as_aux_lemma =>
           go_wp2
           repeat (go_quiet (fail); try go_wp2)
           go_ret
           have hr := HR2.out
           rw [← HA2.out] at hr
           exact ⟨by rw [← hr]; rfl, (SB.step (by repeat (first | exact Below.refl _ _ | apply wN | apply below_drew | apply wA))).get⟩
         have d6 : (rd n (rd_T94 a1 i).f2 != (rd_T94 b1 (rd m i)).f2) = false := bne_eq_false_iff_eq.mpr e6
         rw [if_neg (fun h => h.elim (fun h => h e5) (fun h => h e6))] at hA
         have HA2 := Aside0.mk hA
         clear hA e5 e6
         as_aux_lemma =>
          go_wp2
          repeat (go_quiet (fail); try go_wp2)
          go_roundg (gk - 1)
          case measure => have h1 := A.out; have h2 := HK1.out; omega
          case rel =>
           have h1 := A.out
           have h2 := HK1.out
           have h3 := HL_.out
           exact ⟨i + 1, by rw [show wrap64 ((i : Int) + 1) = ((i + 1 : Nat) : Int) from by unfold wrap64; omega], ⟨by omega, HA2.out⟩, R0.below (by repeat (first | exact Below.refl _ _ | apply wN | apply below_drew | apply wA)), R1.below (by repeat (first | exact Below.refl _ _ | apply wN | apply below_drew | apply wA)), R2.below (by repeat (first | exact Below.refl _ _ | apply wN | apply below_drew | apply wA)), R3.below (by repeat (first | exact Below.refl _ _ | apply wN | apply below_drew | apply wA)), R4.below (by repeat (first | exact Below.refl _ _ | apply wN | apply below_drew | apply wA)), R5.below (by repeat (first | exact Below.refl _ _ | apply wN | apply below_drew | apply wA)), BX.below (by repeat (first | exact Below.refl _ _ | apply wN | apply below_drew | apply wA)), BY.below (by repeat (first | exact Below.refl _ _ | apply wN | apply below_drew | apply wA)), BZ.below (by repeat (first | exact Below.refl _ _ | apply wN | apply below_drew | apply wA)), SB.step (by repeat (first | exact Below.refl _ _ | apply wN | apply below_drew | apply wA))⟩
       ·as_aux_lemma =>
         obtain ⟨BV, BU, hb⟩ := duo3_new wq (.int .i64 (rd_T94 b1 (rd m i)).f0) (.int .i64 (rd_T94 b1 (rd m i)).f1) (.int .i64 (rd_T94 b1 (rd m i)).f2) 94 (.int .i64 (rd_T94 a1 i).f0) (.int .i64 (rd_T94 a1 i).f1) (.int .i64 (rd_T94 a1 i).f2) 94
         replace R0 := R0.below hb
         replace R1 := R1.below hb
         replace R2 := R2.below hb
         replace R3 := R3.below hb
         replace R4 := R4.below hb
         replace R5 := R5.below hb
         replace BX := BX.below hb
         replace BY := BY.below hb
         replace BZ := BZ.below hb
         replace SB := SB.step hb
         generalize hw : ((wq.alloc (.cells #[(.int .i64 (rd_T94 b1 (rd m i)).f0), (.int .i64 (rd_T94 b1 (rd m i)).f1), (.int .i64 (rd_T94 b1 (rd m i)).f2)] 94)).alloc (.cells #[(.int .i64 (rd_T94 a1 i).f0), (.int .i64 (rd_T94 a1 i).f1), (.int .i64 (rd_T94 a1 i).f2)] 94)).drew = wx at *
         clear hw
         have BXx0 := BX.c0
         have BXx1 := BX.c1
         have BYx0 := BY.c0
         have BYx1 := BY.c1
         have BZx0 := BZ.c0
         have BZx1 := BZ.c1
         have BUx0 := BU.c0
         have BUx1 := BU.c1
         have BUx2 := BU.c2
         have BVx0 := BV.c0
         have BVx1 := BV.c1
         have BVx2 := BV.c2
         have hA := HA1.out
         obtain ⟨-, -, hok⟩ := Pl.okE_of HV_.out
         have hmem : rd_T94 a1 i ∈ a1 := by
          have h3 := of_eq_true f3
          unfold rd_T94
          rw [Int.toNat_natCast, List.getD_eq_getElem?_getD, List.getElem?_eq_getElem (by omega)]
          exact List.getElem_mem _
         have hends := hok _ hmem
         unfold Pl.okE at hends
         obtain ⟨⟨g1, g2⟩, g3, g4⟩ := hends
         rw [← HN_.out] at g2 g4
         clear hmem hok
         by_cases e4 : (rd_T94 a1 i).f0 = (rd_T94 b1 (rd m i)).f0
         rotate_left
         ·have d4 : ((rd_T94 a1 i).f0 != (rd_T94 b1 (rd m i)).f0) = true := bne_iff_ne.mpr e4
          rw [if_pos e4] at hA
          have HA2 := Aside0.mk hA
          clear hA e4
          as_aux_lemma =>
           go_wp2
           repeat (go_quiet (fail); try go_wp2)
           go_ret
           have hr := HR2.out
           rw [← HA2.out] at hr
           exact ⟨by rw [← hr]; rfl, (SB.step (by repeat (first | exact Below.refl _ _ | apply wN | apply below_drew | apply wA))).get⟩
         have d4 : ((rd_T94 a1 i).f0 != (rd_T94 b1 (rd m i)).f0) = false := bne_eq_false_iff_eq.mpr e4
         rw [if_neg (fun h => h e4)] at hA
         obtain ⟨ag, eag, hn1⟩ := Kd.at_int R4.at_ _ g1 g2
         cases eag
         obtain ⟨ah, eah, hn2⟩ := Kd.at_int R4.at_ _ g3 g4
         cases eah
         replace g1 := eq_true g1
         replace g2 := eq_true g2
         replace g3 := eq_true g3
         replace g4 := eq_true g4
         clear e4
         by_cases e5 : rd n (rd_T94 a1 i).f1 = (rd_T94 b1 (rd m i)).f1
         rotate_left
         ·have d5 : (rd n (rd_T94 a1 i).f1 != (rd_T94 b1 (rd m i)).f1) = true := bne_iff_ne.mpr e5
          rw [if_pos (.inl e5)] at hA
          have HA2 := Aside0.mk hA
          clear hA e5
          as_aux_lemma =>
           go_wp2
           repeat (go_quiet (fail); try go_wp2)
           go_ret
           have hr := HR2.out
           rw [← HA2.out] at hr
           exact ⟨by rw [← hr]; rfl, (SB.step (by repeat (first | exact Below.refl _ _ | apply wN | apply below_drew | apply wA))).get⟩
         have d5 : (rd n (rd_T94 a1 i).f1 != (rd_T94 b1 (rd m i)).f1) = false := bne_eq_false_iff_eq.mpr e5
         by_cases e6 : rd n (rd_T94 a1 i).f2 = (rd_T94 b1 (rd m i)).f2
         rotate_left
         ·have d6 : (rd n (rd_T94 a1 i).f2 != (rd_T94 b1 (rd m i)).f2) = true := bne_iff_ne.mpr e6
          rw [if_pos (.inr e6)] at hA
          have HA2 := Aside0.mk hA
          clear hA e5 e6
          as_aux_lemma =>
           go_wp2
           repeat (go_quiet (fail); try go_wp2)
           go_ret
           have hr := HR2.out
           rw [← HA2.out] at hr
           exact ⟨by rw [← hr]; rfl, (SB.step (by repeat (first | exact Below.refl _ _ | apply wN | apply below_drew | apply wA))).get⟩
         have d6 : (rd n (rd_T94 a1 i).f2 != (rd_T94 b1 (rd m i)).f2) = false := bne_eq_false_iff_eq.mpr e6
         rw [if_neg (fun h => h.elim (fun h => h e5) (fun h => h e6))] at hA
         have HA2 := Aside0.mk hA
         clear hA e5 e6
         as_aux_lemma =>
          go_wp2
          repeat (go_quiet (fail); try go_wp2)
          go_roundg (gk - 1)
          case measure => have h1 := A.out; have h2 := HK1.out; omega
          case rel =>
           have h1 := A.out
           have h2 := HK1.out
           have h3 := HL_.out
           exact ⟨i + 1, by rw [show wrap64 ((i : Int) + 1) = ((i + 1 : Nat) : Int) from by unfold wrap64; omega], ⟨by omega, HA2.out⟩, R0.below (by repeat (first | exact Below.refl _ _ | apply wN | apply below_drew | apply wA)), R1.below (by repeat (first | exact Below.refl _ _ | apply wN | apply below_drew | apply wA)), R2.below (by repeat (first | exact Below.refl _ _ | apply wN | apply below_drew | apply wA)), R3.below (by repeat (first | exact Below.refl _ _ | apply wN | apply below_drew | apply wA)), R4.below (by repeat (first | exact Below.refl _ _ | apply wN | apply below_drew | apply wA)), R5.below (by repeat (first | exact Below.refl _ _ | apply wN | apply below_drew | apply wA)), BX.below (by repeat (first | exact Below.refl _ _ | apply wN | apply below_drew | apply wA)), BY.below (by repeat (first | exact Below.refl _ _ | apply wN | apply below_drew | apply wA)), BZ.below (by repeat (first | exact Below.refl _ _ | apply wN | apply below_drew | apply wA)), SB.step (by repeat (first | exact Below.refl _ _ | apply wN | apply below_drew | apply wA))⟩
    ·have d1 : decide (i < a1.length) = false := decide_eq_false (by have := HM_.out; omega)
     have hA := A.out.2
     rw [List.drop_of_length_le (by omega)] at hA
     have hr := HR2.out
     rw [← hA] at hr
     have HR3 := Aside0.mk hr
     clear hr hA k1
     go_wp2
     go_ret
     exact ⟨by rw [← HR3.out]; rfl, SB.get⟩
theorem rvalid_calls (A0 : Option Addr) (c0 : Nat) (a0 : List Int) (A1 : Option Addr) (c1 : Nat) (a1 : List S94) (A2 : Option Addr) (c2 : Nat) (b0 : List Int) (A3 : Option Addr) (c3 : Nat) (b1 : List S94) (A4 : Option Addr) (c4 : Nat) (n : List Int) (A5 : Option Addr) (c5 : Nat) (m : List Int) (w : World) (R0 : Row (Kd.int .i64) w A0 c0 a0) (R1 : Row k94 w A1 c1 a1) (R2 : Row (Kd.int .i64) w A2 c2 b0) (R3 : Row k94 w A3 c3 b1) (R4 : Row (Kd.int .i64) w A4 c4 n) (R5 : Row (Kd.int .i64) w A5 c5 m) :
  Calls Try.prog 44 #[.agg #[.slice A0 a0.length c0, .slice A1 a1.length c1], .agg #[.slice A2 b0.length c2, .slice A3 b1.length c3], .agg #[.slice A4 n.length c4, .slice A5 m.length c5]] w fun e w' => e = .returned (.int .i64 (mvalid a0 a1 b0 b1 n m)) ∧ Below w.heap.size w w' := by
 unfold mvalid
 by_cases hv : validE a0 a1 = 0
 ·rw [if_pos hv]
  by_cases hu : validE b0 b1 = 0
  ·rw [if_pos hu]
   by_cases hn : n.length ≠ a0.length ∨ m.length ≠ a1.length
   ·rw [if_pos hn]
    exact rvalid_c A0 c0 a0 A1 c1 a1 A2 c2 b0 A3 c3 b1 A4 c4 n A5 c5 m w R0 R1 R2 R3 R4 R5 hv hu hn
   ·rw [if_neg hn]
    have hn0 : n.length = a0.length := by omega
    have hm0 : m.length = a1.length := by omega
    obtain ⟨h1, h2, -⟩ := Pl.okE_of hv
    exact rvalid_d A0 c0 a0 A1 c1 a1 A2 c2 b0 A3 c3 b1 A4 c4 n A5 c5 m w R0 R1 R2 R3 R4 R5 hv hu hn0 hm0 ⟨by omega, by omega⟩ _ rfl
  ·rw [if_neg hu]
   exact rvalid_b A0 c0 a0 A1 c1 a1 A2 c2 b0 A3 c3 b1 A4 c4 n A5 c5 m w R0 R1 R2 R3 R4 R5 hv hu
 ·rw [if_neg hv]
  exact rvalid_a A0 c0 a0 A1 c1 a1 A2 c2 b0 A3 c3 b1 A4 c4 n A5 c5 m w R0 R1 R2 R3 R4 R5 hv
def scarfjointref06_Valid.f (l0_0 : List Int) (l0_1 : List (S94)) (l1_0 : List Int) (l1_1 : List (S94)) (l2_0 : List Int) (l2_1 : List Int) : Option (Int) := some (mvalid l0_0 l0_1 l1_0 l1_1 l2_0 l2_1)
theorem scarfjointref06_Valid.calls (A0_0 : Option Addr) (c0_0 : Nat) (l0_0 : List Int) (A0_1 : Option Addr) (c0_1 : Nat) (l0_1 : List (S94)) (A1_0 : Option Addr) (c1_0 : Nat) (l1_0 : List Int) (A1_1 : Option Addr) (c1_1 : Nat) (l1_1 : List (S94)) (A2_0 : Option Addr) (c2_0 : Nat) (l2_0 : List Int) (A2_1 : Option Addr) (c2_1 : Nat) (l2_1 : List Int) (r : Int) (w : World) (hr0_0 : Kd.C (Kd.int .i64) w A0_0 l0_0.length l0_0) (hc0_0 : l0_0.length ≤ c0_0) (hr0_1 : Kd.C k94 w A0_1 l0_1.length l0_1) (hc0_1 : l0_1.length ≤ c0_1) (hr1_0 : Kd.C (Kd.int .i64) w A1_0 l1_0.length l1_0) (hc1_0 : l1_0.length ≤ c1_0) (hr1_1 : Kd.C k94 w A1_1 l1_1.length l1_1) (hc1_1 : l1_1.length ≤ c1_1) (hr2_0 : Kd.C (Kd.int .i64) w A2_0 l2_0.length l2_0) (hc2_0 : l2_0.length ≤ c2_0) (hr2_1 : Kd.C (Kd.int .i64) w A2_1 l2_1.length l2_1) (hc2_1 : l2_1.length ≤ c2_1) (h : scarfjointref06_Valid.f l0_0 l0_1 l1_0 l1_1 l2_0 l2_1 = some r) :
  Calls Try.prog 44 #[.agg #[.slice A0_0 l0_0.length c0_0, .slice A0_1 l0_1.length c0_1], .agg #[.slice A1_0 l1_0.length c1_0, .slice A1_1 l1_1.length c1_1], .agg #[.slice A2_0 l2_0.length c2_0, .slice A2_1 l2_1.length c2_1]] w fun e w' => e = .returned (.int .i64 r) ∧ Below w.heap.size w w' := by
 cases h
 exact rvalid_calls A0_0 c0_0 l0_0 A0_1 c0_1 l0_1 A1_0 c1_0 l1_0 A1_1 c1_1 l1_1 A2_0 c2_0 l2_0 A2_1 c2_1 l2_1 w ⟨hc0_0, hr0_0⟩ ⟨hc0_1, hr0_1⟩ ⟨hc1_0, hr1_0⟩ ⟨hc1_1, hr1_1⟩ ⟨hc2_0, hr2_0⟩ ⟨hc2_1, hr2_1⟩
end Go.Proofs.Ytillofiphkmjjaa.X

namespace Go.Proofs.Ytillofiphkmjjaa.X
open Go.RowKit Go.Proofs.YtillofiphkmjjaaW.PrintWords Go.Proofs.YtillofiphkmjjaaW.PrintLast Go.Proofs.YtillofiphkmjjaaW.PrintMore
open Go.Proofs.YtillofiphkmjjaaW.PrintWords renaming blk_drewN → bN, blk_drew → bD, blk_alloc → bA, below_alloc → wA, pw_below_drewN → wN, below_drew1 → wD, blk_below → bB, below_step → wS, blk_at → bT, blk_grown → bG
open Go.Proofs.YtillofiphkmjjaaW.PrintWords.Kd renaming R_alloc → rA, R_drewN → rN, R_drew → rD, R_below → rB, R_grown → rG, C_below → cB, C_alloc → cA, C_drewN → cN, C_drew → cD
attribute [local go_sem] max2_int min2_int max_two min_two max_three min_three max_four min_four
set_option linter.unusedVariables false
set_option linter.unusedSimpArgs false
/-! ### scarfjointref06_Distinct: function 57 -/
mutual
def scarfjointref06_Distinct.l0 : Nat → List Int → Int → Option (Bool)
 | 0, _, _ => none
 | k + 1, x0, x3 => if x3 < (x0.length : Int) then (scarfjointref06_Distinct.l1 k x0 x3 0) else (some true)
def scarfjointref06_Distinct.l1 : Nat → List Int → Int → Int → Option (Bool)
 | 0, _, _, _ => none
 | k + 1, x0, x3, x4 => if x4 < x3 then (if 0 ≤ x3 then (if x3 < (x0.length : Int) then (if 0 ≤ x4 then (if x4 < (x0.length : Int) then (if (rd x0 x3) = (rd x0 x4) then (some false) else (scarfjointref06_Distinct.l1 k x0 x3 (wrap64 (x4 + 1)))) else (none)) else (none)) else (none)) else (none)) else (scarfjointref06_Distinct.l0 k x0 (wrap64 (x3 + 1)))
end
def scarfjointref06_Distinct.f (k : Nat) (l0 : List Int) : Option (Bool) := scarfjointref06_Distinct.l0 k l0 0
theorem scarfjointref06_Distinct.mono_l : ∀ k, (∀ y0 y1, LeO (scarfjointref06_Distinct.l0 k y0 y1) (scarfjointref06_Distinct.l0 (k + 1) y0 y1)) ∧ (∀ y0 y1 y2, LeO (scarfjointref06_Distinct.l1 k y0 y1 y2) (scarfjointref06_Distinct.l1 (k + 1) y0 y1 y2))
 | 0 => ⟨fun _ _ r h => by simp [scarfjointref06_Distinct.l0] at h, fun _ _ _ r h => by simp [scarfjointref06_Distinct.l1] at h⟩
 | k + 1 => by
  obtain ⟨ih0, ih1⟩ := scarfjointref06_Distinct.mono_l k
  refine ⟨?_, ?_⟩
  ·intro y0 y1
   unfold scarfjointref06_Distinct.l0
   repeat' first
   | (with_reducible exact ih0 _ _)
   | (with_reducible exact ih1 _ _ _)
   | (with_reducible exact LeO.refl _)
   | (with_reducible exact LeO.none _)
   | (with_reducible refine LeO.ite ?_ ?_)
   | (with_reducible refine LeO.bind ?_ (fun _ => ?_))
   | exact ih0 _ _
   | exact ih1 _ _ _
   | exact LeO.none _
   | refine LeO.ite ?_ ?_
   | refine LeO.bind ?_ (fun _ => ?_)
  ·intro y0 y1 y2
   unfold scarfjointref06_Distinct.l1
   repeat' first
   | (with_reducible exact ih0 _ _)
   | (with_reducible exact ih1 _ _ _)
   | (with_reducible exact LeO.refl _)
   | (with_reducible exact LeO.none _)
   | (with_reducible refine LeO.ite ?_ ?_)
   | (with_reducible refine LeO.bind ?_ (fun _ => ?_))
   | exact ih0 _ _
   | exact ih1 _ _ _
   | exact LeO.none _
   | refine LeO.ite ?_ ?_
   | refine LeO.bind ?_ (fun _ => ?_)
theorem scarfjointref06_Distinct.mono : ∀ a0 k, LeO (scarfjointref06_Distinct.f k a0) (scarfjointref06_Distinct.f (k + 1) a0) := by
 intro a0 k
 obtain ⟨ih0, ih1⟩ := scarfjointref06_Distinct.mono_l k
 unfold scarfjointref06_Distinct.f
 repeat' first
   | (with_reducible exact ih0 _ _)
   | (with_reducible exact ih1 _ _ _)
   | (with_reducible exact LeO.refl _)
   | (with_reducible exact LeO.none _)
   | (with_reducible refine LeO.ite ?_ ?_)
   | (with_reducible refine LeO.bind ?_ (fun _ => ?_))
   | exact ih0 _ _
   | exact ih1 _ _ _
   | exact LeO.none _
   | refine LeO.ite ?_ ?_
   | refine LeO.bind ?_ (fun _ => ?_)
set_option maxHeartbeats 8000000 in
set_option maxRecDepth 100000 in
theorem scarfjointref06_Distinct.calls (k : Nat) (A0 : Option Addr) (c0 : Nat) (l0 : List Int) (r : Bool) (w : World) (hr0 : Kd.C (Kd.int .i64) w A0 l0.length l0) (hc0 : l0.length ≤ c0) (h : scarfjointref06_Distinct.f k l0 = some r) :
  Calls Try.prog 57 #[.slice A0 l0.length c0] w fun e w' => e = .returned (.bool r) ∧ Drawn0 w w' := by
 have HR0 := Aside0.mk hr0
 have HC0 := Aside0.mk hc0
 clear hr0 hc0
 have H : (scarfjointref06_Distinct.l0 k l0 0) = some r := h
 clear h
 have H' := Aside0.mk H
 clear H
 go_enter Try.func57, Try.ntmps57
 go_wp2
 repeat (go_quiet (fail); try go_wp2)
 go_loopg [3] k (fun kq v3 w' => ∃ (x3_1 : Int), v3 = .int .i64 x3_1 ∧ Aside0 (scarfjointref06_Distinct.l0 kq l0 x3_1 = some r) ∧ Aside0 (kq ≤ k) ∧ Drawn0 w w')
 case atStart => exact ⟨(0), rS, H', ⟨Nat.le_refl _⟩, by repeat (first | exact Drawn0.refl _ | apply Drawn0.step)⟩
 case round =>
  clear H'
  obtain ⟨x3_1, rfl, HA, HK1, ⟨m1, rfl⟩⟩ := hrel
  cases gk with
  | zero => exact absurd HA.out (by simp [scarfjointref06_Distinct.l0])
  | succ k1 =>
   have H := HA.out
   clear HA
   simp only [scarfjointref06_Distinct.l0] at H
   by_cases c2 : x3_1 < (l0.length : Int)
   ·rw [if_pos c2] at H
    have c2b0 : decide (x3_1 < (l0.length : Int)) = true := decide_eq_true c2
    clear c2
    have H' := Aside0.mk H
    clear H
    go_wp2
    repeat (go_quiet (fail); try go_wp2)
    go_loopg [4] k1 (fun kq v4 w' => ∃ (x4_2 : Int), v4 = .int .i64 x4_2 ∧ Aside0 (scarfjointref06_Distinct.l1 kq l0 x3_1 x4_2 = some r) ∧ Aside0 (kq ≤ k1) ∧ Drawn0 w w')
    case atStart => exact ⟨(0), rS, H', ⟨Nat.le_refl _⟩, by repeat (first | exact Drawn0.refl _ | apply Drawn0.step)⟩
    case round =>
     clear H'
     try clear c2; try clear c2b0; try clear p2
     obtain ⟨x4_2, rfl, HA, HK2, ⟨m2, rfl⟩⟩ := hrel
     cases gk with
     | zero => exact absurd HA.out (by simp [scarfjointref06_Distinct.l1])
     | succ k2 =>
      have H := HA.out
      clear HA
      simp only [scarfjointref06_Distinct.l1] at H
      by_cases c3 : x4_2 < x3_1
      ·rw [if_pos c3] at H
       have c3b0 : decide (x4_2 < x3_1) = true := decide_eq_true c3
       clear c3
       by_cases c4 : 0 ≤ x3_1
       ·rw [if_pos c4] at H
        have c4b0 : decide (0 ≤ x3_1) = true := decide_eq_true c4
        clear c4
        by_cases c5 : x3_1 < (l0.length : Int)
        ·rw [if_pos c5] at H
         have c5b0 : decide (x3_1 < (l0.length : Int)) = true := decide_eq_true c5
         clear c5
         by_cases c6 : 0 ≤ x4_2
         ·rw [if_pos c6] at H
          have c6b0 : decide (0 ≤ x4_2) = true := decide_eq_true c6
          clear c6
          by_cases c7 : x4_2 < (l0.length : Int)
          ·rw [if_pos c7] at H
           have c7b0 : decide (x4_2 < (l0.length : Int)) = true := decide_eq_true c7
           clear c7
           by_cases c8 : (rd l0 x3_1) = (rd l0 x4_2)
           ·rw [if_pos c8] at H
            have c8b0 : ((rd l0 x3_1) == (rd l0 x4_2)) = true := beq_iff_eq.mpr c8
            have c8b1 : ((rd l0 x3_1) != (rd l0 x4_2)) = false := bne_eq_false_iff_eq.mpr c8
            clear c8
            obtain rfl := Option.some.inj H
            have p101 : 0 ≤ (x3_1 : Int) := oT
            have q101 : x3_1 < (l0.length : Int) := oT
            obtain ⟨ad101, e101, hx101_0⟩ := Kd.at_int HR0.out x3_1 p101 q101
            cases e101
            replace p101 := eq_true p101
            replace q101 := eq_true q101
            have p102 : 0 ≤ (x4_2 : Int) := oT
            have q102 : x4_2 < (l0.length : Int) := oT
            obtain ⟨ad102, e102, hx102_0⟩ := Kd.at_int HR0.out x4_2 p102 q102
            obtain rfl : ad101 = ad102 := (by injection e102)
            replace p102 := eq_true p102
            replace q102 := eq_true q102
            go_wp2
            repeat (go_quiet (fail); try go_wp2)
            go_ret
            exact ⟨by first | rfl | (simp; done) | (simp [*]; done), by repeat (first | exact Drawn0.refl _ | apply Drawn0.step)⟩
           ·rw [if_neg c8] at H
            have c8b0 : ((rd l0 x3_1) == (rd l0 x4_2)) = false := beq_eq_false_iff_ne.mpr c8
            have c8b1 : ((rd l0 x3_1) != (rd l0 x4_2)) = true := bne_iff_ne.mpr c8
            have H' := Aside0.mk H
            clear H
            have p101 : 0 ≤ (x3_1 : Int) := oT
            have q101 : x3_1 < (l0.length : Int) := oT
            obtain ⟨ad101, e101, hx101_0⟩ := Kd.at_int HR0.out x3_1 p101 q101
            cases e101
            replace p101 := eq_true p101
            replace q101 := eq_true q101
            have p102 : 0 ≤ (x4_2 : Int) := oT
            have q102 : x4_2 < (l0.length : Int) := oT
            obtain ⟨ad102, e102, hx102_0⟩ := Kd.at_int HR0.out x4_2 p102 q102
            obtain rfl : ad101 = ad102 := (by injection e102)
            replace p102 := eq_true p102
            replace q102 := eq_true q102
            go_wp2
            repeat (go_quiet (fail); try go_wp2)
            go_roundg k2
            case measure => have := HK1.out; have := HK2.out; omega
            case rel => exact ⟨(wrap64 (x4_2 + 1)), rS, H', ⟨by have := HK1.out; have := HK2.out; omega⟩, by repeat (first | exact Drawn0.refl _ | apply Drawn0.step)⟩
          ·rw [if_neg c7] at H
           exact absurd H (by simp)
         ·rw [if_neg c6] at H
          exact absurd H (by simp)
        ·rw [if_neg c5] at H
         exact absurd H (by simp)
       ·rw [if_neg c4] at H
        exact absurd H (by simp)
      ·rw [if_neg c3] at H
       have c3b0 : decide (x4_2 < x3_1) = false := decide_eq_false c3
       clear c3
       have H' := Aside0.mk H
       clear H
       go_wp2
       repeat (go_quiet (fail); try go_wp2)
       go_roundg k2
       case measure => have := HK1.out; have := HK2.out; omega
       case rel => exact ⟨(wrap64 (x3_1 + 1)), rS, H', ⟨by have := HK1.out; have := HK2.out; omega⟩, by repeat (first | exact Drawn0.refl _ | apply Drawn0.step)⟩
   ·rw [if_neg c2] at H
    have c2b0 : decide (x3_1 < (l0.length : Int)) = false := decide_eq_false c2
    clear c2
    obtain rfl := Option.some.inj H
    go_wp2
    repeat (go_quiet (fail); try go_wp2)
    go_ret
    exact ⟨by first | rfl | (simp; done) | (simp [*]; done), by repeat (first | exact Drawn0.refl _ | apply Drawn0.step)⟩
end Go.Proofs.Ytillofiphkmjjaa.X

namespace Go.Proofs.Ytillofiphkmjjaa.X
open Go.RowKit Go.Proofs.YtillofiphkmjjaaW.PrintWords Go.Proofs.YtillofiphkmjjaaW.PrintLast Go.Proofs.YtillofiphkmjjaaW.PrintMore
open Go.Proofs.YtillofiphkmjjaaW.PrintWords renaming blk_drewN → bN, blk_drew → bD, blk_alloc → bA, below_alloc → wA, pw_below_drewN → wN, below_drew1 → wD, blk_below → bB, below_step → wS, blk_at → bT, blk_grown → bG
open Go.Proofs.YtillofiphkmjjaaW.PrintWords.Kd renaming R_alloc → rA, R_drewN → rN, R_drew → rD, R_below → rB, R_grown → rG, C_below → cB, C_alloc → cA, C_drewN → cN, C_drew → cD
attribute [local go_sem] max2_int min2_int max_two min_two max_three min_three max_four min_four
set_option linter.unusedVariables false
set_option linter.unusedSimpArgs false
/-! ### scarfjointref06_Injective: function 25 -/
def scarfjointref06_Injective.f (k : Nat) (l0_0 : List Int) (l0_1 : List (S94)) (l1_0 : List Int) (l1_1 : List (S94)) (l2_0 : List Int) (l2_1 : List Int) : Option (Bool) := (scarfjointref06_Valid.f l0_0 l0_1 l1_0 l1_1 l2_0 l2_1).bind fun t104 => (if t104 = 0 then ((scarfjointref06_Distinct.f k l2_0).bind fun t105 => (if t105 = true then ((scarfjointref06_Distinct.f k l2_1).bind fun t106 => (some t106)) else (some false))) else (some false))
theorem scarfjointref06_Injective.mono : ∀ a0 a1 a2 a3 a4 a5 k, LeO (scarfjointref06_Injective.f k a0 a1 a2 a3 a4 a5) (scarfjointref06_Injective.f (k + 1) a0 a1 a2 a3 a4 a5) := by
 intro a0 a1 a2 a3 a4 a5 k
 unfold scarfjointref06_Injective.f
 repeat' first
   | (with_reducible exact scarfjointref06_Distinct.mono _ _)
   | (with_reducible exact LeO.refl _)
   | (with_reducible exact LeO.none _)
   | (with_reducible refine LeO.ite ?_ ?_)
   | (with_reducible refine LeO.bind ?_ (fun _ => ?_))
   | exact scarfjointref06_Distinct.mono _ _
   | exact LeO.none _
   | refine LeO.ite ?_ ?_
   | refine LeO.bind ?_ (fun _ => ?_)
set_option maxHeartbeats 8000000 in
set_option maxRecDepth 100000 in
theorem scarfjointref06_Injective.calls (k : Nat) (A0_0 : Option Addr) (c0_0 : Nat) (l0_0 : List Int) (A0_1 : Option Addr) (c0_1 : Nat) (l0_1 : List (S94)) (A1_0 : Option Addr) (c1_0 : Nat) (l1_0 : List Int) (A1_1 : Option Addr) (c1_1 : Nat) (l1_1 : List (S94)) (A2_0 : Option Addr) (c2_0 : Nat) (l2_0 : List Int) (A2_1 : Option Addr) (c2_1 : Nat) (l2_1 : List Int) (r : Bool) (w : World) (hr0_0 : Kd.C (Kd.int .i64) w A0_0 l0_0.length l0_0) (hc0_0 : l0_0.length ≤ c0_0) (hr0_1 : Kd.C k94 w A0_1 l0_1.length l0_1) (hc0_1 : l0_1.length ≤ c0_1) (hr1_0 : Kd.C (Kd.int .i64) w A1_0 l1_0.length l1_0) (hc1_0 : l1_0.length ≤ c1_0) (hr1_1 : Kd.C k94 w A1_1 l1_1.length l1_1) (hc1_1 : l1_1.length ≤ c1_1) (hr2_0 : Kd.C (Kd.int .i64) w A2_0 l2_0.length l2_0) (hc2_0 : l2_0.length ≤ c2_0) (hr2_1 : Kd.C (Kd.int .i64) w A2_1 l2_1.length l2_1) (hc2_1 : l2_1.length ≤ c2_1) (h : scarfjointref06_Injective.f k l0_0 l0_1 l1_0 l1_1 l2_0 l2_1 = some r) :
  Calls Try.prog 25 #[.agg #[.slice A0_0 l0_0.length c0_0, .slice A0_1 l0_1.length c0_1], .agg #[.slice A1_0 l1_0.length c1_0, .slice A1_1 l1_1.length c1_1], .agg #[.slice A2_0 l2_0.length c2_0, .slice A2_1 l2_1.length c2_1]] w fun e w' => e = .returned (.bool r) ∧ Below w.heap.size w w' := by
 have hu25 := Try.underlying25
 have hu27 := Try.underlying27
 have HR0_0 := Aside0.mk hr0_0
 have HC0_0 := Aside0.mk hc0_0
 clear hr0_0 hc0_0
 have HR0_1 := Aside0.mk hr0_1
 have HC0_1 := Aside0.mk hc0_1
 clear hr0_1 hc0_1
 have HR1_0 := Aside0.mk hr1_0
 have HC1_0 := Aside0.mk hc1_0
 clear hr1_0 hc1_0
 have HR1_1 := Aside0.mk hr1_1
 have HC1_1 := Aside0.mk hc1_1
 clear hr1_1 hc1_1
 have HR2_0 := Aside0.mk hr2_0
 have HC2_0 := Aside0.mk hc2_0
 clear hr2_0 hc2_0
 have HR2_1 := Aside0.mk hr2_1
 have HC2_1 := Aside0.mk hc2_1
 clear hr2_1 hc2_1
 have HB := Aside0.mk (Below.refl w.heap.size w)
 have H : ((scarfjointref06_Valid.f l0_0 l0_1 l1_0 l1_1 l2_0 l2_1).bind fun t104 => (if t104 = 0 then ((scarfjointref06_Distinct.f k l2_0).bind fun t105 => (if t105 = true then ((scarfjointref06_Distinct.f k l2_1).bind fun t106 => (some t106)) else (some false))) else (some false))) = some r := h
 clear h
 replace H := Option.bind_eq_some_iff.mp H
 obtain ⟨t104, A40, H⟩ := H
 replace H : (if t104 = 0 then ((scarfjointref06_Distinct.f k l2_0).bind fun t105 => (if t105 = true then ((scarfjointref06_Distinct.f k l2_1).bind fun t106 => (some t106)) else (some false))) else (some false)) = some r := H
 have A4 := Aside0.mk A40
 clear A40
 by_cases c5 : t104 = 0
 ·rw [if_pos c5] at H
  have c5b0 : (t104 == 0) = true := beq_iff_eq.mpr c5
  have c5b1 : (t104 != 0) = false := bne_eq_false_iff_eq.mpr c5
  clear c5
  replace H := Option.bind_eq_some_iff.mp H
  obtain ⟨t105, A60, H⟩ := H
  replace H : (if t105 = true then ((scarfjointref06_Distinct.f k l2_1).bind fun t106 => (some t106)) else (some false)) = some r := H
  have A6 := Aside0.mk A60
  clear A60
  by_cases c7 : t105 = true
  ·subst c7
   have H1 : ((scarfjointref06_Distinct.f k l2_1).bind fun t106 => (some t106)) = some r := by rw [if_pos rfl] at H; exact H
   clear H
   have H := H1
   clear H1
   replace H := Option.bind_eq_some_iff.mp H
   obtain ⟨t106, A80, H⟩ := H
   replace H : (some t106) = some r := H
   have A8 := Aside0.mk A80
   clear A80
   obtain rfl := Option.some.inj H
   go_enter Try.func25, Try.ntmps25
   go_wp2_with (first | ((with_reducible refine gate_dst (N := 3) rfl ?_); refine box_event ?hg (N := 3) ?hd (cs := #[.slice A0_0 l0_0.length c0_0, .slice A0_1 l0_1.length c0_1]) (t := 25) ?hr ?_; (case hd => rfl); (case hg => rfl); (case hr => first | (go_simp; done) | (go_simp; rfl)); intro Q03 hg w9 hbox hb; have Q00 := Aside0.mk (hbox); have Q0f := Aside0.mk ((by rw [hg]; exact (below_size hB) : w.heap.size ≤ Q03)); have Q06 := Aside0.mk ((by rw [hg]; exact (below_size hB) : w.heap.size ≤ Q03)); replace HB := uH HB hb; clear hb hbox hg) | ((with_reducible refine gate_dst (N := 4) rfl ?_); refine box_event ?hg (N := 4) ?hd (cs := #[.slice A1_0 l1_0.length c1_0, .slice A1_1 l1_1.length c1_1]) (t := 25) ?hr ?_; (case hd => rfl); (case hg => rfl); (case hr => first | (go_simp; done) | (go_simp; rfl)); intro Q05 hg w10 hbox hb; have Q01 := Aside0.mk (hbox); have Q0g := uS HB hg; have Q07 := uS HB hg; replace HB := uH HB hb; have Q08 := uL Q00 hg; have Q09 := uG Q00 hg; replace Q00 := uB Q00 hb; clear hb hbox hg) | ((with_reducible refine gate_dst (N := 5) rfl ?_); refine box_event ?hg (N := 5) ?hd (cs := #[.slice A2_0 l2_0.length c2_0, .slice A2_1 l2_1.length c2_1]) (t := 27) ?hr ?_; (case hd => rfl); (case hg => rfl); (case hr => first | (go_simp; done) | (go_simp; rfl)); intro Q04 hg w11 hbox hb; have Q02 := Aside0.mk (hbox); have Q0h := uS HB hg; have Q0a := uS HB hg; replace HB := uH HB hb; have Q0b := uL Q00 hg; have Q0c := uG Q00 hg; replace Q00 := uB Q00 hb; have Q0d := uL Q01 hg; have Q0e := uG Q01 hg; replace Q01 := uB Q01 hb; clear hb hbox hg; have Q0i := Q08.out; have Q0j := Q09.out; have Q0k := Q0b.out; have Q0l := Q0c.out; have Q0m : w11.cell? ⟨Q03, 0, none⟩ = some (.slice A0_0 l0_0.length c0_0) := (blk_cell Q00.out 0).trans rfl; have Q0n : w11.cell? ⟨Q03, 1, none⟩ = some (.slice A0_1 l0_1.length c0_1) := (blk_cell Q00.out 1).trans rfl; have Q0o := blk_frozen Q00.out 0; have Q0p := blk_frozen Q00.out 1; have Q0q := Q0d.out; have Q0r := Q0e.out; have Q0s : w11.cell? ⟨Q05, 0, none⟩ = some (.slice A1_0 l1_0.length c1_0) := (blk_cell Q01.out 0).trans rfl; have Q0t : w11.cell? ⟨Q05, 1, none⟩ = some (.slice A1_1 l1_1.length c1_1) := (blk_cell Q01.out 1).trans rfl; have Q0u := blk_frozen Q01.out 0; have Q0v := blk_frozen Q01.out 1; have Q0w : w11.cell? ⟨Q04, 0, none⟩ = some (.slice A2_0 l2_0.length c2_0) := (blk_cell Q02.out 0).trans rfl; have Q0x : w11.cell? ⟨Q04, 1, none⟩ = some (.slice A2_1 l2_1.length c2_1) := (blk_cell Q02.out 1).trans rfl; have Q0y := blk_frozen Q02.out 0; have Q0z := blk_frozen Q02.out 1) | ((with_reducible refine gate_callee (f := 44) rfl ?_); refine goesL_ (some 10) rfl rfl Try.func44 (by kernel_rfl) rfl #[.agg #[.slice A0_0 l0_0.length c0_0, .slice A0_1 l0_1.length c0_1], .agg #[.slice A1_0 l1_0.length c1_0, .slice A1_1 l1_1.length c1_1], .agg #[.slice A2_0 l2_0.length c2_0, .slice A2_1 l2_1.length c2_1]] rfl aM ?_; (with_reducible refine (scarfjointref06_Valid.calls _ _ l0_0 _ _ l0_1 _ _ l1_0 _ _ l1_1 _ _ l2_0 _ _ l2_1 t104 _ ?side1 ?side2 ?side3 ?side4 ?side5 ?side6 ?side7 ?side8 ?side9 ?side10 ?side11 ?side12 A4.out).mono ?_); (case side1 => repeat (first | exact (cB HR0_0.out HB.out) | (with_reducible refine cA ?_ _) | (with_reducible refine cN ?_ _) | (with_reducible refine cD ?_))); (case side2 => exact HC0_0.out); (case side3 => repeat (first | exact (cB HR0_1.out HB.out) | (with_reducible refine cA ?_ _) | (with_reducible refine cN ?_ _) | (with_reducible refine cD ?_))); (case side4 => exact HC0_1.out); (case side5 => repeat (first | exact (cB HR1_0.out HB.out) | (with_reducible refine cA ?_ _) | (with_reducible refine cN ?_ _) | (with_reducible refine cD ?_))); (case side6 => exact HC1_0.out); (case side7 => repeat (first | exact (cB HR1_1.out HB.out) | (with_reducible refine cA ?_ _) | (with_reducible refine cN ?_ _) | (with_reducible refine cD ?_))); (case side8 => exact HC1_1.out); (case side9 => repeat (first | exact (cB HR2_0.out HB.out) | (with_reducible refine cA ?_ _) | (with_reducible refine cN ?_ _) | (with_reducible refine cD ?_))); (case side10 => exact HC2_0.out); (case side11 => repeat (first | exact (cB HR2_1.out HB.out) | (with_reducible refine cA ?_ _) | (with_reducible refine cN ?_ _) | (with_reducible refine cD ?_))); (case side12 => exact HC2_1.out); rintro e w18 ⟨rfl, hb⟩; refine ⟨_, rfl, ?_⟩; replace Q00 := uB Q00 hb; replace Q01 := uB Q01 hb; replace Q02 := uB Q02 hb; replace HB := uH HB hb; (try clear hb); (try clear hb2); (try clear hk); (try clear hi); have Q10 : w18.cell? ⟨Q04, 0, none⟩ = some (.slice A2_0 l2_0.length c2_0) := (blk_cell Q02.out 0).trans rfl; have Q11 : w18.cell? ⟨Q04, 1, none⟩ = some (.slice A2_1 l2_1.length c2_1) := (blk_cell Q02.out 1).trans rfl; have Q12 := blk_frozen Q02.out 0; have Q13 := blk_frozen Q02.out 1) | (go_at_call 57; (with_reducible refine (scarfjointref06_Distinct.calls k _ _ l2_0 true _ ?side1 ?side2 A6.out).mono ?_); (case side1 => repeat (first | exact (cB HR2_0.out HB.out) | (with_reducible refine cA ?_ _) | (with_reducible refine cN ?_ _) | (with_reducible refine cD ?_))); (case side2 => exact HC2_0.out); rintro e w' ⟨rfl, ⟨nd, rfl⟩⟩) | (go_at_call 57; (with_reducible refine (scarfjointref06_Distinct.calls k _ _ l2_1 t106 _ ?side1 ?side2 A8.out).mono ?_); (case side1 => repeat (first | exact (cB HR2_1.out (pH HB)) | (with_reducible refine cA ?_ _) | (with_reducible refine cN ?_ _) | (with_reducible refine cD ?_))); (case side2 => exact HC2_1.out); rintro e w' ⟨rfl, ⟨nd, rfl⟩⟩))
   go_ret
   exact ⟨by first | rfl | (simp [errW_none, errW_some] <;> rfl) | (simp [*, errW_none, errW_some] <;> rfl), by repeat (first | (with_reducible first | exact HB.out | apply wA | apply wN | apply wD | refine below_set ?_ Q06.out | refine below_set ?_ Q07.out | refine below_set ?_ Q0a.out) | exact HB.out)⟩
  ·replace c7 := Bool.eq_false_iff.mpr c7
   subst c7
   have H1 : (some false) = some r := by rw [if_neg (show ¬ (false = true) by decide)] at H; exact H
   clear H
   have H := H1
   clear H1
   obtain rfl := Option.some.inj H
   go_enter Try.func25, Try.ntmps25
   go_wp2_with (first | ((with_reducible refine gate_dst (N := 3) rfl ?_); refine box_event ?hg (N := 3) ?hd (cs := #[.slice A0_0 l0_0.length c0_0, .slice A0_1 l0_1.length c0_1]) (t := 25) ?hr ?_; (case hd => rfl); (case hg => rfl); (case hr => first | (go_simp; done) | (go_simp; rfl)); intro Q03 hg w20 hbox hb; have Q00 := Aside0.mk (hbox); have Q0f := Aside0.mk ((by rw [hg]; exact (below_size hB) : w.heap.size ≤ Q03)); have Q06 := Aside0.mk ((by rw [hg]; exact (below_size hB) : w.heap.size ≤ Q03)); replace HB := uH HB hb; clear hb hbox hg) | ((with_reducible refine gate_dst (N := 4) rfl ?_); refine box_event ?hg (N := 4) ?hd (cs := #[.slice A1_0 l1_0.length c1_0, .slice A1_1 l1_1.length c1_1]) (t := 25) ?hr ?_; (case hd => rfl); (case hg => rfl); (case hr => first | (go_simp; done) | (go_simp; rfl)); intro Q05 hg w21 hbox hb; have Q01 := Aside0.mk (hbox); have Q0g := uS HB hg; have Q07 := uS HB hg; replace HB := uH HB hb; have Q08 := uL Q00 hg; have Q09 := uG Q00 hg; replace Q00 := uB Q00 hb; clear hb hbox hg) | ((with_reducible refine gate_dst (N := 5) rfl ?_); refine box_event ?hg (N := 5) ?hd (cs := #[.slice A2_0 l2_0.length c2_0, .slice A2_1 l2_1.length c2_1]) (t := 27) ?hr ?_; (case hd => rfl); (case hg => rfl); (case hr => first | (go_simp; done) | (go_simp; rfl)); intro Q04 hg w22 hbox hb; have Q02 := Aside0.mk (hbox); have Q0h := uS HB hg; have Q0a := uS HB hg; replace HB := uH HB hb; have Q0b := uL Q00 hg; have Q0c := uG Q00 hg; replace Q00 := uB Q00 hb; have Q0d := uL Q01 hg; have Q0e := uG Q01 hg; replace Q01 := uB Q01 hb; clear hb hbox hg; have Q14 := Q08.out; have Q15 := Q09.out; have Q16 := Q0b.out; have Q17 := Q0c.out; have Q18 : w22.cell? ⟨Q03, 0, none⟩ = some (.slice A0_0 l0_0.length c0_0) := (blk_cell Q00.out 0).trans rfl; have Q19 : w22.cell? ⟨Q03, 1, none⟩ = some (.slice A0_1 l0_1.length c0_1) := (blk_cell Q00.out 1).trans rfl; have Q1a := blk_frozen Q00.out 0; have Q1b := blk_frozen Q00.out 1; have Q1c := Q0d.out; have Q1d := Q0e.out; have Q1e : w22.cell? ⟨Q05, 0, none⟩ = some (.slice A1_0 l1_0.length c1_0) := (blk_cell Q01.out 0).trans rfl; have Q1f : w22.cell? ⟨Q05, 1, none⟩ = some (.slice A1_1 l1_1.length c1_1) := (blk_cell Q01.out 1).trans rfl; have Q1g := blk_frozen Q01.out 0; have Q1h := blk_frozen Q01.out 1; have Q1i : w22.cell? ⟨Q04, 0, none⟩ = some (.slice A2_0 l2_0.length c2_0) := (blk_cell Q02.out 0).trans rfl; have Q1j : w22.cell? ⟨Q04, 1, none⟩ = some (.slice A2_1 l2_1.length c2_1) := (blk_cell Q02.out 1).trans rfl; have Q1k := blk_frozen Q02.out 0; have Q1l := blk_frozen Q02.out 1) | ((with_reducible refine gate_callee (f := 44) rfl ?_); refine goesL_ (some 10) rfl rfl Try.func44 (by kernel_rfl) rfl #[.agg #[.slice A0_0 l0_0.length c0_0, .slice A0_1 l0_1.length c0_1], .agg #[.slice A1_0 l1_0.length c1_0, .slice A1_1 l1_1.length c1_1], .agg #[.slice A2_0 l2_0.length c2_0, .slice A2_1 l2_1.length c2_1]] rfl aM ?_; (with_reducible refine (scarfjointref06_Valid.calls _ _ l0_0 _ _ l0_1 _ _ l1_0 _ _ l1_1 _ _ l2_0 _ _ l2_1 t104 _ ?side1 ?side2 ?side3 ?side4 ?side5 ?side6 ?side7 ?side8 ?side9 ?side10 ?side11 ?side12 A4.out).mono ?_); (case side1 => repeat (first | exact (cB HR0_0.out HB.out) | (with_reducible refine cA ?_ _) | (with_reducible refine cN ?_ _) | (with_reducible refine cD ?_))); (case side2 => exact HC0_0.out); (case side3 => repeat (first | exact (cB HR0_1.out HB.out) | (with_reducible refine cA ?_ _) | (with_reducible refine cN ?_ _) | (with_reducible refine cD ?_))); (case side4 => exact HC0_1.out); (case side5 => repeat (first | exact (cB HR1_0.out HB.out) | (with_reducible refine cA ?_ _) | (with_reducible refine cN ?_ _) | (with_reducible refine cD ?_))); (case side6 => exact HC1_0.out); (case side7 => repeat (first | exact (cB HR1_1.out HB.out) | (with_reducible refine cA ?_ _) | (with_reducible refine cN ?_ _) | (with_reducible refine cD ?_))); (case side8 => exact HC1_1.out); (case side9 => repeat (first | exact (cB HR2_0.out HB.out) | (with_reducible refine cA ?_ _) | (with_reducible refine cN ?_ _) | (with_reducible refine cD ?_))); (case side10 => exact HC2_0.out); (case side11 => repeat (first | exact (cB HR2_1.out HB.out) | (with_reducible refine cA ?_ _) | (with_reducible refine cN ?_ _) | (with_reducible refine cD ?_))); (case side12 => exact HC2_1.out); rintro e w29 ⟨rfl, hb⟩; refine ⟨_, rfl, ?_⟩; replace Q00 := uB Q00 hb; replace Q01 := uB Q01 hb; replace Q02 := uB Q02 hb; replace HB := uH HB hb; (try clear hb); (try clear hb2); (try clear hk); (try clear hi); have Q1m : w29.cell? ⟨Q04, 0, none⟩ = some (.slice A2_0 l2_0.length c2_0) := (blk_cell Q02.out 0).trans rfl; have Q1n : w29.cell? ⟨Q04, 1, none⟩ = some (.slice A2_1 l2_1.length c2_1) := (blk_cell Q02.out 1).trans rfl; have Q1o := blk_frozen Q02.out 0; have Q1p := blk_frozen Q02.out 1) | (go_at_call 57; (with_reducible refine (scarfjointref06_Distinct.calls k _ _ l2_0 false _ ?side1 ?side2 A6.out).mono ?_); (case side1 => repeat (first | exact (cB HR2_0.out HB.out) | (with_reducible refine cA ?_ _) | (with_reducible refine cN ?_ _) | (with_reducible refine cD ?_))); (case side2 => exact HC2_0.out); rintro e w' ⟨rfl, ⟨nd, rfl⟩⟩))
   go_ret
   exact ⟨by first | rfl | (simp [errW_none, errW_some] <;> rfl) | (simp [*, errW_none, errW_some] <;> rfl), by repeat (first | (with_reducible first | exact HB.out | apply wA | apply wN | apply wD | refine below_set ?_ Q06.out | refine below_set ?_ Q07.out | refine below_set ?_ Q0a.out) | exact HB.out)⟩
 ·rw [if_neg c5] at H
  have c5b0 : (t104 == 0) = false := beq_eq_false_iff_ne.mpr c5
  have c5b1 : (t104 != 0) = true := bne_iff_ne.mpr c5
  obtain rfl := Option.some.inj H
  go_enter Try.func25, Try.ntmps25
  go_wp2_with (first | ((with_reducible refine gate_dst (N := 3) rfl ?_); refine box_event ?hg (N := 3) ?hd (cs := #[.slice A0_0 l0_0.length c0_0, .slice A0_1 l0_1.length c0_1]) (t := 25) ?hr ?_; (case hd => rfl); (case hg => rfl); (case hr => first | (go_simp; done) | (go_simp; rfl)); intro Q03 hg w31 hbox hb; have Q00 := Aside0.mk (hbox); have Q0f := Aside0.mk ((by rw [hg]; exact (below_size hB) : w.heap.size ≤ Q03)); have Q06 := Aside0.mk ((by rw [hg]; exact (below_size hB) : w.heap.size ≤ Q03)); replace HB := uH HB hb; clear hb hbox hg) | ((with_reducible refine gate_dst (N := 4) rfl ?_); refine box_event ?hg (N := 4) ?hd (cs := #[.slice A1_0 l1_0.length c1_0, .slice A1_1 l1_1.length c1_1]) (t := 25) ?hr ?_; (case hd => rfl); (case hg => rfl); (case hr => first | (go_simp; done) | (go_simp; rfl)); intro Q05 hg w32 hbox hb; have Q01 := Aside0.mk (hbox); have Q0g := uS HB hg; have Q07 := uS HB hg; replace HB := uH HB hb; have Q08 := uL Q00 hg; have Q09 := uG Q00 hg; replace Q00 := uB Q00 hb; clear hb hbox hg) | ((with_reducible refine gate_dst (N := 5) rfl ?_); refine box_event ?hg (N := 5) ?hd (cs := #[.slice A2_0 l2_0.length c2_0, .slice A2_1 l2_1.length c2_1]) (t := 27) ?hr ?_; (case hd => rfl); (case hg => rfl); (case hr => first | (go_simp; done) | (go_simp; rfl)); intro Q04 hg w33 hbox hb; have Q02 := Aside0.mk (hbox); have Q0h := uS HB hg; have Q0a := uS HB hg; replace HB := uH HB hb; have Q0b := uL Q00 hg; have Q0c := uG Q00 hg; replace Q00 := uB Q00 hb; have Q0d := uL Q01 hg; have Q0e := uG Q01 hg; replace Q01 := uB Q01 hb; clear hb hbox hg; have Q1q := Q08.out; have Q1r := Q09.out; have Q1s := Q0b.out; have Q1t := Q0c.out; have Q1u : w33.cell? ⟨Q03, 0, none⟩ = some (.slice A0_0 l0_0.length c0_0) := (blk_cell Q00.out 0).trans rfl; have Q1v : w33.cell? ⟨Q03, 1, none⟩ = some (.slice A0_1 l0_1.length c0_1) := (blk_cell Q00.out 1).trans rfl; have Q1w := blk_frozen Q00.out 0; have Q1x := blk_frozen Q00.out 1; have Q1y := Q0d.out; have Q1z := Q0e.out; have Q20 : w33.cell? ⟨Q05, 0, none⟩ = some (.slice A1_0 l1_0.length c1_0) := (blk_cell Q01.out 0).trans rfl; have Q21 : w33.cell? ⟨Q05, 1, none⟩ = some (.slice A1_1 l1_1.length c1_1) := (blk_cell Q01.out 1).trans rfl; have Q22 := blk_frozen Q01.out 0; have Q23 := blk_frozen Q01.out 1; have Q24 : w33.cell? ⟨Q04, 0, none⟩ = some (.slice A2_0 l2_0.length c2_0) := (blk_cell Q02.out 0).trans rfl; have Q25 : w33.cell? ⟨Q04, 1, none⟩ = some (.slice A2_1 l2_1.length c2_1) := (blk_cell Q02.out 1).trans rfl; have Q26 := blk_frozen Q02.out 0; have Q27 := blk_frozen Q02.out 1) | ((with_reducible refine gate_callee (f := 44) rfl ?_); refine goesL_ (some 10) rfl rfl Try.func44 (by kernel_rfl) rfl #[.agg #[.slice A0_0 l0_0.length c0_0, .slice A0_1 l0_1.length c0_1], .agg #[.slice A1_0 l1_0.length c1_0, .slice A1_1 l1_1.length c1_1], .agg #[.slice A2_0 l2_0.length c2_0, .slice A2_1 l2_1.length c2_1]] rfl aM ?_; (with_reducible refine (scarfjointref06_Valid.calls _ _ l0_0 _ _ l0_1 _ _ l1_0 _ _ l1_1 _ _ l2_0 _ _ l2_1 t104 _ ?side1 ?side2 ?side3 ?side4 ?side5 ?side6 ?side7 ?side8 ?side9 ?side10 ?side11 ?side12 A4.out).mono ?_); (case side1 => repeat (first | exact (cB HR0_0.out HB.out) | (with_reducible refine cA ?_ _) | (with_reducible refine cN ?_ _) | (with_reducible refine cD ?_))); (case side2 => exact HC0_0.out); (case side3 => repeat (first | exact (cB HR0_1.out HB.out) | (with_reducible refine cA ?_ _) | (with_reducible refine cN ?_ _) | (with_reducible refine cD ?_))); (case side4 => exact HC0_1.out); (case side5 => repeat (first | exact (cB HR1_0.out HB.out) | (with_reducible refine cA ?_ _) | (with_reducible refine cN ?_ _) | (with_reducible refine cD ?_))); (case side6 => exact HC1_0.out); (case side7 => repeat (first | exact (cB HR1_1.out HB.out) | (with_reducible refine cA ?_ _) | (with_reducible refine cN ?_ _) | (with_reducible refine cD ?_))); (case side8 => exact HC1_1.out); (case side9 => repeat (first | exact (cB HR2_0.out HB.out) | (with_reducible refine cA ?_ _) | (with_reducible refine cN ?_ _) | (with_reducible refine cD ?_))); (case side10 => exact HC2_0.out); (case side11 => repeat (first | exact (cB HR2_1.out HB.out) | (with_reducible refine cA ?_ _) | (with_reducible refine cN ?_ _) | (with_reducible refine cD ?_))); (case side12 => exact HC2_1.out); rintro e w40 ⟨rfl, hb⟩; refine ⟨_, rfl, ?_⟩; replace Q00 := uB Q00 hb; replace Q01 := uB Q01 hb; replace Q02 := uB Q02 hb; replace HB := uH HB hb; (try clear hb); (try clear hb2); (try clear hk); (try clear hi)))
  go_ret
  exact ⟨by first | rfl | (simp [errW_none, errW_some] <;> rfl) | (simp [*, errW_none, errW_some] <;> rfl), by repeat (first | (with_reducible first | exact HB.out | apply wA | apply wN | apply wD | refine below_set ?_ Q06.out | refine below_set ?_ Q07.out | refine below_set ?_ Q0a.out) | exact HB.out)⟩
end Go.Proofs.Ytillofiphkmjjaa.X

namespace Go.Proofs.Ytillofiphkmjjaa.X
open Go.RowKit Go.Proofs.YtillofiphkmjjaaW.PrintWords Go.Proofs.YtillofiphkmjjaaW.PrintLast Go.Proofs.YtillofiphkmjjaaW.PrintMore
open Go.Proofs.YtillofiphkmjjaaW.PrintWords renaming blk_drewN → bN, blk_drew → bD, blk_alloc → bA, below_alloc → wA, pw_below_drewN → wN, below_drew1 → wD, blk_below → bB, below_step → wS, blk_at → bT, blk_grown → bG
open Go.Proofs.YtillofiphkmjjaaW.PrintWords.Kd renaming R_alloc → rA, R_drewN → rN, R_drew → rD, R_below → rB, R_grown → rG, C_below → cB, C_alloc → cA, C_drewN → cN, C_drew → cD
attribute [local go_sem] max2_int min2_int max_two min_two max_three min_three max_four min_four
set_option linter.unusedVariables false
set_option linter.unusedSimpArgs false
/-! ### scarfjointref07_Same: function 28 -/
def scarfjointref07_Same.f (k : Nat) (l0_0 : List Int) (l0_1 : List Int) (l1_0 : List Int) (l1_1 : List Int) : Option (Bool) := (scarfjointref05_SameInts.f k l0_0 l1_0).bind fun t103 => (if t103 = true then ((scarfjointref05_SameInts.f k l0_1 l1_1).bind fun t104 => (some t104)) else (some false))
theorem scarfjointref07_Same.mono : ∀ a0 a1 a2 a3 k, LeO (scarfjointref07_Same.f k a0 a1 a2 a3) (scarfjointref07_Same.f (k + 1) a0 a1 a2 a3) := by
 intro a0 a1 a2 a3 k
 unfold scarfjointref07_Same.f
 repeat' first
   | (with_reducible exact scarfjointref05_SameInts.mono _ _ _)
   | (with_reducible exact LeO.refl _)
   | (with_reducible exact LeO.none _)
   | (with_reducible refine LeO.ite ?_ ?_)
   | (with_reducible refine LeO.bind ?_ (fun _ => ?_))
   | exact scarfjointref05_SameInts.mono _ _ _
   | exact LeO.none _
   | refine LeO.ite ?_ ?_
   | refine LeO.bind ?_ (fun _ => ?_)
set_option maxHeartbeats 8000000 in
set_option maxRecDepth 100000 in
theorem scarfjointref07_Same.calls (k : Nat) (A0_0 : Option Addr) (c0_0 : Nat) (l0_0 : List Int) (A0_1 : Option Addr) (c0_1 : Nat) (l0_1 : List Int) (A1_0 : Option Addr) (c1_0 : Nat) (l1_0 : List Int) (A1_1 : Option Addr) (c1_1 : Nat) (l1_1 : List Int) (r : Bool) (w : World) (hr0_0 : Kd.C (Kd.int .i64) w A0_0 l0_0.length l0_0) (hc0_0 : l0_0.length ≤ c0_0) (hr0_1 : Kd.C (Kd.int .i64) w A0_1 l0_1.length l0_1) (hc0_1 : l0_1.length ≤ c0_1) (hr1_0 : Kd.C (Kd.int .i64) w A1_0 l1_0.length l1_0) (hc1_0 : l1_0.length ≤ c1_0) (hr1_1 : Kd.C (Kd.int .i64) w A1_1 l1_1.length l1_1) (hc1_1 : l1_1.length ≤ c1_1) (h : scarfjointref07_Same.f k l0_0 l0_1 l1_0 l1_1 = some r) :
  Calls Try.prog 28 #[.agg #[.slice A0_0 l0_0.length c0_0, .slice A0_1 l0_1.length c0_1], .agg #[.slice A1_0 l1_0.length c1_0, .slice A1_1 l1_1.length c1_1]] w fun e w' => e = .returned (.bool r) ∧ Below w.heap.size w w' := by
 have hu60 := Try.underlying60
 have HR0_0 := Aside0.mk hr0_0
 have HC0_0 := Aside0.mk hc0_0
 clear hr0_0 hc0_0
 have HR0_1 := Aside0.mk hr0_1
 have HC0_1 := Aside0.mk hc0_1
 clear hr0_1 hc0_1
 have HR1_0 := Aside0.mk hr1_0
 have HC1_0 := Aside0.mk hc1_0
 clear hr1_0 hc1_0
 have HR1_1 := Aside0.mk hr1_1
 have HC1_1 := Aside0.mk hc1_1
 clear hr1_1 hc1_1
 have HB := Aside0.mk (Below.refl w.heap.size w)
 have H : ((scarfjointref05_SameInts.f k l0_0 l1_0).bind fun t103 => (if t103 = true then ((scarfjointref05_SameInts.f k l0_1 l1_1).bind fun t104 => (some t104)) else (some false))) = some r := h
 clear h
 replace H := Option.bind_eq_some_iff.mp H
 obtain ⟨t103, A30, H⟩ := H
 replace H : (if t103 = true then ((scarfjointref05_SameInts.f k l0_1 l1_1).bind fun t104 => (some t104)) else (some false)) = some r := H
 have A3 := Aside0.mk A30
 clear A30
 by_cases c4 : t103 = true
 ·subst c4
  have H1 : ((scarfjointref05_SameInts.f k l0_1 l1_1).bind fun t104 => (some t104)) = some r := by rw [if_pos rfl] at H; exact H
  clear H
  have H := H1
  clear H1
  replace H := Option.bind_eq_some_iff.mp H
  obtain ⟨t104, A50, H⟩ := H
  replace H : (some t104) = some r := H
  have A5 := Aside0.mk A50
  clear A50
  obtain rfl := Option.some.inj H
  go_enter Try.func28, Try.ntmps28
  go_wp2_with (first | ((with_reducible refine gate_dst (N := 2) rfl ?_); refine box_event ?hg (N := 2) ?hd (cs := #[.slice A0_0 l0_0.length c0_0, .slice A0_1 l0_1.length c0_1]) (t := 60) ?hr ?_; (case hd => rfl); (case hg => rfl); (case hr => first | (go_simp; done) | (go_simp; rfl)); intro Q01 hg w6 hbox hb; have Q00 := Aside0.mk (hbox); have Q08 := Aside0.mk ((by rw [hg]; exact (below_size hB) : w.heap.size ≤ Q01)); have Q04 := Aside0.mk ((by rw [hg]; exact (below_size hB) : w.heap.size ≤ Q01)); replace HB := uH HB hb; clear hb hbox hg) | ((with_reducible refine gate_dst (N := 3) rfl ?_); refine box_event ?hg (N := 3) ?hd (cs := #[.slice A1_0 l1_0.length c1_0, .slice A1_1 l1_1.length c1_1]) (t := 60) ?hr ?_; (case hd => rfl); (case hg => rfl); (case hr => first | (go_simp; done) | (go_simp; rfl)); intro Q03 hg w7 hbox hb; have Q02 := Aside0.mk (hbox); have Q09 := uS HB hg; have Q05 := uS HB hg; replace HB := uH HB hb; have Q06 := uL Q00 hg; have Q07 := uG Q00 hg; replace Q00 := uB Q00 hb; clear hb hbox hg; have Q0a := Q06.out; have Q0b := Q07.out; have Q0c : w7.cell? ⟨Q01, 0, none⟩ = some (.slice A0_0 l0_0.length c0_0) := (blk_cell Q00.out 0).trans rfl; have Q0d : w7.cell? ⟨Q01, 1, none⟩ = some (.slice A0_1 l0_1.length c0_1) := (blk_cell Q00.out 1).trans rfl; have Q0e := blk_frozen Q00.out 0; have Q0f := blk_frozen Q00.out 1; have Q0g : w7.cell? ⟨Q03, 0, none⟩ = some (.slice A1_0 l1_0.length c1_0) := (blk_cell Q02.out 0).trans rfl; have Q0h : w7.cell? ⟨Q03, 1, none⟩ = some (.slice A1_1 l1_1.length c1_1) := (blk_cell Q02.out 1).trans rfl; have Q0i := blk_frozen Q02.out 0; have Q0j := blk_frozen Q02.out 1) | ((with_reducible refine gate_callee (f := 61) rfl ?_); refine goesL_ (some 9) rfl rfl Try.func61 (by kernel_rfl) rfl #[.slice A0_0 l0_0.length c0_0, .slice A1_0 l1_0.length c1_0] rfl aM ?_; (with_reducible refine (scarfjointref05_SameInts.calls k _ _ l0_0 _ _ l1_0 true _ ?side1 ?side2 ?side3 ?side4 A3.out).mono ?_); (case side1 => repeat (first | exact (cB HR0_0.out HB.out) | (with_reducible refine cA ?_ _) | (with_reducible refine cN ?_ _) | (with_reducible refine cD ?_))); (case side2 => exact HC0_0.out); (case side3 => repeat (first | exact (cB HR1_0.out HB.out) | (with_reducible refine cA ?_ _) | (with_reducible refine cN ?_ _) | (with_reducible refine cD ?_))); (case side4 => exact HC1_0.out); rintro e w' ⟨rfl, ⟨nd, rfl⟩⟩; refine ⟨_, rfl, ?_⟩) | (go_at_call 61; (with_reducible refine (scarfjointref05_SameInts.calls k _ _ l0_1 _ _ l1_1 t104 _ ?side1 ?side2 ?side3 ?side4 A5.out).mono ?_); (case side1 => repeat (first | exact (cB HR0_1.out (pH HB)) | (with_reducible refine cA ?_ _) | (with_reducible refine cN ?_ _) | (with_reducible refine cD ?_))); (case side2 => exact HC0_1.out); (case side3 => repeat (first | exact (cB HR1_1.out (pH HB)) | (with_reducible refine cA ?_ _) | (with_reducible refine cN ?_ _) | (with_reducible refine cD ?_))); (case side4 => exact HC1_1.out); rintro e w' ⟨rfl, ⟨nd, rfl⟩⟩))
  go_ret
  exact ⟨by first | rfl | (simp [errW_none, errW_some] <;> rfl) | (simp [*, errW_none, errW_some] <;> rfl), by repeat (first | (with_reducible first | exact HB.out | apply wA | apply wN | apply wD | refine below_set ?_ Q04.out | refine below_set ?_ Q05.out) | exact HB.out)⟩
 ·replace c4 := Bool.eq_false_iff.mpr c4
  subst c4
  have H1 : (some false) = some r := by rw [if_neg (show ¬ (false = true) by decide)] at H; exact H
  clear H
  have H := H1
  clear H1
  obtain rfl := Option.some.inj H
  go_enter Try.func28, Try.ntmps28
  go_wp2_with (first | ((with_reducible refine gate_dst (N := 2) rfl ?_); refine box_event ?hg (N := 2) ?hd (cs := #[.slice A0_0 l0_0.length c0_0, .slice A0_1 l0_1.length c0_1]) (t := 60) ?hr ?_; (case hd => rfl); (case hg => rfl); (case hr => first | (go_simp; done) | (go_simp; rfl)); intro Q01 hg w11 hbox hb; have Q00 := Aside0.mk (hbox); have Q08 := Aside0.mk ((by rw [hg]; exact (below_size hB) : w.heap.size ≤ Q01)); have Q04 := Aside0.mk ((by rw [hg]; exact (below_size hB) : w.heap.size ≤ Q01)); replace HB := uH HB hb; clear hb hbox hg) | ((with_reducible refine gate_dst (N := 3) rfl ?_); refine box_event ?hg (N := 3) ?hd (cs := #[.slice A1_0 l1_0.length c1_0, .slice A1_1 l1_1.length c1_1]) (t := 60) ?hr ?_; (case hd => rfl); (case hg => rfl); (case hr => first | (go_simp; done) | (go_simp; rfl)); intro Q03 hg w12 hbox hb; have Q02 := Aside0.mk (hbox); have Q09 := uS HB hg; have Q05 := uS HB hg; replace HB := uH HB hb; have Q06 := uL Q00 hg; have Q07 := uG Q00 hg; replace Q00 := uB Q00 hb; clear hb hbox hg; have Q0k := Q06.out; have Q0l := Q07.out; have Q0m : w12.cell? ⟨Q01, 0, none⟩ = some (.slice A0_0 l0_0.length c0_0) := (blk_cell Q00.out 0).trans rfl; have Q0n : w12.cell? ⟨Q01, 1, none⟩ = some (.slice A0_1 l0_1.length c0_1) := (blk_cell Q00.out 1).trans rfl; have Q0o := blk_frozen Q00.out 0; have Q0p := blk_frozen Q00.out 1; have Q0q : w12.cell? ⟨Q03, 0, none⟩ = some (.slice A1_0 l1_0.length c1_0) := (blk_cell Q02.out 0).trans rfl; have Q0r : w12.cell? ⟨Q03, 1, none⟩ = some (.slice A1_1 l1_1.length c1_1) := (blk_cell Q02.out 1).trans rfl; have Q0s := blk_frozen Q02.out 0; have Q0t := blk_frozen Q02.out 1) | ((with_reducible refine gate_callee (f := 61) rfl ?_); refine goesL_ (some 9) rfl rfl Try.func61 (by kernel_rfl) rfl #[.slice A0_0 l0_0.length c0_0, .slice A1_0 l1_0.length c1_0] rfl aM ?_; (with_reducible refine (scarfjointref05_SameInts.calls k _ _ l0_0 _ _ l1_0 false _ ?side1 ?side2 ?side3 ?side4 A3.out).mono ?_); (case side1 => repeat (first | exact (cB HR0_0.out HB.out) | (with_reducible refine cA ?_ _) | (with_reducible refine cN ?_ _) | (with_reducible refine cD ?_))); (case side2 => exact HC0_0.out); (case side3 => repeat (first | exact (cB HR1_0.out HB.out) | (with_reducible refine cA ?_ _) | (with_reducible refine cN ?_ _) | (with_reducible refine cD ?_))); (case side4 => exact HC1_0.out); rintro e w' ⟨rfl, ⟨nd, rfl⟩⟩; refine ⟨_, rfl, ?_⟩))
  go_ret
  exact ⟨by first | rfl | (simp [errW_none, errW_some] <;> rfl) | (simp [*, errW_none, errW_some] <;> rfl), by repeat (first | (with_reducible first | exact HB.out | apply wA | apply wN | apply wD | refine below_set ?_ Q04.out | refine below_set ?_ Q05.out) | exact HB.out)⟩
end Go.Proofs.Ytillofiphkmjjaa.X

namespace Go.Proofs.Ytillofiphkmjjaa.X
open Go.RowKit Go.Proofs.YtillofiphkmjjaaW.PrintWords Go.Proofs.YtillofiphkmjjaaW.PrintLast Go.Proofs.YtillofiphkmjjaaW.PrintMore
open Go.Proofs.YtillofiphkmjjaaW.PrintWords renaming blk_drewN → bN, blk_drew → bD, blk_alloc → bA, below_alloc → wA, pw_below_drewN → wN, below_drew1 → wD, blk_below → bB, below_step → wS, blk_at → bT, blk_grown → bG
open Go.Proofs.YtillofiphkmjjaaW.PrintWords.Kd renaming R_alloc → rA, R_drewN → rN, R_drew → rD, R_below → rB, R_grown → rG, C_below → cB, C_alloc → cA, C_drewN → cN, C_drew → cD
attribute [local go_sem] max2_int min2_int max_two min_two max_three min_three max_four min_four
set_option linter.unusedVariables false
set_option linter.unusedSimpArgs false
/-! ### scarfjointref06_Few: function 30 -/
def scarfjointref06_Few.f (l0_0 : List Int) (l0_1 : List Int) (a1 : Int) : Option (Bool) := some (decide ((wrap64 ((l0_0.length : Int) + (l0_1.length : Int))) ≤ a1))
set_option maxHeartbeats 8000000 in
set_option maxRecDepth 100000 in
theorem scarfjointref06_Few.calls (A0_0 : Option Addr) (c0_0 : Nat) (l0_0 : List Int) (A0_1 : Option Addr) (c0_1 : Nat) (l0_1 : List Int) (a1 : Int) (r : Bool) (w : World) (hr0_0 : Kd.C (Kd.int .i64) w A0_0 l0_0.length l0_0) (hc0_0 : l0_0.length ≤ c0_0) (hr0_1 : Kd.C (Kd.int .i64) w A0_1 l0_1.length l0_1) (hc0_1 : l0_1.length ≤ c0_1) (h : scarfjointref06_Few.f l0_0 l0_1 a1 = some r) :
  Calls Try.prog 30 #[.agg #[.slice A0_0 l0_0.length c0_0, .slice A0_1 l0_1.length c0_1], .int .i64 a1] w fun e w' => e = .returned (.bool r) ∧ Below w.heap.size w w' := by
 have hu27 := Try.underlying27
 have HR0_0 := Aside0.mk hr0_0
 have HC0_0 := Aside0.mk hc0_0
 clear hr0_0 hc0_0
 have HR0_1 := Aside0.mk hr0_1
 have HC0_1 := Aside0.mk hc0_1
 clear hr0_1 hc0_1
 have HB := Aside0.mk (Below.refl w.heap.size w)
 have H : (some (decide ((wrap64 ((l0_0.length : Int) + (l0_1.length : Int))) ≤ a1))) = some r := h
 clear h
 obtain rfl := Option.some.inj H
 go_enter Try.func30, Try.ntmps30
 go_wp2_with (first | ((with_reducible refine gate_dst (N := 2) rfl ?_); refine box_event ?hg (N := 2) ?hd (cs := #[.slice A0_0 l0_0.length c0_0, .slice A0_1 l0_1.length c0_1]) (t := 27) ?hr ?_; (case hd => rfl); (case hg => rfl); (case hr => first | (go_simp; done) | (go_simp; rfl)); intro Q00 hg w3 hbox hb; have Q01 := Aside0.mk (hbox); have Q03 := Aside0.mk ((by rw [hg]; exact (below_size hB) : w.heap.size ≤ Q00)); have Q02 := Aside0.mk ((by rw [hg]; exact (below_size hB) : w.heap.size ≤ Q00)); replace HB := uH HB hb; clear hb hbox hg; have Q04 : w3.cell? ⟨Q00, 0, none⟩ = some (.slice A0_0 l0_0.length c0_0) := (blk_cell Q01.out 0).trans rfl; have Q05 : w3.cell? ⟨Q00, 1, none⟩ = some (.slice A0_1 l0_1.length c0_1) := (blk_cell Q01.out 1).trans rfl; have Q06 := blk_frozen Q01.out 0; have Q07 := blk_frozen Q01.out 1))
 go_ret
 exact ⟨by first | rfl | (simp [errW_none, errW_some] <;> rfl) | (simp [*, errW_none, errW_some] <;> rfl), by repeat (first | (with_reducible first | exact HB.out | apply wA | apply wN | apply wD | refine below_set ?_ Q02.out) | exact HB.out)⟩
end Go.Proofs.Ytillofiphkmjjaa.X

namespace Go.Proofs.Ytillofiphkmjjaa.X
open Go.RowKit Go.Proofs.YtillofiphkmjjaaW.PrintWords Go.Proofs.YtillofiphkmjjaaW.PrintLast Go.Proofs.YtillofiphkmjjaaW.PrintMore
open Go.Proofs.YtillofiphkmjjaaW.PrintWords renaming blk_drewN → bN, blk_drew → bD, blk_alloc → bA, below_alloc → wA, pw_below_drewN → wN, below_drew1 → wD, blk_below → bB, below_step → wS, blk_at → bT, blk_grown → bG
open Go.Proofs.YtillofiphkmjjaaW.PrintWords.Kd renaming R_alloc → rA, R_drewN → rN, R_drew → rD, R_below → rB, R_grown → rG, C_below → cB, C_alloc → cA, C_drewN → cN, C_drew → cD
attribute [local go_sem] max2_int min2_int max_two min_two max_three min_three max_four min_four
set_option linter.unusedVariables false
set_option linter.unusedSimpArgs false
/-! ### pullback_equal: function 62 -/
def pullback_equal.l0 : Nat → List Int → List Int → List Int → Int → Int → Option (List Int)
 | 0, _, _, _, _, _ => none
 | k + 1, x0, x1, x5, x8, x9 => if x9 < x8 then (if 0 ≤ x9 then (if x9 < (x0.length : Int) then (if x9 < (x1.length : Int) then (if (rd x0 x9) = (rd x1 x9) then (if x5.length < 17592186044416 then (pullback_equal.l0 k x0 x1 (x5 ++ [x9]) x8 (wrap64 (x9 + 1))) else (none)) else (pullback_equal.l0 k x0 x1 x5 x8 (wrap64 (x9 + 1)))) else (none)) else (none)) else (none)) else (some x5)
def pullback_equal.f (k : Nat) (l0 : List Int) (l1 : List Int) : Option (List Int) := pullback_equal.l0 k l0 l1 ([] : List Int) (l0.length : Int) 0
theorem pullback_equal.mono_l : ∀ k, (∀ y0 y1 y2 y3 y4, LeO (pullback_equal.l0 k y0 y1 y2 y3 y4) (pullback_equal.l0 (k + 1) y0 y1 y2 y3 y4))
 | 0 => fun _ _ _ _ _ r h => by simp [pullback_equal.l0] at h
 | k + 1 => by
  have ih0 := pullback_equal.mono_l k
  ·intro y0 y1 y2 y3 y4
   unfold pullback_equal.l0
   repeat' first
   | (with_reducible exact ih0 _ _ _ _ _)
   | (with_reducible exact LeO.refl _)
   | (with_reducible exact LeO.none _)
   | (with_reducible refine LeO.ite ?_ ?_)
   | (with_reducible refine LeO.bind ?_ (fun _ => ?_))
   | exact ih0 _ _ _ _ _
   | exact LeO.none _
   | refine LeO.ite ?_ ?_
   | refine LeO.bind ?_ (fun _ => ?_)
theorem pullback_equal.mono : ∀ a0 a1 k, LeO (pullback_equal.f k a0 a1) (pullback_equal.f (k + 1) a0 a1) := by
 intro a0 a1 k
 have ih0 := pullback_equal.mono_l k
 unfold pullback_equal.f
 repeat' first
   | (with_reducible exact ih0 _ _ _ _ _)
   | (with_reducible exact LeO.refl _)
   | (with_reducible exact LeO.none _)
   | (with_reducible refine LeO.ite ?_ ?_)
   | (with_reducible refine LeO.bind ?_ (fun _ => ?_))
   | exact ih0 _ _ _ _ _
   | exact LeO.none _
   | refine LeO.ite ?_ ?_
   | refine LeO.bind ?_ (fun _ => ?_)
set_option maxHeartbeats 8000000 in
set_option maxRecDepth 100000 in
theorem pullback_equal.calls (k : Nat) (A0 : Option Addr) (c0 : Nat) (l0 : List Int) (A1 : Option Addr) (c1 : Nat) (l1 : List Int) (r : List Int) (w : World) (hr0 : Kd.C (Kd.int .i64) w A0 l0.length l0) (hc0 : l0.length ≤ c0) (hr1 : Kd.C (Kd.int .i64) w A1 l1.length l1) (hc1 : l1.length ≤ c1) (h : pullback_equal.f k l0 l1 = some r) :
  Calls Try.prog 62 #[.slice A0 l0.length c0, .slice A1 l1.length c1] w fun e w' => ∃ v0_ : Value, e = .returned (v0_) ∧ Kd.R (Kd.int .i64) 3 w' w.heap.size (fun _ => True) v0_ r ∧ Below w.heap.size w w' := by
 have HR0 := Aside0.mk hr0
 have HC0 := Aside0.mk hc0
 clear hr0 hc0
 have HR1 := Aside0.mk hr1
 have HC1 := Aside0.mk hc1
 clear hr1 hc1
 have HB := Aside0.mk (Below.refl w.heap.size w)
 have H : (pullback_equal.l0 k l0 l1 ([] : List Int) (l0.length : Int) 0) = some r := h
 clear h
 have H' := Aside0.mk H
 clear H
 go_enter Try.func62, Try.ntmps62
 go_wp2
 repeat (go_quiet (fail); try go_wp2)
 go_loopg [5, 9] k (fun kq v5 v9 w' => ∃ (x5_1 : List Int) (x9_1 : Int), v9 = .int .i64 x9_1 ∧ Aside0 (pullback_equal.l0 kq l0 l1 x5_1 (l0.length : Int) x9_1 = some r) ∧ Aside0 (kq ≤ k) ∧ Aside0 (Kd.R (Kd.int .i64) 3 w' w.heap.size (fun _ => True) v5 x5_1) ∧ Aside0 (Below w.heap.size w w'))
 case atStart => exact ⟨(([] : List Int)), (0), rS, H', ⟨Nat.le_refl _⟩, ⟨by first | exact Kd.R_nil _ _ _ _ _ | exact Kd.N_nil _ _ _ _ _ | exact Kd.V_nil _ _ _ _ _ | exact Kd.Q_nil _ _ _ _ _ | exact Kd.S_nil _ _ _ _ _⟩, ⟨pH HB⟩⟩
 case round =>
  clear H'
  try clear c1; try clear p2
  obtain ⟨x5_1, x9_1, rfl, HA, HK1, Q00, HB⟩ := hrel
  cases gk with
  | zero => exact absurd HA.out (by simp [pullback_equal.l0])
  | succ k1 =>
   have H := HA.out
   clear HA
   simp only [pullback_equal.l0] at H
   by_cases c3 : x9_1 < (l0.length : Int)
   ·rw [if_pos c3] at H
    have c3b0 : decide (x9_1 < (l0.length : Int)) = true := decide_eq_true c3
    clear c3
    by_cases c4 : 0 ≤ x9_1
    ·rw [if_pos c4] at H
     have c4b0 : decide (0 ≤ x9_1) = true := decide_eq_true c4
     clear c4
     by_cases c5 : x9_1 < (l0.length : Int)
     ·rw [if_pos c5] at H
      have c5b0 : decide (x9_1 < (l0.length : Int)) = true := decide_eq_true c5
      clear c5
      by_cases c6 : x9_1 < (l1.length : Int)
      ·rw [if_pos c6] at H
       have c6b0 : decide (x9_1 < (l1.length : Int)) = true := decide_eq_true c6
       clear c6
       by_cases c7 : (rd l0 x9_1) = (rd l1 x9_1)
       ·rw [if_pos c7] at H
        have c7b0 : ((rd l0 x9_1) == (rd l1 x9_1)) = true := beq_iff_eq.mpr c7
        have c7b1 : ((rd l0 x9_1) != (rd l1 x9_1)) = false := bne_eq_false_iff_eq.mpr c7
        clear c7
        by_cases c8 : x5_1.length < 17592186044416
        ·rw [if_pos c8] at H
         have LMc8 := Aside0.mk c8
         clear c8
         obtain ⟨y103, hy103⟩ : ∃ y_ : List Int, y_ = (x5_1 ++ [x9_1]) := ⟨_, rfl⟩
         replace H : (pullback_equal.l0 k1 l0 l1 y103 (l0.length : Int) (wrap64 (x9_1 + 1))) = some r := by first | (rw [hy103]; with_reducible exact H) | (have H2_ := (Option.bind_some _ _).symm.trans H; rw [hy103]; with_reducible exact H2_) | (have H2_ := (Option.bind_some _ _).symm.trans H; with_reducible exact H2_) | with_reducible exact H | (rw [hy103]; exact H) | exact H
         have Ny103 := Aside0.mk hy103
         clear hy103
         have H' := Aside0.mk H
         clear H
         have p101 : 0 ≤ (x9_1 : Int) := oT
         have q101 : x9_1 < (l0.length : Int) := oT
         obtain ⟨ad101, e101, hx101_0⟩ := Kd.at_int HR0.out x9_1 p101 q101
         cases e101
         replace hx101_0 := (HB.out.cell (World.block_lt_of_cell? w _ hx101_0)).trans hx101_0
         replace p101 := eq_true p101
         replace q101 := eq_true q101
         have p102 : 0 ≤ (x9_1 : Int) := oT
         have q102 : x9_1 < (l1.length : Int) := oT
         obtain ⟨ad102, e102, hx102_0⟩ := Kd.at_int HR1.out x9_1 p102 q102
         cases e102
         replace hx102_0 := (HB.out.cell (World.block_lt_of_cell? w _ hx102_0)).trans hx102_0
         replace p102 := eq_true p102
         replace q102 := eq_true q102
         iterate 3 (try (go_wp2_with (first | ((with_reducible refine gate_builtin (b := .append) (xs := #[.tmp 21, .tmp 23]) rfl ?_); at_builtin; refine Kd.R_append (Kd.int .i64) (w0 := w) w.heap.size rfl (.tmp 21) (.tmp 23) 22 3 (.int .i64 0) 8 rfl Try.underlying22 info3 rfl (by decide) (by omega) u5 x5_1 x9_1 [.int .i64 x9_1] (fun _ => True) (fun _ => False) rfl rfl ?aP (fun _ hk => hk.elim) ?aF ?aO ?aB ?aS ?aL ?_; (case aP => exact rfl); (case aB => exact hB); (case aF => exact (fun _ _ => trivial)); (case aO => exact (pR Q00)); (case aS => exact (below_size hB)); (case aL => have := LMc8.out; omega); intro v104 w9 ho hb hg hat; rw [← Ny103.out] at ho; replace HB := Aside0.mk (hb); have Q01 := Aside0.mk (ho); clear Q00; clear ho hb hg hat))); try (go_quiet (fail)))
         go_roundg k1
         case measure => have := HK1.out; omega
         case rel => exact ⟨(y103), (wrap64 (x9_1 + 1)), rS, H', ⟨by have := HK1.out; omega⟩, ⟨pR Q01⟩, ⟨pH HB⟩⟩
        ·rw [if_neg c8] at H
         exact absurd H (by simp)
       ·rw [if_neg c7] at H
        have c7b0 : ((rd l0 x9_1) == (rd l1 x9_1)) = false := beq_eq_false_iff_ne.mpr c7
        have c7b1 : ((rd l0 x9_1) != (rd l1 x9_1)) = true := bne_iff_ne.mpr c7
        have H' := Aside0.mk H
        clear H
        have p101 : 0 ≤ (x9_1 : Int) := oT
        have q101 : x9_1 < (l0.length : Int) := oT
        obtain ⟨ad101, e101, hx101_0⟩ := Kd.at_int HR0.out x9_1 p101 q101
        cases e101
        replace hx101_0 := (HB.out.cell (World.block_lt_of_cell? w _ hx101_0)).trans hx101_0
        replace p101 := eq_true p101
        replace q101 := eq_true q101
        have p102 : 0 ≤ (x9_1 : Int) := oT
        have q102 : x9_1 < (l1.length : Int) := oT
        obtain ⟨ad102, e102, hx102_0⟩ := Kd.at_int HR1.out x9_1 p102 q102
        cases e102
        replace hx102_0 := (HB.out.cell (World.block_lt_of_cell? w _ hx102_0)).trans hx102_0
        replace p102 := eq_true p102
        replace q102 := eq_true q102
        go_wp2
        repeat (go_quiet (fail); try go_wp2)
        go_roundg k1
        case measure => have := HK1.out; omega
        case rel => exact ⟨(x5_1), (wrap64 (x9_1 + 1)), rS, H', ⟨by have := HK1.out; omega⟩, ⟨pR Q00⟩, ⟨pH HB⟩⟩
      ·rw [if_neg c6] at H
       exact absurd H (by simp)
     ·rw [if_neg c5] at H
      exact absurd H (by simp)
    ·rw [if_neg c4] at H
     exact absurd H (by simp)
   ·rw [if_neg c3] at H
    have c3b0 : decide (x9_1 < (l0.length : Int)) = false := decide_eq_false c3
    clear c3
    obtain rfl := Option.some.inj H
    go_wp2
    repeat (go_quiet (fail); try go_wp2)
    go_ret
    exact ⟨_, by first | rfl | (simp [errW_none, errW_some] <;> rfl) | (simp [*, errW_none, errW_some] <;> rfl), by (with_reducible repeat (first | apply rA | apply rN | apply rD)); exact Q00.out, by repeat (first | (with_reducible first | exact HB.out | apply wA | apply wN | apply wD) | exact HB.out)⟩
end Go.Proofs.Ytillofiphkmjjaa.X

namespace Go.Proofs.Ytillofiphkmjjaa.X
open Go.RowKit Go.Proofs.YtillofiphkmjjaaW.PrintWords Go.Proofs.YtillofiphkmjjaaW.PrintLast Go.Proofs.YtillofiphkmjjaaW.PrintMore
open Go.Proofs.YtillofiphkmjjaaW.PrintWords renaming blk_drewN → bN, blk_drew → bD, blk_alloc → bA, below_alloc → wA, pw_below_drewN → wN, below_drew1 → wD, blk_below → bB, below_step → wS, blk_at → bT, blk_grown → bG
open Go.Proofs.YtillofiphkmjjaaW.PrintWords.Kd renaming R_alloc → rA, R_drewN → rN, R_drew → rD, R_below → rB, R_grown → rG, C_below → cB, C_alloc → cA, C_drewN → cN, C_drew → cD
attribute [local go_sem] max2_int min2_int max_two min_two max_three min_three max_four min_four
set_option linter.unusedVariables false
set_option linter.unusedSimpArgs false
/-! ### pullback_Equalizer: function 31 -/
def pullback_Equalizer.f (k : Nat) (l0_0 : List Int) (l0_1 : List (S94)) (l1_0 : List Int) (l1_1 : List (S94)) (l2_0 : List Int) (l2_1 : List Int) (l3_0 : List Int) (l3_1 : List Int) : Option (List Int × List Int × Int) := (morphism_Valid.f l0_0 l0_1 l1_0 l1_1 l2_0 l2_1).bind fun t106 => (if t106 = 0 then ((morphism_Valid.f l0_0 l0_1 l1_0 l1_1 l3_0 l3_1).bind fun t107 => (if t107 = 0 then ((pullback_equal.f k l2_0 l3_0).bind fun t108 => ((pullback_equal.f k l2_1 l3_1).bind fun t111 => (some (t108, t111, 0)))) else (some (([] : List Int), ([] : List Int), t107)))) else (some (([] : List Int), ([] : List Int), t106)))
theorem pullback_Equalizer.mono : ∀ a0 a1 a2 a3 a4 a5 a6 a7 k, LeO (pullback_Equalizer.f k a0 a1 a2 a3 a4 a5 a6 a7) (pullback_Equalizer.f (k + 1) a0 a1 a2 a3 a4 a5 a6 a7) := by
 intro a0 a1 a2 a3 a4 a5 a6 a7 k
 unfold pullback_Equalizer.f
 repeat' first
   | (with_reducible exact pullback_equal.mono _ _ _)
   | (with_reducible exact LeO.refl _)
   | (with_reducible exact LeO.none _)
   | (with_reducible refine LeO.ite ?_ ?_)
   | (with_reducible refine LeO.bind ?_ (fun _ => ?_))
   | exact pullback_equal.mono _ _ _
   | exact LeO.none _
   | refine LeO.ite ?_ ?_
   | refine LeO.bind ?_ (fun _ => ?_)
def pullback_Equalizer.T7 : Bool × List (List Nat × List Nat) := (true, [([], []), ([0], [0]), ([], []), ([2], [2]), ([1, 3], [1, 3]), ([], []), ([5], [5]), ([], []), ([7], [7]), ([6, 8, 4], [6, 8]), ([4, 9], [4, 9]), ([10, 9, 0, 1, 2, 3, 4, 5, 6, 7, 8, 9, 10], [10]), ([11, 0, 1, 2, 3, 4, 5, 6, 7, 8, 9, 10, 11], [])])
def pullback_Equalizer.B7 : List Nat := [0, 1, 0, 4, 15, 0, 32, 0, 128, 511, 1023, 2047, 4095]
theorem pullback_Equalizer.tab7 : rtab .any (opsOf Try.f31 7) = pullback_Equalizer.T7 := by kernel_rfl
theorem pullback_Equalizer.bits7 : waitsOk pullback_Equalizer.T7.2 pullback_Equalizer.B7 = true := by kernel_rfl
set_option maxHeartbeats 8000000 in
set_option maxRecDepth 100000 in
theorem pullback_Equalizer.calls (k : Nat) (A0_0 : Option Addr) (c0_0 : Nat) (l0_0 : List Int) (A0_1 : Option Addr) (c0_1 : Nat) (l0_1 : List (S94)) (A1_0 : Option Addr) (c1_0 : Nat) (l1_0 : List Int) (A1_1 : Option Addr) (c1_1 : Nat) (l1_1 : List (S94)) (A2_0 : Option Addr) (c2_0 : Nat) (l2_0 : List Int) (A2_1 : Option Addr) (c2_1 : Nat) (l2_1 : List Int) (A3_0 : Option Addr) (c3_0 : Nat) (l3_0 : List Int) (A3_1 : Option Addr) (c3_1 : Nat) (l3_1 : List Int) (r1 : List Int) (r2 : List Int) (r3 : Int) (w : World) (hr0_0 : Kd.C (Kd.int .i64) w A0_0 l0_0.length l0_0) (hc0_0 : l0_0.length ≤ c0_0) (hr0_1 : Kd.C k94 w A0_1 l0_1.length l0_1) (hc0_1 : l0_1.length ≤ c0_1) (hr1_0 : Kd.C (Kd.int .i64) w A1_0 l1_0.length l1_0) (hc1_0 : l1_0.length ≤ c1_0) (hr1_1 : Kd.C k94 w A1_1 l1_1.length l1_1) (hc1_1 : l1_1.length ≤ c1_1) (hr2_0 : Kd.C (Kd.int .i64) w A2_0 l2_0.length l2_0) (hc2_0 : l2_0.length ≤ c2_0) (hr2_1 : Kd.C (Kd.int .i64) w A2_1 l2_1.length l2_1) (hc2_1 : l2_1.length ≤ c2_1) (hr3_0 : Kd.C (Kd.int .i64) w A3_0 l3_0.length l3_0) (hc3_0 : l3_0.length ≤ c3_0) (hr3_1 : Kd.C (Kd.int .i64) w A3_1 l3_1.length l3_1) (hc3_1 : l3_1.length ≤ c3_1) (h : pullback_Equalizer.f k l0_0 l0_1 l1_0 l1_1 l2_0 l2_1 l3_0 l3_1 = some (r1, r2, r3)) :
  Calls Try.prog 31 #[.agg #[.slice A0_0 l0_0.length c0_0, .slice A0_1 l0_1.length c0_1], .agg #[.slice A1_0 l1_0.length c1_0, .slice A1_1 l1_1.length c1_1], .agg #[.slice A2_0 l2_0.length c2_0, .slice A2_1 l2_1.length c2_1], .agg #[.slice A3_0 l3_0.length c3_0, .slice A3_1 l3_1.length c3_1]] w fun e w' => ∃ v0_ v1_ : Value, e = .returned (.tuple #[.agg #[v0_, v1_], .int .i64 r3]) ∧ Kd.R (Kd.int .i64) 3 w' w.heap.size (fun k_ => some k_ ≠ (v1_ : Value).ownBlock) v0_ r1 ∧ Kd.R (Kd.int .i64) 3 w' w.heap.size (fun k_ => some k_ ≠ (v0_ : Value).ownBlock) v1_ r2 ∧ Below w.heap.size w w' := by
 have hu25 := Try.underlying25
 have hu27 := Try.underlying27
 have hu60 := Try.underlying60
 have HR0_0 := Aside0.mk hr0_0
 have HC0_0 := Aside0.mk hc0_0
 clear hr0_0 hc0_0
 have HR0_1 := Aside0.mk hr0_1
 have HC0_1 := Aside0.mk hc0_1
 clear hr0_1 hc0_1
 have HR1_0 := Aside0.mk hr1_0
 have HC1_0 := Aside0.mk hc1_0
 clear hr1_0 hc1_0
 have HR1_1 := Aside0.mk hr1_1
 have HC1_1 := Aside0.mk hc1_1
 clear hr1_1 hc1_1
 have HR2_0 := Aside0.mk hr2_0
 have HC2_0 := Aside0.mk hc2_0
 clear hr2_0 hc2_0
 have HR2_1 := Aside0.mk hr2_1
 have HC2_1 := Aside0.mk hc2_1
 clear hr2_1 hc2_1
 have HR3_0 := Aside0.mk hr3_0
 have HC3_0 := Aside0.mk hc3_0
 clear hr3_0 hc3_0
 have HR3_1 := Aside0.mk hr3_1
 have HC3_1 := Aside0.mk hc3_1
 clear hr3_1 hc3_1
 have HB := Aside0.mk (Below.refl w.heap.size w)
 have H : ((morphism_Valid.f l0_0 l0_1 l1_0 l1_1 l2_0 l2_1).bind fun t106 => (if t106 = 0 then ((morphism_Valid.f l0_0 l0_1 l1_0 l1_1 l3_0 l3_1).bind fun t107 => (if t107 = 0 then ((pullback_equal.f k l2_0 l3_0).bind fun t108 => ((pullback_equal.f k l2_1 l3_1).bind fun t111 => (some (t108, t111, 0)))) else (some (([] : List Int), ([] : List Int), t107)))) else (some (([] : List Int), ([] : List Int), t106)))) = some (r1, r2, r3) := h
 clear h
 replace H := Option.bind_eq_some_iff.mp H
 obtain ⟨t106, A50, H⟩ := H
 replace H : (if t106 = 0 then ((morphism_Valid.f l0_0 l0_1 l1_0 l1_1 l3_0 l3_1).bind fun t107 => (if t107 = 0 then ((pullback_equal.f k l2_0 l3_0).bind fun t108 => ((pullback_equal.f k l2_1 l3_1).bind fun t111 => (some (t108, t111, 0)))) else (some (([] : List Int), ([] : List Int), t107)))) else (some (([] : List Int), ([] : List Int), t106))) = some (r1, r2, r3) := H
 have A5 := Aside0.mk A50
 clear A50
 by_cases c6 : t106 = 0
 ·rw [if_pos c6] at H
  have c6b0 : (t106 == 0) = true := beq_iff_eq.mpr c6
  have c6b1 : (t106 != 0) = false := bne_eq_false_iff_eq.mpr c6
  clear c6
  replace H := Option.bind_eq_some_iff.mp H
  obtain ⟨t107, A70, H⟩ := H
  replace H : (if t107 = 0 then ((pullback_equal.f k l2_0 l3_0).bind fun t108 => ((pullback_equal.f k l2_1 l3_1).bind fun t111 => (some (t108, t111, 0)))) else (some (([] : List Int), ([] : List Int), t107))) = some (r1, r2, r3) := H
  have A7 := Aside0.mk A70
  clear A70
  by_cases c8 : t107 = 0
  ·rw [if_pos c8] at H
   have c8b0 : (t107 == 0) = true := beq_iff_eq.mpr c8
   have c8b1 : (t107 != 0) = false := bne_eq_false_iff_eq.mpr c8
   clear c8
   replace H := Option.bind_eq_some_iff.mp H
   obtain ⟨t108, A90, H⟩ := H
   replace H : ((pullback_equal.f k l2_1 l3_1).bind fun t111 => (some (t108, t111, 0))) = some (r1, r2, r3) := H
   have A9 := Aside0.mk A90
   clear A90
   replace H := Option.bind_eq_some_iff.mp H
   obtain ⟨t111, A100, H⟩ := H
   replace H : (some (t108, t111, 0)) = some (r1, r2, r3) := H
   have A10 := Aside0.mk A100
   clear A100
   simp only [Option.some.injEq, Prod.mk.injEq] at H
   obtain ⟨rfl, rfl, rfl⟩ := H
   go_enter Try.func31, Try.ntmps31
   try go_wp2_with (first | ((with_reducible refine gate_dst (N := 4) rfl ?_); refine box_event ?hg (N := 4) ?hd (cs := #[.slice A0_0 l0_0.length c0_0, .slice A0_1 l0_1.length c0_1]) (t := 25) ?hr ?_; (case hd => rfl); (case hg => rfl); (case hr => first | (go_simp; done) | (go_simp; rfl)); intro Q06 hg w11 hbox hb; have Q00 := Aside0.mk (hbox); have Q14 := Aside0.mk ((by rw [hg]; exact (below_size hB) : w.heap.size ≤ Q06)); have Q0i := Aside0.mk ((by rw [hg]; exact (below_size hB) : w.heap.size ≤ Q06)); replace HB := uH HB hb; clear hb hbox hg) | ((with_reducible refine gate_dst (N := 5) rfl ?_); refine box_event ?hg (N := 5) ?hd (cs := #[.slice A1_0 l1_0.length c1_0, .slice A1_1 l1_1.length c1_1]) (t := 25) ?hr ?_; (case hd => rfl); (case hg => rfl); (case hr => first | (go_simp; done) | (go_simp; rfl)); intro Q07 hg w12 hbox hb; have Q01 := Aside0.mk (hbox); have Q15 := uS HB hg; have Q0j := uS HB hg; replace HB := uH HB hb; have Q0k := uL Q00 hg; have Q0l := uG Q00 hg; replace Q00 := uB Q00 hb; clear hb hbox hg) | ((with_reducible refine gate_dst (N := 6) rfl ?_); refine box_event ?hg (N := 6) ?hd (cs := #[.slice A2_0 l2_0.length c2_0, .slice A2_1 l2_1.length c2_1]) (t := 27) ?hr ?_; (case hd => rfl); (case hg => rfl); (case hr => first | (go_simp; done) | (go_simp; rfl)); intro Q0a hg w13 hbox hb; have Q02 := Aside0.mk (hbox); have Q16 := uS HB hg; have Q0m := uS HB hg; replace HB := uH HB hb; have Q0n := uL Q00 hg; have Q0o := uG Q00 hg; replace Q00 := uB Q00 hb; have Q0p := uL Q01 hg; have Q0q := uG Q01 hg; replace Q01 := uB Q01 hb; clear hb hbox hg) | ((with_reducible refine gate_dst (N := 7) rfl ?_); refine box_event ?hg (N := 7) ?hd (cs := #[.slice A3_0 l3_0.length c3_0, .slice A3_1 l3_1.length c3_1]) (t := 27) ?hr ?_; (case hd => rfl); (case hg => rfl); (case hr => first | (go_simp; done) | (go_simp; rfl)); intro Q0b hg w14 hbox hb; have Q03 := Aside0.mk (hbox); have Q17 := uS HB hg; have Q0r := uS HB hg; replace HB := uH HB hb; have Q0s := uL Q00 hg; have Q0t := uG Q00 hg; replace Q00 := uB Q00 hb; have Q0u := uL Q01 hg; have Q0v := uG Q01 hg; replace Q01 := uB Q01 hb; have Q0w := uL Q02 hg; have Q0x := uG Q02 hg; replace Q02 := uB Q02 hb; clear hb hbox hg) | ((with_reducible refine gate_dst (N := 8) rfl ?_); refine box_event ?hg (N := 8) ?hd (cs := #[.slice none 0 0, .slice none 0 0]) (t := 60) ?hr ?_; (case hd => rfl); (case hg => rfl); (case hr => first | (go_simp; done) | (go_simp; rfl)); intro Q05 hg w15 hbox hb; have Q04 := Aside0.mk (hbox); have Q18 := uS HB hg; have Q0y := uS HB hg; replace HB := uH HB hb; have Q0c := uL Q00 hg; have Q0d := uG Q00 hg; replace Q00 := uB Q00 hb; have Q0e := uL Q01 hg; have Q0f := uG Q01 hg; replace Q01 := uB Q01 hb; have Q08 := uL Q02 hg; have Q0g := uG Q02 hg; replace Q02 := uB Q02 hb; have Q09 := uL Q03 hg; have Q0h := uG Q03 hg; replace Q03 := uB Q03 hb; clear hb hbox hg; have Q1c := Q0k.out; have Q1d := Q0l.out; have Q1e := Q0n.out; have Q1f := Q0o.out; have Q1g := Q0s.out; have Q1h := Q0t.out; have Q1i := Q0c.out; have Q1j := Q0d.out; have Q1k : w15.cell? ⟨Q06, 0, none⟩ = some (.slice A0_0 l0_0.length c0_0) := (blk_cell Q00.out 0).trans rfl; have Q1l : w15.cell? ⟨Q06, 1, none⟩ = some (.slice A0_1 l0_1.length c0_1) := (blk_cell Q00.out 1).trans rfl; have Q1m := blk_frozen Q00.out 0; have Q1n := blk_frozen Q00.out 1; have Q1o := Q0p.out; have Q1p := Q0q.out; have Q1q := Q0u.out; have Q1r := Q0v.out; have Q1s := Q0e.out; have Q1t := Q0f.out; have Q1u : w15.cell? ⟨Q07, 0, none⟩ = some (.slice A1_0 l1_0.length c1_0) := (blk_cell Q01.out 0).trans rfl; have Q1v : w15.cell? ⟨Q07, 1, none⟩ = some (.slice A1_1 l1_1.length c1_1) := (blk_cell Q01.out 1).trans rfl; have Q1w := blk_frozen Q01.out 0; have Q1x := blk_frozen Q01.out 1; have Q1y := Q0w.out; have Q1z := Q0x.out; have Q20 := Q08.out; have Q21 := Q0g.out; have Q22 : w15.cell? ⟨Q0a, 0, none⟩ = some (.slice A2_0 l2_0.length c2_0) := (blk_cell Q02.out 0).trans rfl; have Q23 : w15.cell? ⟨Q0a, 1, none⟩ = some (.slice A2_1 l2_1.length c2_1) := (blk_cell Q02.out 1).trans rfl; have Q24 := blk_frozen Q02.out 0; have Q25 := blk_frozen Q02.out 1) | ((with_reducible refine gate_callee (f := 42) rfl ?_); refine goesL_ (some 15) rfl rfl Try.func42 (by kernel_rfl) rfl #[.agg #[.slice A0_0 l0_0.length c0_0, .slice A0_1 l0_1.length c0_1], .agg #[.slice A1_0 l1_0.length c1_0, .slice A1_1 l1_1.length c1_1], .agg #[.slice A2_0 l2_0.length c2_0, .slice A2_1 l2_1.length c2_1]] rfl aM ?_; (with_reducible refine (morphism_Valid.calls _ _ l0_0 _ _ l0_1 _ _ l1_0 _ _ l1_1 _ _ l2_0 _ _ l2_1 t106 _ ?side1 ?side2 ?side3 ?side4 ?side5 ?side6 ?side7 ?side8 ?side9 ?side10 ?side11 ?side12 A5.out).mono ?_); (case side1 => repeat (first | exact (cB HR0_0.out HB.out) | (with_reducible refine cA ?_ _) | (with_reducible refine cN ?_ _) | (with_reducible refine cD ?_))); (case side2 => exact HC0_0.out); (case side3 => repeat (first | exact (cB HR0_1.out HB.out) | (with_reducible refine cA ?_ _) | (with_reducible refine cN ?_ _) | (with_reducible refine cD ?_))); (case side4 => exact HC0_1.out); (case side5 => repeat (first | exact (cB HR1_0.out HB.out) | (with_reducible refine cA ?_ _) | (with_reducible refine cN ?_ _) | (with_reducible refine cD ?_))); (case side6 => exact HC1_0.out); (case side7 => repeat (first | exact (cB HR1_1.out HB.out) | (with_reducible refine cA ?_ _) | (with_reducible refine cN ?_ _) | (with_reducible refine cD ?_))); (case side8 => exact HC1_1.out); (case side9 => repeat (first | exact (cB HR2_0.out HB.out) | (with_reducible refine cA ?_ _) | (with_reducible refine cN ?_ _) | (with_reducible refine cD ?_))); (case side10 => exact HC2_0.out); (case side11 => repeat (first | exact (cB HR2_1.out HB.out) | (with_reducible refine cA ?_ _) | (with_reducible refine cN ?_ _) | (with_reducible refine cD ?_))); (case side12 => exact HC2_1.out); rintro e w28 ⟨rfl, hb⟩; refine ⟨_, rfl, ?_⟩; replace Q00 := uB Q00 hb; replace Q01 := uB Q01 hb; replace Q02 := uB Q02 hb; replace Q03 := uB Q03 hb; replace Q04 := uB Q04 hb; replace HB := uH HB hb; (try clear hb); (try clear hb2); (try clear hk); (try clear hi); have Q26 : w28.cell? ⟨Q06, 0, none⟩ = some (.slice A0_0 l0_0.length c0_0) := (blk_cell Q00.out 0).trans rfl; have Q27 : w28.cell? ⟨Q06, 1, none⟩ = some (.slice A0_1 l0_1.length c0_1) := (blk_cell Q00.out 1).trans rfl; have Q28 := blk_frozen Q00.out 0; have Q29 := blk_frozen Q00.out 1; have Q2a : w28.cell? ⟨Q07, 0, none⟩ = some (.slice A1_0 l1_0.length c1_0) := (blk_cell Q01.out 0).trans rfl; have Q2b : w28.cell? ⟨Q07, 1, none⟩ = some (.slice A1_1 l1_1.length c1_1) := (blk_cell Q01.out 1).trans rfl; have Q2c := blk_frozen Q01.out 0; have Q2d := blk_frozen Q01.out 1; have Q2e := Q09.out; have Q2f := Q0h.out; have Q2g : w28.cell? ⟨Q0b, 0, none⟩ = some (.slice A3_0 l3_0.length c3_0) := (blk_cell Q03.out 0).trans rfl; have Q2h : w28.cell? ⟨Q0b, 1, none⟩ = some (.slice A3_1 l3_1.length c3_1) := (blk_cell Q03.out 1).trans rfl; have Q2i := blk_frozen Q03.out 0; have Q2j := blk_frozen Q03.out 1) | ((with_reducible refine gate_callee (f := 42) rfl ?_); refine goesL_ (some 23) rfl rfl Try.func42 (by kernel_rfl) rfl #[.agg #[.slice A0_0 l0_0.length c0_0, .slice A0_1 l0_1.length c0_1], .agg #[.slice A1_0 l1_0.length c1_0, .slice A1_1 l1_1.length c1_1], .agg #[.slice A3_0 l3_0.length c3_0, .slice A3_1 l3_1.length c3_1]] rfl aM ?_; (with_reducible refine (morphism_Valid.calls _ _ l0_0 _ _ l0_1 _ _ l1_0 _ _ l1_1 _ _ l3_0 _ _ l3_1 t107 _ ?side1 ?side2 ?side3 ?side4 ?side5 ?side6 ?side7 ?side8 ?side9 ?side10 ?side11 ?side12 A7.out).mono ?_); (case side1 => repeat (first | exact (cB HR0_0.out HB.out) | (with_reducible refine cA ?_ _) | (with_reducible refine cN ?_ _) | (with_reducible refine cD ?_))); (case side2 => exact HC0_0.out); (case side3 => repeat (first | exact (cB HR0_1.out HB.out) | (with_reducible refine cA ?_ _) | (with_reducible refine cN ?_ _) | (with_reducible refine cD ?_))); (case side4 => exact HC0_1.out); (case side5 => repeat (first | exact (cB HR1_0.out HB.out) | (with_reducible refine cA ?_ _) | (with_reducible refine cN ?_ _) | (with_reducible refine cD ?_))); (case side6 => exact HC1_0.out); (case side7 => repeat (first | exact (cB HR1_1.out HB.out) | (with_reducible refine cA ?_ _) | (with_reducible refine cN ?_ _) | (with_reducible refine cD ?_))); (case side8 => exact HC1_1.out); (case side9 => repeat (first | exact (cB HR3_0.out HB.out) | (with_reducible refine cA ?_ _) | (with_reducible refine cN ?_ _) | (with_reducible refine cD ?_))); (case side10 => exact HC3_0.out); (case side11 => repeat (first | exact (cB HR3_1.out HB.out) | (with_reducible refine cA ?_ _) | (with_reducible refine cN ?_ _) | (with_reducible refine cD ?_))); (case side12 => exact HC3_1.out); rintro e w33 ⟨rfl, hb⟩; refine ⟨_, rfl, ?_⟩; replace Q00 := uB Q00 hb; replace Q01 := uB Q01 hb; replace Q02 := uB Q02 hb; replace Q03 := uB Q03 hb; replace Q04 := uB Q04 hb; replace HB := uH HB hb; (try clear hb); (try clear hb2); (try clear hk); (try clear hi)))
   replace Q00 := Aside0.mk (bD Q00.out)
   replace Q01 := Aside0.mk (bD Q01.out)
   replace Q02 := Aside0.mk (bD Q02.out)
   replace Q03 := Aside0.mk (bD Q03.out)
   replace Q04 := Aside0.mk (bD Q04.out)
   replace HB := Aside0.mk (wD HB.out)
   refine start_ (n := 13) (S := fun w' => w'.cell? ⟨Q0a, 0, none⟩ = some (.slice A2_0 l2_0.length c2_0) ∧ w'.cell? ⟨Q0a, 1, none⟩ = some (.slice A2_1 l2_1.length c2_1) ∧ w'.cell? ⟨Q0b, 0, none⟩ = some (.slice A3_0 l3_0.length c3_0) ∧ w'.cell? ⟨Q0b, 1, none⟩ = some (.slice A3_1 l3_1.length c3_1)) (ds := []) #[false, false, false, false, false, false, false, false, false, false, false, false, false] (by kernel_rfl) rfl rfl ⟨(blk_cell Q02.out 0).trans rfl, (blk_cell Q02.out 1).trans rfl, (blk_cell Q03.out 0).trans rfl, (blk_cell Q03.out 1).trans rfl⟩ (fun hHeld => ?_); refine with_tabW pullback_Equalizer.tab7 pullback_Equalizer.bits7 (fun HT_ HW_ => ?_)
   generalize w33.drew = w34 at Q00 Q01 Q02 Q03 Q04 HB hHeld ⊢
   refine pure_ (i := 0) (N := some 28) (v := ?_) (a' := ?_) #[true, false, false, false, false, false, false, false, false, false, false, false, false] rfl rfl (any_of HT_.out (by kernel_rfl)) (fun _ _ _ h => h) (Or.inl ⟨by rfl, ?_⟩) ?_ ?_
   rotate_left
   ·intro w'
    go_simp
    with_reducible rfl
   rotate_left
   ·simp only [Act.put, List.setIfInBounds_toArray, List.set_cons_zero, List.set_cons_succ, i64_w, i32_w]
    rfl
   refine pure_ (i := 2) (N := some 30) (v := ?_) (a' := ?_) #[true, false, true, false, false, false, false, false, false, false, false, false, false] rfl rfl (any_of HT_.out (by kernel_rfl)) (fun _ _ _ h => h) (Or.inl ⟨by rfl, ?_⟩) ?_ ?_
   rotate_left
   ·intro w'
    go_simp
    with_reducible rfl
   rotate_left
   ·simp only [Act.put, List.setIfInBounds_toArray, List.set_cons_zero, List.set_cons_succ, i64_w, i32_w]
    rfl
   refine pure_ (i := 5) (N := some 33) (v := ?_) (a' := ?_) #[true, false, true, false, false, true, false, false, false, false, false, false, false] rfl rfl (any_of HT_.out (by kernel_rfl)) (fun _ _ _ h => h) (Or.inl ⟨by rfl, ?_⟩) ?_ ?_
   rotate_left
   ·intro w'
    go_simp
    with_reducible rfl
   rotate_left
   ·simp only [Act.put, List.setIfInBounds_toArray, List.set_cons_zero, List.set_cons_succ, i64_w, i32_w]
    rfl
   refine pure_ (i := 7) (N := some 35) (v := ?_) (a' := ?_) #[true, false, true, false, false, true, false, true, false, false, false, false, false] rfl rfl (any_of HT_.out (by kernel_rfl)) (fun _ _ _ h => h) (Or.inl ⟨by rfl, ?_⟩) ?_ ?_
   rotate_left
   ·intro w'
    go_simp
    with_reducible rfl
   rotate_left
   ·simp only [Act.put, List.setIfInBounds_toArray, List.set_cons_zero, List.set_cons_succ, i64_w, i32_w]
    rfl
   refine take_ (i := 1) (N := some 29) (v := ?_) (a' := ?_) #[true, true, true, false, false, true, false, true, false, false, false, false, false] rfl rfl (take_ofW HT_.out HW_.out (by kernel_rfl)) (fun _ _ _ h => h) (Or.inl ⟨by rfl, ?_⟩) hHeld ?_ ?_
   rotate_left
   ·rintro w' ⟨s0, s1, s2, s3⟩
    go_simp
    with_reducible rfl
   rotate_left
   ·simp only [Act.put, List.setIfInBounds_toArray, List.set_cons_zero, List.set_cons_succ, i64_w, i32_w]
    rfl
   refine take_ (i := 3) (N := some 31) (v := ?_) (a' := ?_) #[true, true, true, true, false, true, false, true, false, false, false, false, false] rfl rfl (take_ofW HT_.out HW_.out (by kernel_rfl)) (fun _ _ _ h => h) (Or.inl ⟨by rfl, ?_⟩) hHeld ?_ ?_
   rotate_left
   ·rintro w' ⟨s0, s1, s2, s3⟩
    go_simp
    with_reducible rfl
   rotate_left
   ·simp only [Act.put, List.setIfInBounds_toArray, List.set_cons_zero, List.set_cons_succ, i64_w, i32_w]
    rfl
   refine take_ (i := 6) (N := some 34) (v := ?_) (a' := ?_) #[true, true, true, true, false, true, true, true, false, false, false, false, false] rfl rfl (take_ofW HT_.out HW_.out (by kernel_rfl)) (fun _ _ _ h => h) (Or.inl ⟨by rfl, ?_⟩) hHeld ?_ ?_
   rotate_left
   ·rintro w' ⟨s0, s1, s2, s3⟩
    go_simp
    with_reducible rfl
   rotate_left
   ·simp only [Act.put, List.setIfInBounds_toArray, List.set_cons_zero, List.set_cons_succ, i64_w, i32_w]
    rfl
   refine take_ (i := 8) (N := some 36) (v := ?_) (a' := ?_) #[true, true, true, true, false, true, true, true, true, false, false, false, false] rfl rfl (take_ofW HT_.out HW_.out (by kernel_rfl)) (fun _ _ _ h => h) (Or.inl ⟨by rfl, ?_⟩) hHeld ?_ ?_
   rotate_left
   ·rintro w' ⟨s0, s1, s2, s3⟩
    go_simp
    with_reducible rfl
   rotate_left
   ·simp only [Act.put, List.setIfInBounds_toArray, List.set_cons_zero, List.set_cons_succ, i64_w, i32_w]
    rfl
   refine one_ (i := 4) (N := some 32) #[true, true, true, true, true, true, true, true, true, false, false, false, false] rfl rfl (one_of HT_.out (by kernel_rfl)) (by decide) (fun K hK => ?_)
   refine goes_ Try.func62 (by kernel_rfl) rfl #[.slice A2_0 l2_0.length c2_0, .slice A3_0 l3_0.length c3_0] (by rfl) rfl rfl aM ?_
   with_reducible refine (pullback_equal.calls k _ _ l2_0 _ _ l3_0 t108 _ ?side1 ?side2 ?side3 ?side4 A9.out).mono ?_
   (case side1 => repeat (first | exact (cB HR2_0.out HB.out) | (with_reducible refine cA ?_ _) | (with_reducible refine cN ?_ _) | (with_reducible refine cD ?_)))
   (case side2 => exact HC2_0.out)
   (case side3 => repeat (first | exact (cB HR3_0.out HB.out) | (with_reducible refine cA ?_ _) | (with_reducible refine cN ?_ _) | (with_reducible refine cD ?_)))
   (case side4 => exact HC3_0.out)
   rintro e w35 ⟨v109, rfl, ho0, hb⟩
   refine ⟨_, rfl, ?_⟩
   have Q0z := Aside0.mk (Kd.R_lower ho0 (below_size (pH HB)))
   replace Q00 := uB Q00 hb
   replace Q01 := uB Q01 hb
   replace Q02 := uB Q02 hb
   replace Q03 := uB Q03 hb
   replace Q04 := uB Q04 hb
   replace HB := uH HB hb
   (try clear hb)
   (try clear hb2)
   (try clear hk)
   (try clear hi)
   (try clear ho0)
   refine hK.out _ _ ⟨(blk_cell Q02.out 0).trans rfl, (blk_cell Q02.out 1).trans rfl, (blk_cell Q03.out 0).trans rfl, (blk_cell Q03.out 1).trans rfl⟩ (fun hHeld => ?_)
   clear hK K
   refine norm_ (a' := ?_) ?_ ?_
   rotate_left
   ·show Act.put _ (some 32) _ = _
    simp only [Act.put, List.setIfInBounds_toArray, List.set_cons_zero, List.set_cons_succ, i64_w, i32_w]
    rfl
   refine one_ (i := 9) (N := some 37) #[true, true, true, true, true, true, true, true, true, true, false, false, false] rfl rfl (one_of HT_.out (by kernel_rfl)) (by decide) (fun K hK => ?_)
   refine goes_ Try.func62 (by kernel_rfl) rfl #[.slice A2_1 l2_1.length c2_1, .slice A3_1 l3_1.length c3_1] (by rfl) rfl rfl aM ?_
   with_reducible refine (pullback_equal.calls k _ _ l2_1 _ _ l3_1 t111 _ ?side1 ?side2 ?side3 ?side4 A10.out).mono ?_
   (case side1 => repeat (first | exact (cB HR2_1.out HB.out) | (with_reducible refine cA ?_ _) | (with_reducible refine cN ?_ _) | (with_reducible refine cD ?_)))
   (case side2 => exact HC2_1.out)
   (case side3 => repeat (first | exact (cB HR3_1.out HB.out) | (with_reducible refine cA ?_ _) | (with_reducible refine cN ?_ _) | (with_reducible refine cD ?_)))
   (case side4 => exact HC3_1.out)
   rintro e w36 ⟨v112, rfl, ho0, hb⟩
   refine ⟨_, rfl, ?_⟩
   have Q19 := Aside0.mk (Kd.R_lower (Kd.R_new' ho0 (Kd.R_lt (pR Q0z))) (below_size (pH HB)))
   replace Q0z := eR Q0z (Kd.R_base ho0) hb
   replace Q00 := uB Q00 hb
   replace Q01 := uB Q01 hb
   replace Q02 := uB Q02 hb
   replace Q03 := uB Q03 hb
   replace Q04 := uB Q04 hb
   replace HB := uH HB hb
   (try clear hb)
   (try clear hb2)
   (try clear hk)
   (try clear hi)
   (try clear ho0)
   obtain ⟨Q12, Q13, Q1a⟩ := Kd.R_slice Q19.out
   (first | subst Q1a | (injection Q1a with f1_ f2_ f3_; have f4_ := f1_.symm; have f5_ := f3_.symm; clear f1_ f2_ f3_; subst f4_; subst f5_))
   obtain ⟨Q10, Q11, Q1b⟩ := Kd.R_slice Q0z.out
   (first | subst Q1b | (injection Q1b with f1_ f2_ f3_; have f4_ := f1_.symm; have f5_ := f3_.symm; clear f1_ f2_ f3_; subst f4_; subst f5_))
   refine hK.out _ _ ⟨(blk_cell Q02.out 0).trans rfl, (blk_cell Q02.out 1).trans rfl, (blk_cell Q03.out 0).trans rfl, (blk_cell Q03.out 1).trans rfl⟩ (fun hHeld => ?_)
   clear hK K
   refine norm_ (a' := ?_) ?_ ?_
   rotate_left
   ·show Act.put _ (some 37) _ = _
    simp only [Act.put, List.setIfInBounds_toArray, List.set_cons_zero, List.set_cons_succ, i64_w, i32_w]
    rfl
   refine pure_ (i := 10) (N := some 38) (v := ?_) (a' := ?_) #[true, true, true, true, true, true, true, true, true, true, true, false, false] rfl rfl (any_of HT_.out (by kernel_rfl)) (fun _ _ _ h => h) (Or.inl ⟨by rfl, ?_⟩) ?_ ?_
   rotate_left
   ·intro w'
    go_simp
    with_reducible rfl
   rotate_left
   ·simp only [Act.put, List.setIfInBounds_toArray, List.set_cons_zero, List.set_cons_succ, i64_w, i32_w]
    rfl
   refine one_ (i := 11) (N := none) #[true, true, true, true, true, true, true, true, true, true, true, true, false] rfl rfl (one_of HT_.out (by kernel_rfl)) (by decide) (fun K hK => ?_)
   have Q2k : w36.cell? ⟨Q05, 0, none⟩ = some (.slice none 0 0) := (blk_cell Q04.out 0).trans rfl
   have Q2l := blk_frozen Q04.out 0
   have Q2m := Q0c.out
   have Q2n := Q0e.out
   have Q2o := Q08.out
   have Q2p := Q09.out
   have Q2q := Q0d.out
   have Q2r := Q0f.out
   have Q2s := Q0g.out
   have Q2t := Q0h.out
   have Q2u : w36.cell? ⟨Q05, 1, none⟩ = some (.slice none 0 0) := (blk_cell Q04.out 1).trans rfl
   have Q2v := blk_frozen Q04.out 1
   have Q2w := Q0c.out
   have Q2x := Q0e.out
   have Q2y := Q08.out
   have Q2z := Q09.out
   have Q30 := Q0d.out
   have Q31 := Q0f.out
   have Q32 := Q0g.out
   have Q33 := Q0h.out
   refine skip_ (w1 := ?_) (by rfl) rfl ?_ ?_
   rotate_left
   ·go_simp
    rfl
   refine hK.out _ _ ⟨((cell_far (p := ⟨Q05, _, none⟩) Q08.out _).trans (((cell_far (p := ⟨Q05, _, none⟩) Q08.out _).trans (hHeld.1)))), ((cell_far (p := ⟨Q05, _, none⟩) Q08.out _).trans (((cell_far (p := ⟨Q05, _, none⟩) Q08.out _).trans (hHeld.2.1)))), ((cell_far (p := ⟨Q05, _, none⟩) Q09.out _).trans (((cell_far (p := ⟨Q05, _, none⟩) Q09.out _).trans (hHeld.2.2.1)))), ((cell_far (p := ⟨Q05, _, none⟩) Q09.out _).trans (((cell_far (p := ⟨Q05, _, none⟩) Q09.out _).trans (hHeld.2.2.2))))⟩ (fun hHeld => ?_)
   clear hK K
   refine pure_ (i := 12) (N := some 9) (v := ?_) (a' := ?_) #[true, true, true, true, true, true, true, true, true, true, true, true, true] rfl rfl (any_of HT_.out (by kernel_rfl)) (fun _ _ _ h => h) (Or.inl ⟨by rfl, ?_⟩) ?_ ?_
   rotate_left
   ·intro w'
    go_simp
    with_reducible rfl
   rotate_left
   ·simp only [Act.put, List.setIfInBounds_toArray, List.set_cons_zero, List.set_cons_succ, i64_w, i32_w]
    rfl
   refine done_ (done_of HT_.out (by kernel_rfl)) ?_
   try go_wp2
   refine bodyPost_ret (results_ct rfl _ _ Q05 60 #[.slice Q10 t108.length Q11, .slice Q12 t111.length Q13] (0, 0) _ rfl (by (with_reducible repeat (first | refine bN ?_ _ | refine bD ?_ | refine bA ?_ _)); refine blk_put (cs := #[.slice Q10 t108.length Q11, .slice none 0 0]) ?_ 1 _ rfl; (with_reducible repeat (first | refine bN ?_ _ | refine bD ?_ | refine bA ?_ _)); refine blk_put (cs := #[.slice none 0 0, .slice none 0 0]) ?_ 0 _ rfl; (with_reducible repeat (first | refine bN ?_ _ | refine bD ?_ | refine bA ?_ _)); exact Q04.out) Try.underlying60 rfl (by kernel_rfl)) rfl ?_
   exact ⟨_, _, by first | rfl | (simp [errW_none, errW_some] <;> rfl) | (simp [*, errW_none, errW_some] <;> rfl), by (with_reducible repeat (first | apply rA | apply rN | apply rD)); exact Kd.R_mono (Kd.R_far (p := ⟨Q05, 1, none⟩) (Kd.R_far (p := ⟨Q05, 0, none⟩) (Kd.R_types Q0z.out Q04.out (by decide)) (fun _ hk => hk.2) (.slice Q10 t108.length Q11)) (fun _ hk => hk.2) (.slice Q12 t111.length Q13)) (fun _ hk => hk.1.2), by (with_reducible repeat (first | apply rA | apply rN | apply rD)); exact Kd.R_mono (Kd.R_far (p := ⟨Q05, 1, none⟩) (Kd.R_far (p := ⟨Q05, 0, none⟩) (Kd.R_types Q19.out Q04.out (by decide)) (fun _ hk => hk.2) (.slice Q10 t108.length Q11)) (fun _ hk => hk.2) (.slice Q12 t111.length Q13)) (fun _ hk => hk.1.2), by repeat (first | (with_reducible first | exact HB.out | apply wA | apply wN | apply wD | refine below_set ?_ Q0i.out | refine below_set ?_ Q0j.out | refine below_set ?_ Q0m.out | refine below_set ?_ Q0r.out | refine below_set ?_ Q0y.out) | exact HB.out)⟩
  ·rw [if_neg c8] at H
   have c8b0 : (t107 == 0) = false := beq_eq_false_iff_ne.mpr c8
   have c8b1 : (t107 != 0) = true := bne_iff_ne.mpr c8
   simp only [Option.some.injEq, Prod.mk.injEq] at H
   obtain ⟨rfl, rfl, rfl⟩ := H
   go_enter Try.func31, Try.ntmps31
   go_wp2_with (first | ((with_reducible refine gate_dst (N := 4) rfl ?_); refine box_event ?hg (N := 4) ?hd (cs := #[.slice A0_0 l0_0.length c0_0, .slice A0_1 l0_1.length c0_1]) (t := 25) ?hr ?_; (case hd => rfl); (case hg => rfl); (case hr => first | (go_simp; done) | (go_simp; rfl)); intro Q06 hg w41 hbox hb; have Q00 := Aside0.mk (hbox); have Q14 := Aside0.mk ((by rw [hg]; exact (below_size hB) : w.heap.size ≤ Q06)); have Q0i := Aside0.mk ((by rw [hg]; exact (below_size hB) : w.heap.size ≤ Q06)); replace HB := uH HB hb; clear hb hbox hg) | ((with_reducible refine gate_dst (N := 5) rfl ?_); refine box_event ?hg (N := 5) ?hd (cs := #[.slice A1_0 l1_0.length c1_0, .slice A1_1 l1_1.length c1_1]) (t := 25) ?hr ?_; (case hd => rfl); (case hg => rfl); (case hr => first | (go_simp; done) | (go_simp; rfl)); intro Q07 hg w42 hbox hb; have Q01 := Aside0.mk (hbox); have Q15 := uS HB hg; have Q0j := uS HB hg; replace HB := uH HB hb; have Q0k := uL Q00 hg; have Q0l := uG Q00 hg; replace Q00 := uB Q00 hb; clear hb hbox hg) | ((with_reducible refine gate_dst (N := 6) rfl ?_); refine box_event ?hg (N := 6) ?hd (cs := #[.slice A2_0 l2_0.length c2_0, .slice A2_1 l2_1.length c2_1]) (t := 27) ?hr ?_; (case hd => rfl); (case hg => rfl); (case hr => first | (go_simp; done) | (go_simp; rfl)); intro Q0a hg w43 hbox hb; have Q02 := Aside0.mk (hbox); have Q16 := uS HB hg; have Q0m := uS HB hg; replace HB := uH HB hb; have Q0n := uL Q00 hg; have Q0o := uG Q00 hg; replace Q00 := uB Q00 hb; have Q0p := uL Q01 hg; have Q0q := uG Q01 hg; replace Q01 := uB Q01 hb; clear hb hbox hg) | ((with_reducible refine gate_dst (N := 7) rfl ?_); refine box_event ?hg (N := 7) ?hd (cs := #[.slice A3_0 l3_0.length c3_0, .slice A3_1 l3_1.length c3_1]) (t := 27) ?hr ?_; (case hd => rfl); (case hg => rfl); (case hr => first | (go_simp; done) | (go_simp; rfl)); intro Q0b hg w44 hbox hb; have Q03 := Aside0.mk (hbox); have Q17 := uS HB hg; have Q0r := uS HB hg; replace HB := uH HB hb; have Q0s := uL Q00 hg; have Q0t := uG Q00 hg; replace Q00 := uB Q00 hb; have Q0u := uL Q01 hg; have Q0v := uG Q01 hg; replace Q01 := uB Q01 hb; have Q0w := uL Q02 hg; have Q0x := uG Q02 hg; replace Q02 := uB Q02 hb; clear hb hbox hg) | ((with_reducible refine gate_dst (N := 8) rfl ?_); refine box_event ?hg (N := 8) ?hd (cs := #[.slice none 0 0, .slice none 0 0]) (t := 60) ?hr ?_; (case hd => rfl); (case hg => rfl); (case hr => first | (go_simp; done) | (go_simp; rfl)); intro Q05 hg w45 hbox hb; have Q04 := Aside0.mk (hbox); have Q18 := uS HB hg; have Q0y := uS HB hg; replace HB := uH HB hb; have Q0c := uL Q00 hg; have Q0d := uG Q00 hg; replace Q00 := uB Q00 hb; have Q0e := uL Q01 hg; have Q0f := uG Q01 hg; replace Q01 := uB Q01 hb; have Q08 := uL Q02 hg; have Q0g := uG Q02 hg; replace Q02 := uB Q02 hb; have Q09 := uL Q03 hg; have Q0h := uG Q03 hg; replace Q03 := uB Q03 hb; clear hb hbox hg; have Q34 := Q0k.out; have Q35 := Q0l.out; have Q36 := Q0n.out; have Q37 := Q0o.out; have Q38 := Q0s.out; have Q39 := Q0t.out; have Q3a := Q0c.out; have Q3b := Q0d.out; have Q3c : w45.cell? ⟨Q06, 0, none⟩ = some (.slice A0_0 l0_0.length c0_0) := (blk_cell Q00.out 0).trans rfl; have Q3d : w45.cell? ⟨Q06, 1, none⟩ = some (.slice A0_1 l0_1.length c0_1) := (blk_cell Q00.out 1).trans rfl; have Q3e := blk_frozen Q00.out 0; have Q3f := blk_frozen Q00.out 1; have Q3g := Q0p.out; have Q3h := Q0q.out; have Q3i := Q0u.out; have Q3j := Q0v.out; have Q3k := Q0e.out; have Q3l := Q0f.out; have Q3m : w45.cell? ⟨Q07, 0, none⟩ = some (.slice A1_0 l1_0.length c1_0) := (blk_cell Q01.out 0).trans rfl; have Q3n : w45.cell? ⟨Q07, 1, none⟩ = some (.slice A1_1 l1_1.length c1_1) := (blk_cell Q01.out 1).trans rfl; have Q3o := blk_frozen Q01.out 0; have Q3p := blk_frozen Q01.out 1; have Q3q := Q0w.out; have Q3r := Q0x.out; have Q3s := Q08.out; have Q3t := Q0g.out; have Q3u : w45.cell? ⟨Q0a, 0, none⟩ = some (.slice A2_0 l2_0.length c2_0) := (blk_cell Q02.out 0).trans rfl; have Q3v : w45.cell? ⟨Q0a, 1, none⟩ = some (.slice A2_1 l2_1.length c2_1) := (blk_cell Q02.out 1).trans rfl; have Q3w := blk_frozen Q02.out 0; have Q3x := blk_frozen Q02.out 1) | ((with_reducible refine gate_callee (f := 42) rfl ?_); refine goesL_ (some 15) rfl rfl Try.func42 (by kernel_rfl) rfl #[.agg #[.slice A0_0 l0_0.length c0_0, .slice A0_1 l0_1.length c0_1], .agg #[.slice A1_0 l1_0.length c1_0, .slice A1_1 l1_1.length c1_1], .agg #[.slice A2_0 l2_0.length c2_0, .slice A2_1 l2_1.length c2_1]] rfl aM ?_; (with_reducible refine (morphism_Valid.calls _ _ l0_0 _ _ l0_1 _ _ l1_0 _ _ l1_1 _ _ l2_0 _ _ l2_1 t106 _ ?side1 ?side2 ?side3 ?side4 ?side5 ?side6 ?side7 ?side8 ?side9 ?side10 ?side11 ?side12 A5.out).mono ?_); (case side1 => repeat (first | exact (cB HR0_0.out HB.out) | (with_reducible refine cA ?_ _) | (with_reducible refine cN ?_ _) | (with_reducible refine cD ?_))); (case side2 => exact HC0_0.out); (case side3 => repeat (first | exact (cB HR0_1.out HB.out) | (with_reducible refine cA ?_ _) | (with_reducible refine cN ?_ _) | (with_reducible refine cD ?_))); (case side4 => exact HC0_1.out); (case side5 => repeat (first | exact (cB HR1_0.out HB.out) | (with_reducible refine cA ?_ _) | (with_reducible refine cN ?_ _) | (with_reducible refine cD ?_))); (case side6 => exact HC1_0.out); (case side7 => repeat (first | exact (cB HR1_1.out HB.out) | (with_reducible refine cA ?_ _) | (with_reducible refine cN ?_ _) | (with_reducible refine cD ?_))); (case side8 => exact HC1_1.out); (case side9 => repeat (first | exact (cB HR2_0.out HB.out) | (with_reducible refine cA ?_ _) | (with_reducible refine cN ?_ _) | (with_reducible refine cD ?_))); (case side10 => exact HC2_0.out); (case side11 => repeat (first | exact (cB HR2_1.out HB.out) | (with_reducible refine cA ?_ _) | (with_reducible refine cN ?_ _) | (with_reducible refine cD ?_))); (case side12 => exact HC2_1.out); rintro e w58 ⟨rfl, hb⟩; refine ⟨_, rfl, ?_⟩; replace Q00 := uB Q00 hb; replace Q01 := uB Q01 hb; replace Q02 := uB Q02 hb; replace Q03 := uB Q03 hb; replace Q04 := uB Q04 hb; replace HB := uH HB hb; (try clear hb); (try clear hb2); (try clear hk); (try clear hi); have Q3y : w58.cell? ⟨Q06, 0, none⟩ = some (.slice A0_0 l0_0.length c0_0) := (blk_cell Q00.out 0).trans rfl; have Q3z : w58.cell? ⟨Q06, 1, none⟩ = some (.slice A0_1 l0_1.length c0_1) := (blk_cell Q00.out 1).trans rfl; have Q40 := blk_frozen Q00.out 0; have Q41 := blk_frozen Q00.out 1; have Q42 : w58.cell? ⟨Q07, 0, none⟩ = some (.slice A1_0 l1_0.length c1_0) := (blk_cell Q01.out 0).trans rfl; have Q43 : w58.cell? ⟨Q07, 1, none⟩ = some (.slice A1_1 l1_1.length c1_1) := (blk_cell Q01.out 1).trans rfl; have Q44 := blk_frozen Q01.out 0; have Q45 := blk_frozen Q01.out 1; have Q46 := Q09.out; have Q47 := Q0h.out; have Q48 : w58.cell? ⟨Q0b, 0, none⟩ = some (.slice A3_0 l3_0.length c3_0) := (blk_cell Q03.out 0).trans rfl; have Q49 : w58.cell? ⟨Q0b, 1, none⟩ = some (.slice A3_1 l3_1.length c3_1) := (blk_cell Q03.out 1).trans rfl; have Q4a := blk_frozen Q03.out 0; have Q4b := blk_frozen Q03.out 1) | ((with_reducible refine gate_callee (f := 42) rfl ?_); refine goesL_ (some 23) rfl rfl Try.func42 (by kernel_rfl) rfl #[.agg #[.slice A0_0 l0_0.length c0_0, .slice A0_1 l0_1.length c0_1], .agg #[.slice A1_0 l1_0.length c1_0, .slice A1_1 l1_1.length c1_1], .agg #[.slice A3_0 l3_0.length c3_0, .slice A3_1 l3_1.length c3_1]] rfl aM ?_; (with_reducible refine (morphism_Valid.calls _ _ l0_0 _ _ l0_1 _ _ l1_0 _ _ l1_1 _ _ l3_0 _ _ l3_1 t107 _ ?side1 ?side2 ?side3 ?side4 ?side5 ?side6 ?side7 ?side8 ?side9 ?side10 ?side11 ?side12 A7.out).mono ?_); (case side1 => repeat (first | exact (cB HR0_0.out HB.out) | (with_reducible refine cA ?_ _) | (with_reducible refine cN ?_ _) | (with_reducible refine cD ?_))); (case side2 => exact HC0_0.out); (case side3 => repeat (first | exact (cB HR0_1.out HB.out) | (with_reducible refine cA ?_ _) | (with_reducible refine cN ?_ _) | (with_reducible refine cD ?_))); (case side4 => exact HC0_1.out); (case side5 => repeat (first | exact (cB HR1_0.out HB.out) | (with_reducible refine cA ?_ _) | (with_reducible refine cN ?_ _) | (with_reducible refine cD ?_))); (case side6 => exact HC1_0.out); (case side7 => repeat (first | exact (cB HR1_1.out HB.out) | (with_reducible refine cA ?_ _) | (with_reducible refine cN ?_ _) | (with_reducible refine cD ?_))); (case side8 => exact HC1_1.out); (case side9 => repeat (first | exact (cB HR3_0.out HB.out) | (with_reducible refine cA ?_ _) | (with_reducible refine cN ?_ _) | (with_reducible refine cD ?_))); (case side10 => exact HC3_0.out); (case side11 => repeat (first | exact (cB HR3_1.out HB.out) | (with_reducible refine cA ?_ _) | (with_reducible refine cN ?_ _) | (with_reducible refine cD ?_))); (case side12 => exact HC3_1.out); rintro e w63 ⟨rfl, hb⟩; refine ⟨_, rfl, ?_⟩; replace Q00 := uB Q00 hb; replace Q01 := uB Q01 hb; replace Q02 := uB Q02 hb; replace Q03 := uB Q03 hb; replace Q04 := uB Q04 hb; replace HB := uH HB hb; (try clear hb); (try clear hb2); (try clear hk); (try clear hi); have Q4c : w63.cell? ⟨Q05, 0, none⟩ = some (.slice none 0 0) := (blk_cell Q04.out 0).trans rfl; have Q4d : w63.cell? ⟨Q05, 1, none⟩ = some (.slice none 0 0) := (blk_cell Q04.out 1).trans rfl; have Q4e := blk_frozen Q04.out 0; have Q4f := blk_frozen Q04.out 1))
   refine bodyPost_ret (results_ct rfl _ _ Q05 60 #[.slice none 0 0, .slice none 0 0] (0, 0) _ rfl (by (with_reducible repeat (first | refine bN ?_ _ | refine bD ?_ | refine bA ?_ _)); refine blk_put (cs := #[.slice none 0 0, .slice none 0 0]) ?_ 1 _ rfl; (with_reducible repeat (first | refine bN ?_ _ | refine bD ?_ | refine bA ?_ _)); refine blk_put (cs := #[.slice none 0 0, .slice none 0 0]) ?_ 0 _ rfl; (with_reducible repeat (first | refine bN ?_ _ | refine bD ?_ | refine bA ?_ _)); exact Q04.out) Try.underlying60 rfl (by kernel_rfl)) rfl ?_
   exact ⟨_, _, by first | rfl | (simp [errW_none, errW_some] <;> rfl) | (simp [*, errW_none, errW_some] <;> rfl), by first | exact Kd.R_nil _ _ _ _ _ | exact Kd.N_nil _ _ _ _ _ | exact Kd.V_nil _ _ _ _ _ | exact Kd.Q_nil _ _ _ _ _ | exact Kd.S_nil _ _ _ _ _, by first | exact Kd.R_nil _ _ _ _ _ | exact Kd.N_nil _ _ _ _ _ | exact Kd.V_nil _ _ _ _ _ | exact Kd.Q_nil _ _ _ _ _ | exact Kd.S_nil _ _ _ _ _, by repeat (first | (with_reducible first | exact HB.out | apply wA | apply wN | apply wD | refine below_set ?_ Q0i.out | refine below_set ?_ Q0j.out | refine below_set ?_ Q0m.out | refine below_set ?_ Q0r.out | refine below_set ?_ Q0y.out) | exact HB.out)⟩
 ·rw [if_neg c6] at H
  have c6b0 : (t106 == 0) = false := beq_eq_false_iff_ne.mpr c6
  have c6b1 : (t106 != 0) = true := bne_iff_ne.mpr c6
  simp only [Option.some.injEq, Prod.mk.injEq] at H
  obtain ⟨rfl, rfl, rfl⟩ := H
  go_enter Try.func31, Try.ntmps31
  go_wp2_with (first | ((with_reducible refine gate_dst (N := 4) rfl ?_); refine box_event ?hg (N := 4) ?hd (cs := #[.slice A0_0 l0_0.length c0_0, .slice A0_1 l0_1.length c0_1]) (t := 25) ?hr ?_; (case hd => rfl); (case hg => rfl); (case hr => first | (go_simp; done) | (go_simp; rfl)); intro Q06 hg w65 hbox hb; have Q00 := Aside0.mk (hbox); have Q14 := Aside0.mk ((by rw [hg]; exact (below_size hB) : w.heap.size ≤ Q06)); have Q0i := Aside0.mk ((by rw [hg]; exact (below_size hB) : w.heap.size ≤ Q06)); replace HB := uH HB hb; clear hb hbox hg) | ((with_reducible refine gate_dst (N := 5) rfl ?_); refine box_event ?hg (N := 5) ?hd (cs := #[.slice A1_0 l1_0.length c1_0, .slice A1_1 l1_1.length c1_1]) (t := 25) ?hr ?_; (case hd => rfl); (case hg => rfl); (case hr => first | (go_simp; done) | (go_simp; rfl)); intro Q07 hg w66 hbox hb; have Q01 := Aside0.mk (hbox); have Q15 := uS HB hg; have Q0j := uS HB hg; replace HB := uH HB hb; have Q0k := uL Q00 hg; have Q0l := uG Q00 hg; replace Q00 := uB Q00 hb; clear hb hbox hg) | ((with_reducible refine gate_dst (N := 6) rfl ?_); refine box_event ?hg (N := 6) ?hd (cs := #[.slice A2_0 l2_0.length c2_0, .slice A2_1 l2_1.length c2_1]) (t := 27) ?hr ?_; (case hd => rfl); (case hg => rfl); (case hr => first | (go_simp; done) | (go_simp; rfl)); intro Q0a hg w67 hbox hb; have Q02 := Aside0.mk (hbox); have Q16 := uS HB hg; have Q0m := uS HB hg; replace HB := uH HB hb; have Q0n := uL Q00 hg; have Q0o := uG Q00 hg; replace Q00 := uB Q00 hb; have Q0p := uL Q01 hg; have Q0q := uG Q01 hg; replace Q01 := uB Q01 hb; clear hb hbox hg) | ((with_reducible refine gate_dst (N := 7) rfl ?_); refine box_event ?hg (N := 7) ?hd (cs := #[.slice A3_0 l3_0.length c3_0, .slice A3_1 l3_1.length c3_1]) (t := 27) ?hr ?_; (case hd => rfl); (case hg => rfl); (case hr => first | (go_simp; done) | (go_simp; rfl)); intro Q0b hg w68 hbox hb; have Q03 := Aside0.mk (hbox); have Q17 := uS HB hg; have Q0r := uS HB hg; replace HB := uH HB hb; have Q0s := uL Q00 hg; have Q0t := uG Q00 hg; replace Q00 := uB Q00 hb; have Q0u := uL Q01 hg; have Q0v := uG Q01 hg; replace Q01 := uB Q01 hb; have Q0w := uL Q02 hg; have Q0x := uG Q02 hg; replace Q02 := uB Q02 hb; clear hb hbox hg) | ((with_reducible refine gate_dst (N := 8) rfl ?_); refine box_event ?hg (N := 8) ?hd (cs := #[.slice none 0 0, .slice none 0 0]) (t := 60) ?hr ?_; (case hd => rfl); (case hg => rfl); (case hr => first | (go_simp; done) | (go_simp; rfl)); intro Q05 hg w69 hbox hb; have Q04 := Aside0.mk (hbox); have Q18 := uS HB hg; have Q0y := uS HB hg; replace HB := uH HB hb; have Q0c := uL Q00 hg; have Q0d := uG Q00 hg; replace Q00 := uB Q00 hb; have Q0e := uL Q01 hg; have Q0f := uG Q01 hg; replace Q01 := uB Q01 hb; have Q08 := uL Q02 hg; have Q0g := uG Q02 hg; replace Q02 := uB Q02 hb; have Q09 := uL Q03 hg; have Q0h := uG Q03 hg; replace Q03 := uB Q03 hb; clear hb hbox hg; have Q4g := Q0k.out; have Q4h := Q0l.out; have Q4i := Q0n.out; have Q4j := Q0o.out; have Q4k := Q0s.out; have Q4l := Q0t.out; have Q4m := Q0c.out; have Q4n := Q0d.out; have Q4o : w69.cell? ⟨Q06, 0, none⟩ = some (.slice A0_0 l0_0.length c0_0) := (blk_cell Q00.out 0).trans rfl; have Q4p : w69.cell? ⟨Q06, 1, none⟩ = some (.slice A0_1 l0_1.length c0_1) := (blk_cell Q00.out 1).trans rfl; have Q4q := blk_frozen Q00.out 0; have Q4r := blk_frozen Q00.out 1; have Q4s := Q0p.out; have Q4t := Q0q.out; have Q4u := Q0u.out; have Q4v := Q0v.out; have Q4w := Q0e.out; have Q4x := Q0f.out; have Q4y : w69.cell? ⟨Q07, 0, none⟩ = some (.slice A1_0 l1_0.length c1_0) := (blk_cell Q01.out 0).trans rfl; have Q4z : w69.cell? ⟨Q07, 1, none⟩ = some (.slice A1_1 l1_1.length c1_1) := (blk_cell Q01.out 1).trans rfl; have Q50 := blk_frozen Q01.out 0; have Q51 := blk_frozen Q01.out 1; have Q52 := Q0w.out; have Q53 := Q0x.out; have Q54 := Q08.out; have Q55 := Q0g.out; have Q56 : w69.cell? ⟨Q0a, 0, none⟩ = some (.slice A2_0 l2_0.length c2_0) := (blk_cell Q02.out 0).trans rfl; have Q57 : w69.cell? ⟨Q0a, 1, none⟩ = some (.slice A2_1 l2_1.length c2_1) := (blk_cell Q02.out 1).trans rfl; have Q58 := blk_frozen Q02.out 0; have Q59 := blk_frozen Q02.out 1) | ((with_reducible refine gate_callee (f := 42) rfl ?_); refine goesL_ (some 15) rfl rfl Try.func42 (by kernel_rfl) rfl #[.agg #[.slice A0_0 l0_0.length c0_0, .slice A0_1 l0_1.length c0_1], .agg #[.slice A1_0 l1_0.length c1_0, .slice A1_1 l1_1.length c1_1], .agg #[.slice A2_0 l2_0.length c2_0, .slice A2_1 l2_1.length c2_1]] rfl aM ?_; (with_reducible refine (morphism_Valid.calls _ _ l0_0 _ _ l0_1 _ _ l1_0 _ _ l1_1 _ _ l2_0 _ _ l2_1 t106 _ ?side1 ?side2 ?side3 ?side4 ?side5 ?side6 ?side7 ?side8 ?side9 ?side10 ?side11 ?side12 A5.out).mono ?_); (case side1 => repeat (first | exact (cB HR0_0.out HB.out) | (with_reducible refine cA ?_ _) | (with_reducible refine cN ?_ _) | (with_reducible refine cD ?_))); (case side2 => exact HC0_0.out); (case side3 => repeat (first | exact (cB HR0_1.out HB.out) | (with_reducible refine cA ?_ _) | (with_reducible refine cN ?_ _) | (with_reducible refine cD ?_))); (case side4 => exact HC0_1.out); (case side5 => repeat (first | exact (cB HR1_0.out HB.out) | (with_reducible refine cA ?_ _) | (with_reducible refine cN ?_ _) | (with_reducible refine cD ?_))); (case side6 => exact HC1_0.out); (case side7 => repeat (first | exact (cB HR1_1.out HB.out) | (with_reducible refine cA ?_ _) | (with_reducible refine cN ?_ _) | (with_reducible refine cD ?_))); (case side8 => exact HC1_1.out); (case side9 => repeat (first | exact (cB HR2_0.out HB.out) | (with_reducible refine cA ?_ _) | (with_reducible refine cN ?_ _) | (with_reducible refine cD ?_))); (case side10 => exact HC2_0.out); (case side11 => repeat (first | exact (cB HR2_1.out HB.out) | (with_reducible refine cA ?_ _) | (with_reducible refine cN ?_ _) | (with_reducible refine cD ?_))); (case side12 => exact HC2_1.out); rintro e w82 ⟨rfl, hb⟩; refine ⟨_, rfl, ?_⟩; replace Q00 := uB Q00 hb; replace Q01 := uB Q01 hb; replace Q02 := uB Q02 hb; replace Q03 := uB Q03 hb; replace Q04 := uB Q04 hb; replace HB := uH HB hb; (try clear hb); (try clear hb2); (try clear hk); (try clear hi); have Q5a := Q0h.out; have Q5b := Q09.out; have Q5c : w82.cell? ⟨Q05, 0, none⟩ = some (.slice none 0 0) := (blk_cell Q04.out 0).trans rfl; have Q5d : w82.cell? ⟨Q05, 1, none⟩ = some (.slice none 0 0) := (blk_cell Q04.out 1).trans rfl; have Q5e := blk_frozen Q04.out 0; have Q5f := blk_frozen Q04.out 1))
  refine bodyPost_ret (results_ct rfl _ _ Q05 60 #[.slice none 0 0, .slice none 0 0] (0, 0) _ rfl (by (with_reducible repeat (first | refine bN ?_ _ | refine bD ?_ | refine bA ?_ _)); refine blk_put (cs := #[.slice none 0 0, .slice none 0 0]) ?_ 1 _ rfl; (with_reducible repeat (first | refine bN ?_ _ | refine bD ?_ | refine bA ?_ _)); refine blk_put (cs := #[.slice none 0 0, .slice none 0 0]) ?_ 0 _ rfl; (with_reducible repeat (first | refine bN ?_ _ | refine bD ?_ | refine bA ?_ _)); exact Q04.out) Try.underlying60 rfl (by kernel_rfl)) rfl ?_
  exact ⟨_, _, by first | rfl | (simp [errW_none, errW_some] <;> rfl) | (simp [*, errW_none, errW_some] <;> rfl), by first | exact Kd.R_nil _ _ _ _ _ | exact Kd.N_nil _ _ _ _ _ | exact Kd.V_nil _ _ _ _ _ | exact Kd.Q_nil _ _ _ _ _ | exact Kd.S_nil _ _ _ _ _, by first | exact Kd.R_nil _ _ _ _ _ | exact Kd.N_nil _ _ _ _ _ | exact Kd.V_nil _ _ _ _ _ | exact Kd.Q_nil _ _ _ _ _ | exact Kd.S_nil _ _ _ _ _, by repeat (first | (with_reducible first | exact HB.out | apply wA | apply wN | apply wD | refine below_set ?_ Q0i.out | refine below_set ?_ Q0j.out | refine below_set ?_ Q0m.out | refine below_set ?_ Q0r.out | refine below_set ?_ Q0y.out) | exact HB.out)⟩
end Go.Proofs.Ytillofiphkmjjaa.X

namespace Go.Proofs.Ytillofiphkmjjaa.X
open Go.RowKit Go.Proofs.YtillofiphkmjjaaW.PrintWords Go.Proofs.YtillofiphkmjjaaW.PrintLast Go.Proofs.YtillofiphkmjjaaW.PrintMore
open Go.Proofs.YtillofiphkmjjaaW.PrintWords renaming blk_drewN → bN, blk_drew → bD, blk_alloc → bA, below_alloc → wA, pw_below_drewN → wN, below_drew1 → wD, blk_below → bB, below_step → wS, blk_at → bT, blk_grown → bG
open Go.Proofs.YtillofiphkmjjaaW.PrintWords.Kd renaming R_alloc → rA, R_drewN → rN, R_drew → rD, R_below → rB, R_grown → rG, C_below → cB, C_alloc → cA, C_drewN → cN, C_drew → cD
attribute [local go_sem] max2_int min2_int max_two min_two max_three min_three max_four min_four
set_option linter.unusedVariables false
set_option linter.unusedSimpArgs false
/-! ### scarfjointref11_agree: function 63 -/
def scarfjointref11_agree.l0 : Nat → List Int → List Int → List Int → Int → Option (List Int)
 | 0, _, _, _, _ => none
 | k + 1, x0, x1, x5, x6 => if x6 < (x0.length : Int) then (if 0 ≤ x6 then (if x6 < (x1.length : Int) then (if (rd x0 x6) = (rd x1 x6) then (if x5.length < 17592186044416 then (scarfjointref11_agree.l0 k x0 x1 (x5 ++ [x6]) (wrap64 (x6 + 1))) else (none)) else (scarfjointref11_agree.l0 k x0 x1 x5 (wrap64 (x6 + 1)))) else (none)) else (none)) else (some x5)
def scarfjointref11_agree.f (k : Nat) (l0 : List Int) (l1 : List Int) : Option (List Int) := scarfjointref11_agree.l0 k l0 l1 ([] : List Int) 0
theorem scarfjointref11_agree.mono_l : ∀ k, (∀ y0 y1 y2 y3, LeO (scarfjointref11_agree.l0 k y0 y1 y2 y3) (scarfjointref11_agree.l0 (k + 1) y0 y1 y2 y3))
 | 0 => fun _ _ _ _ r h => by simp [scarfjointref11_agree.l0] at h
 | k + 1 => by
  have ih0 := scarfjointref11_agree.mono_l k
  ·intro y0 y1 y2 y3
   unfold scarfjointref11_agree.l0
   repeat' first
   | (with_reducible exact ih0 _ _ _ _)
   | (with_reducible exact LeO.refl _)
   | (with_reducible exact LeO.none _)
   | (with_reducible refine LeO.ite ?_ ?_)
   | (with_reducible refine LeO.bind ?_ (fun _ => ?_))
   | exact ih0 _ _ _ _
   | exact LeO.none _
   | refine LeO.ite ?_ ?_
   | refine LeO.bind ?_ (fun _ => ?_)
theorem scarfjointref11_agree.mono : ∀ a0 a1 k, LeO (scarfjointref11_agree.f k a0 a1) (scarfjointref11_agree.f (k + 1) a0 a1) := by
 intro a0 a1 k
 have ih0 := scarfjointref11_agree.mono_l k
 unfold scarfjointref11_agree.f
 repeat' first
   | (with_reducible exact ih0 _ _ _ _)
   | (with_reducible exact LeO.refl _)
   | (with_reducible exact LeO.none _)
   | (with_reducible refine LeO.ite ?_ ?_)
   | (with_reducible refine LeO.bind ?_ (fun _ => ?_))
   | exact ih0 _ _ _ _
   | exact LeO.none _
   | refine LeO.ite ?_ ?_
   | refine LeO.bind ?_ (fun _ => ?_)
set_option maxHeartbeats 8000000 in
set_option maxRecDepth 100000 in
theorem scarfjointref11_agree.calls (k : Nat) (A0 : Option Addr) (c0 : Nat) (l0 : List Int) (A1 : Option Addr) (c1 : Nat) (l1 : List Int) (r : List Int) (w : World) (hr0 : Kd.C (Kd.int .i64) w A0 l0.length l0) (hc0 : l0.length ≤ c0) (hr1 : Kd.C (Kd.int .i64) w A1 l1.length l1) (hc1 : l1.length ≤ c1) (h : scarfjointref11_agree.f k l0 l1 = some r) :
  Calls Try.prog 63 #[.slice A0 l0.length c0, .slice A1 l1.length c1] w fun e w' => ∃ v0_ : Value, e = .returned (v0_) ∧ Kd.R (Kd.int .i64) 3 w' w.heap.size (fun _ => True) v0_ r ∧ Below w.heap.size w w' := by
 have HR0 := Aside0.mk hr0
 have HC0 := Aside0.mk hc0
 clear hr0 hc0
 have HR1 := Aside0.mk hr1
 have HC1 := Aside0.mk hc1
 clear hr1 hc1
 have HB := Aside0.mk (Below.refl w.heap.size w)
 have H : (scarfjointref11_agree.l0 k l0 l1 ([] : List Int) 0) = some r := h
 clear h
 have H' := Aside0.mk H
 clear H
 go_enter Try.func63, Try.ntmps63
 go_wp2
 repeat (go_quiet (fail); try go_wp2)
 go_loopg [5, 6] k (fun kq v5 v6 w' => ∃ (x5_1 : List Int) (x6_1 : Int), v6 = .int .i64 x6_1 ∧ Aside0 (scarfjointref11_agree.l0 kq l0 l1 x5_1 x6_1 = some r) ∧ Aside0 (kq ≤ k) ∧ Aside0 (Kd.R (Kd.int .i64) 3 w' w.heap.size (fun _ => True) v5 x5_1) ∧ Aside0 (Below w.heap.size w w'))
 case atStart => exact ⟨(([] : List Int)), (0), rS, H', ⟨Nat.le_refl _⟩, ⟨by first | exact Kd.R_nil _ _ _ _ _ | exact Kd.N_nil _ _ _ _ _ | exact Kd.V_nil _ _ _ _ _ | exact Kd.Q_nil _ _ _ _ _ | exact Kd.S_nil _ _ _ _ _⟩, ⟨pH HB⟩⟩
 case round =>
  clear H'
  try clear c1; try clear p2
  obtain ⟨x5_1, x6_1, rfl, HA, HK1, Q00, HB⟩ := hrel
  cases gk with
  | zero => exact absurd HA.out (by simp [scarfjointref11_agree.l0])
  | succ k1 =>
   have H := HA.out
   clear HA
   simp only [scarfjointref11_agree.l0] at H
   by_cases c3 : x6_1 < (l0.length : Int)
   ·rw [if_pos c3] at H
    have c3b0 : decide (x6_1 < (l0.length : Int)) = true := decide_eq_true c3
    clear c3
    by_cases c4 : 0 ≤ x6_1
    ·rw [if_pos c4] at H
     have c4b0 : decide (0 ≤ x6_1) = true := decide_eq_true c4
     clear c4
     by_cases c5 : x6_1 < (l1.length : Int)
     ·rw [if_pos c5] at H
      have c5b0 : decide (x6_1 < (l1.length : Int)) = true := decide_eq_true c5
      clear c5
      by_cases c6 : (rd l0 x6_1) = (rd l1 x6_1)
      ·rw [if_pos c6] at H
       have c6b0 : ((rd l0 x6_1) == (rd l1 x6_1)) = true := beq_iff_eq.mpr c6
       have c6b1 : ((rd l0 x6_1) != (rd l1 x6_1)) = false := bne_eq_false_iff_eq.mpr c6
       clear c6
       by_cases c7 : x5_1.length < 17592186044416
       ·rw [if_pos c7] at H
        have LMc7 := Aside0.mk c7
        clear c7
        obtain ⟨y103, hy103⟩ : ∃ y_ : List Int, y_ = (x5_1 ++ [x6_1]) := ⟨_, rfl⟩
        replace H : (scarfjointref11_agree.l0 k1 l0 l1 y103 (wrap64 (x6_1 + 1))) = some r := by first | (rw [hy103]; with_reducible exact H) | (have H2_ := (Option.bind_some _ _).symm.trans H; rw [hy103]; with_reducible exact H2_) | (have H2_ := (Option.bind_some _ _).symm.trans H; with_reducible exact H2_) | with_reducible exact H | (rw [hy103]; exact H) | exact H
        have Ny103 := Aside0.mk hy103
        clear hy103
        have H' := Aside0.mk H
        clear H
        have p101 : 0 ≤ (x6_1 : Int) := oT
        have q101 : x6_1 < (l0.length : Int) := oT
        obtain ⟨ad101, e101, hx101_0⟩ := Kd.at_int HR0.out x6_1 p101 q101
        cases e101
        replace hx101_0 := (HB.out.cell (World.block_lt_of_cell? w _ hx101_0)).trans hx101_0
        replace p101 := eq_true p101
        replace q101 := eq_true q101
        have p102 : 0 ≤ (x6_1 : Int) := oT
        have q102 : x6_1 < (l1.length : Int) := oT
        obtain ⟨ad102, e102, hx102_0⟩ := Kd.at_int HR1.out x6_1 p102 q102
        cases e102
        replace hx102_0 := (HB.out.cell (World.block_lt_of_cell? w _ hx102_0)).trans hx102_0
        replace p102 := eq_true p102
        replace q102 := eq_true q102
        iterate 3 (try (go_wp2_with (first | ((with_reducible refine gate_builtin (b := .append) (xs := #[.tmp 22, .tmp 24]) rfl ?_); at_builtin; refine Kd.R_append (Kd.int .i64) (w0 := w) w.heap.size rfl (.tmp 22) (.tmp 24) 22 3 (.int .i64 0) 8 rfl Try.underlying22 info3 rfl (by decide) (by omega) u5 x5_1 x6_1 [.int .i64 x6_1] (fun _ => True) (fun _ => False) rfl rfl ?aP (fun _ hk => hk.elim) ?aF ?aO ?aB ?aS ?aL ?_; (case aP => exact rfl); (case aB => exact hB); (case aF => exact (fun _ _ => trivial)); (case aO => exact (pR Q00)); (case aS => exact (below_size hB)); (case aL => have := LMc7.out; omega); intro v104 w8 ho hb hg hat; rw [← Ny103.out] at ho; replace HB := Aside0.mk (hb); have Q01 := Aside0.mk (ho); clear Q00; clear ho hb hg hat))); try (go_quiet (fail)))
        go_roundg k1
        case measure => have := HK1.out; omega
        case rel => exact ⟨(y103), (wrap64 (x6_1 + 1)), rS, H', ⟨by have := HK1.out; omega⟩, ⟨pR Q01⟩, ⟨pH HB⟩⟩
       ·rw [if_neg c7] at H
        exact absurd H (by simp)
      ·rw [if_neg c6] at H
       have c6b0 : ((rd l0 x6_1) == (rd l1 x6_1)) = false := beq_eq_false_iff_ne.mpr c6
       have c6b1 : ((rd l0 x6_1) != (rd l1 x6_1)) = true := bne_iff_ne.mpr c6
       have H' := Aside0.mk H
       clear H
       have p101 : 0 ≤ (x6_1 : Int) := oT
       have q101 : x6_1 < (l0.length : Int) := oT
       obtain ⟨ad101, e101, hx101_0⟩ := Kd.at_int HR0.out x6_1 p101 q101
       cases e101
       replace hx101_0 := (HB.out.cell (World.block_lt_of_cell? w _ hx101_0)).trans hx101_0
       replace p101 := eq_true p101
       replace q101 := eq_true q101
       have p102 : 0 ≤ (x6_1 : Int) := oT
       have q102 : x6_1 < (l1.length : Int) := oT
       obtain ⟨ad102, e102, hx102_0⟩ := Kd.at_int HR1.out x6_1 p102 q102
       cases e102
       replace hx102_0 := (HB.out.cell (World.block_lt_of_cell? w _ hx102_0)).trans hx102_0
       replace p102 := eq_true p102
       replace q102 := eq_true q102
       go_wp2
       repeat (go_quiet (fail); try go_wp2)
       go_roundg k1
       case measure => have := HK1.out; omega
       case rel => exact ⟨(x5_1), (wrap64 (x6_1 + 1)), rS, H', ⟨by have := HK1.out; omega⟩, ⟨pR Q00⟩, ⟨pH HB⟩⟩
     ·rw [if_neg c5] at H
      exact absurd H (by simp)
    ·rw [if_neg c4] at H
     exact absurd H (by simp)
   ·rw [if_neg c3] at H
    have c3b0 : decide (x6_1 < (l0.length : Int)) = false := decide_eq_false c3
    clear c3
    obtain rfl := Option.some.inj H
    go_wp2
    repeat (go_quiet (fail); try go_wp2)
    go_ret
    exact ⟨_, by first | rfl | (simp [errW_none, errW_some] <;> rfl) | (simp [*, errW_none, errW_some] <;> rfl), by (with_reducible repeat (first | apply rA | apply rN | apply rD)); exact Q00.out, by repeat (first | (with_reducible first | exact HB.out | apply wA | apply wN | apply wD) | exact HB.out)⟩
end Go.Proofs.Ytillofiphkmjjaa.X
