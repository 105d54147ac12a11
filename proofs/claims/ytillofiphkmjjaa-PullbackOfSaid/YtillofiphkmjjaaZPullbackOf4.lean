/- A part of the proof that the law PullbackOf returns true at every input: contracts of the functions that it calls, and lemmas. -/
import Derived.Test.YtillofiphkmjjaaZPullbackOf3
/- morphism.Injective and Surjective (47, 48), walked by hand. -/
namespace Go.Proofs.Ytillofiphkmjjaa.X
open Go.RowKit Go.Proofs.YtillofiphkmjjaaW.PrintWords Go.Proofs.YtillofiphkmjjaaW.PrintLast Go.Proofs.YtillofiphkmjjaaW.PrintMore
set_option linter.unusedVariables false
set_option linter.unusedSimpArgs false
def T47 : Bool × List (List Nat × List Nat) := (true, [([], []), ([], []), ([], []), ([0, 1, 2], [0, 1, 2]), ([3], [3]), ([4, 3], [4]), ([5], [5]), ([6, 5], [5, 6]), ([7, 5, 5], [5, 7]), ([5], [5]), ([9, 5], [5, 9]), ([10, 5], [5, 10]), ([8, 11, 5], [5, 8, 11]), ([5, 12], [5, 12]), ([13, 8], [13]), ([14], [14]), ([15, 14], [14, 15]), ([16, 14, 14], [14, 16]), ([14], [14]), ([18, 14], [14, 18]), ([19, 14], [14, 19]), ([17, 20, 14], [14, 17, 20]), ([14, 21], [14, 21]), ([22, 17, 0, 1, 2, 3, 4, 5, 6, 7, 8, 9, 10, 11, 12, 13, 14, 15, 16, 17, 18, 19, 20, 21, 22], [22])])
theorem tab47 : rtab .any (opsOf Try.f47 1) = T47 := by kernel_rfl
def J47 (W0 : World) (B3 B4 B5 : Nat) (A0 : Option Addr) (c0 : Nat) (a0 : List Int) (A1 : Option Addr) (c1 : Nat) (a1 : List S94) (A2 : Option Addr) (c2 : Nat) (b0 : List Int) (A3 : Option Addr) (c3 : Nat) (b1 : List S94) (A4 : Option Addr) (c4 : Nat) (n : List Int) (A5 : Option Addr) (c5 : Nat) (m : List Int) (g1 g2 g3 : Bool) (l : List Bool) (a : Act) (w' : World) : Prop :=
 ∃ (y0 y1 y2 y3 y4 y5 y6 y7 y8 y9 y10 y11 y12 y13 y14 y15 y16 y17 y18 y19 y20 y21 y22 y23 : Bool), l = [y0, y1, y2, y3, y4, y5, y6, y7, y8, y9, y10, y11, y12, y13, y14, y15, y16, y17, y18, y19, y20, y21, y22, y23] ∧ a = ⟨#[.agg #[.slice A0 a0.length c0, .slice A1 a1.length c1], .agg #[.slice A2 b0.length c2, .slice A3 b1.length c3], .agg #[.slice A4 n.length c4, .slice A5 m.length c5], .pointer (some ⟨B3, 0, none⟩), .pointer (some ⟨B4, 0, none⟩), .pointer (some ⟨B5, 0, none⟩), (cond y23 (.bool (g1 && g2 && g3)) (.bool false)), (cond y0 (.agg #[.slice A0 a0.length c0, .slice A1 a1.length c1]) (undef)), (cond y1 (.agg #[.slice A2 b0.length c2, .slice A3 b1.length c3]) (undef)), (cond y2 (.agg #[.slice A4 n.length c4, .slice A5 m.length c5]) (undef)), (cond y3 (.int .i64 (mvalid a0 a1 b0 b1 n m)) (undef)), (cond y4 (.bool g1) (undef)), (cond y5 (.bool g1) (undef)), (cond y6 (cond g1 (.pointer (some ⟨B5, 0, none⟩)) undef) (undef)), (cond y7 (cond g1 (.slice A4 n.length c4) undef) (undef)), (cond y8 (cond g1 (.int .i64 (nd n)) undef) (undef)), (cond y9 (cond g1 (.pointer (some ⟨B5, 0, none⟩)) undef) (undef)), (cond y10 (cond g1 (.slice A4 n.length c4) undef) (undef)), (cond y11 (cond g1 (.int .i64 (n.length : Int)) undef) (undef)), (cond y12 (cond g1 (.bool g2) undef) (undef)), (cond y13 (.bool (g1 && g2)) (undef)), (cond y14 (.bool (g1 && g2)) (undef)), (cond y15 (cond (g1 && g2) (.pointer (some ⟨B5, 1, none⟩)) undef) (undef)), (cond y16 (cond (g1 && g2) (.slice A5 m.length c5) undef) (undef)), (cond y17 (cond (g1 && g2) (.int .i64 (nd m)) undef) (undef)), (cond y18 (cond (g1 && g2) (.pointer (some ⟨B5, 1, none⟩)) undef) (undef)), (cond y19 (cond (g1 && g2) (.slice A5 m.length c5) undef) (undef)), (cond y20 (cond (g1 && g2) (.int .i64 (m.length : Int)) undef) (undef)), (cond y21 (cond (g1 && g2) (.bool g3) undef) (undef)), (cond y22 (.bool (g1 && g2 && g3)) (undef))], []⟩ ∧ Since W0 w'
set_option maxRecDepth 100000 in
set_option maxHeartbeats 4000000 in
theorem J47_step (W0 : World) (B3 B4 B5 : Nat) (A0 : Option Addr) (c0 : Nat) (a0 : List Int) (A1 : Option Addr) (c1 : Nat) (a1 : List S94) (A2 : Option Addr) (c2 : Nat) (b0 : List Int) (A3 : Option Addr) (c3 : Nat) (b1 : List S94) (A4 : Option Addr) (c4 : Nat) (n : List Int) (A5 : Option Addr) (c5 : Nat) (m : List Int) (g1 g2 g3 : Bool) (BX : Box2 W0 B3 25 (.slice A0 a0.length c0) (.slice A1 a1.length c1)) (BY : Box2 W0 B4 25 (.slice A2 b0.length c2) (.slice A3 b1.length c3)) (BZ : Box2 W0 B5 27 (.slice A4 n.length c4) (.slice A5 m.length c5))
  (R0 : Row (Kd.int .i64) W0 A0 c0 a0) (R1 : Row k94 W0 A1 c1 a1) (R2 : Row (Kd.int .i64) W0 A2 c2 b0) (R3 : Row k94 W0 A3 c3 b1) (R4 : Row (Kd.int .i64) W0 A4 c4 n) (R5 : Row (Kd.int .i64) W0 A5 c5 m)
  (h1 : decide ((mvalid a0 a1 b0 b1 n m) = 0) = g1) (h2 : g1 = true → decide (nd n = (n.length : Int)) = g2) (h3 : (g1 && g2) = true → decide (nd m = (m.length : Int)) = g3) (hn : g1 = true → n.length ≤ 1000000) (hm : g1 = true → m.length ≤ 1000000)
  {Q_ : Exit → Act → World → Prop} : ∀ l a w' i, J47 W0 B3 B4 B5 A0 c0 a0 A1 c1 a1 A2 c2 b0 A3 c3 b1 A4 c4 n A5 c5 m g1 g2 g3 l a w' → l.length = (opsOf Try.f47 1).size → readyAt T47.2 l i = true → i < T47.2.length → wpOp Try.prog (opsOf Try.f47 1) Q_ i (fun a' w'' => J47 W0 B3 B4 B5 A0 c0 a0 A1 c1 a1 A2 c2 b0 A3 c3 b1 A4 c4 n A5 c5 m g1 g2 g3 (l.set i true) a' w'') a w' := by
 rintro l a w' i ⟨y0, y1, y2, y3, y4, y5, y6, y7, y8, y9, y10, y11, y12, y13, y14, y15, y16, y17, y18, y19, y20, y21, y22, y23, rfl, rfl, sb⟩ _ hr hi
 have hu25 := Try.underlying25
 have hu27 := Try.underlying27
 replace hi : i < 24 := hi
 have hcase : i = 0 ∨ i = 1 ∨ i = 2 ∨ i = 3 ∨ i = 4 ∨ i = 5 ∨ i = 6 ∨ i = 7 ∨ i = 8 ∨ i = 9 ∨ i = 10 ∨ i = 11 ∨ i = 12 ∨ i = 13 ∨ i = 14 ∨ i = 15 ∨ i = 16 ∨ i = 17 ∨ i = 18 ∨ i = 19 ∨ i = 20 ∨ i = 21 ∨ i = 22 ∨ i = 23 := by omega
 rcases hcase with rfl | rfl | rfl | rfl | rfl | rfl | rfl | rfl | rfl | rfl | rfl | rfl | rfl | rfl | rfl | rfl | rfl | rfl | rfl | rfl | rfl | rfl | rfl | rfl
 ·-- 0
  obtain rfl : y0 = false := need_not hr
  clear hr
  have hx0 := (BX.below sb.get).c0
  have hx1 := (BX.below sb.get).c1
  refine wpOp_step (i := 0) (o := { dst := some 7, op := Op.load 25 (Operand.tmp 3), type := 25, pos := "morphism.go:93", after := #[], guard := none }) (by rfl) (fun K hK => ?_)
  refine event_step (v := .agg #[.slice A0 a0.length c0, .slice A1 a1.length c1]) (w1 := w') rfl ?_ ?_
  ·first | (go_simp; done) | (go_simp; rfl)
  refine hK _ _ ⟨_, _, _, _, _, _, _, _, _, _, _, _, _, _, _, _, _, _, _, _, _, _, _, _, rfl, rfl, sb⟩
 ·-- 1
  obtain rfl : y1 = false := need_not hr
  clear hr
  have hx0 := (BY.below sb.get).c0
  have hx1 := (BY.below sb.get).c1
  refine wpOp_step (i := 1) (o := { dst := some 8, op := Op.load 25 (Operand.tmp 4), type := 25, pos := "morphism.go:93", after := #[], guard := none }) (by rfl) (fun K hK => ?_)
  refine event_step (v := .agg #[.slice A2 b0.length c2, .slice A3 b1.length c3]) (w1 := w') rfl ?_ ?_
  ·first | (go_simp; done) | (go_simp; rfl)
  refine hK _ _ ⟨_, _, _, _, _, _, _, _, _, _, _, _, _, _, _, _, _, _, _, _, _, _, _, _, rfl, rfl, sb⟩
 ·-- 2
  obtain rfl : y2 = false := need_not hr
  clear hr
  have hx0 := (BZ.below sb.get).c0
  have hx1 := (BZ.below sb.get).c1
  refine wpOp_step (i := 2) (o := { dst := some 9, op := Op.load 27 (Operand.tmp 5), type := 27, pos := "morphism.go:93", after := #[], guard := none }) (by rfl) (fun K hK => ?_)
  refine event_step (v := .agg #[.slice A4 n.length c4, .slice A5 m.length c5]) (w1 := w') rfl ?_ ?_
  ·first | (go_simp; done) | (go_simp; rfl)
  refine hK _ _ ⟨_, _, _, _, _, _, _, _, _, _, _, _, _, _, _, _, _, _, _, _, _, _, _, _, rfl, rfl, sb⟩
 ·-- 3
  obtain rfl : y3 = false := need_not hr
  obtain rfl : y0 = true := need (j := 0) hr rfl (by decide)
  obtain rfl : y1 = true := need (j := 1) hr rfl (by decide)
  obtain rfl : y2 = true := need (j := 2) hr rfl (by decide)
  clear hr
  refine wpOp_step (i := 3) (o := { dst := some 10, op := Op.call { callee := Callee.value (Operand.func 42), args := #[Operand.tmp 7, Operand.tmp 8, Operand.tmp 9], argTypes := #[25, 25, 27] }, type := 34, pos := "morphism.go:93", after := #[aD 0, aD 1, aD 2], guard := none }) (by rfl) (fun K hK => ?_)
  refine goes_ Try.func42 (by kernel_rfl) rfl #[.agg #[.slice A0 a0.length c0, .slice A1 a1.length c1], .agg #[.slice A2 b0.length c2, .slice A3 b1.length c3], .agg #[.slice A4 n.length c4, .slice A5 m.length c5]] (by rfl) rfl rfl (by (try simp only [List.map_toArray, List.map_cons, List.map_nil]); first | done | rfl) ?_
  refine (morphism_Valid.calls _ _ a0 _ _ a1 _ _ b0 _ _ b1 _ _ n _ _ m (mvalid a0 a1 b0 b1 n m) _ (R0.below sb.get).at_ R0.cap (R1.below sb.get).at_ R1.cap (R2.below sb.get).at_ R2.cap (R3.below sb.get).at_ R3.cap (R4.below sb.get).at_ R4.cap (R5.below sb.get).at_ R5.cap rfl).mono ?_
  rintro e w1 ⟨rfl, hb⟩
  refine ⟨_, rfl, ?_⟩
  refine hK _ _ ⟨_, _, _, _, _, _, _, _, _, _, _, _, _, _, _, _, _, _, _, _, _, _, _, _, rfl, rfl, sb.step hb⟩
 ·-- 4
  obtain rfl : y4 = false := need_not hr
  obtain rfl : y3 = true := need (j := 3) hr rfl (by decide)
  clear hr
  refine wpOp_step (i := 4) (o := { dst := some 11, op := Op.binOp BinOp.eql 34 (Operand.tmp 10) (Operand.const (Value.int IntKind.i64 0)) 34, type := 4, pos := "morphism.go:93", after := #[aD 3], guard := none }) (by rfl) (fun K hK => ?_)
  have hb1 : ((mvalid a0 a1 b0 b1 n m) == 0) = g1 := h1
  refine event_step (v := .bool g1) (w1 := w') rfl ?_ ?_
  ·first | (go_simp; done) | (go_simp; rfl)
  refine hK _ _ ⟨_, _, _, _, _, _, _, _, _, _, _, _, _, _, _, _, _, _, _, _, _, _, _, _, rfl, rfl, sb⟩
 ·-- 5
  obtain rfl : y5 = false := need_not hr
  obtain rfl : y4 = true := need (j := 4) hr rfl (by decide)
  clear hr
  refine wpOp_step (i := 5) (o := { dst := some 12, op := Op.move (Operand.tmp 11), type := 4, pos := "morphism.go:93", after := #[aD 4, { on := 3, ground := Ground.chain }], guard := none }) (by rfl) (fun K hK => ?_)
  refine event_step (v := .bool g1) (w1 := w') rfl ?_ ?_
  ·first | (go_simp; done) | (go_simp; rfl)
  refine hK _ _ ⟨_, _, _, _, _, _, _, _, _, _, _, _, _, _, _, _, _, _, _, _, _, _, _, _, rfl, rfl, sb⟩
 ·-- 6
  obtain rfl : y6 = false := need_not hr
  obtain rfl : y5 = true := need (j := 5) hr rfl (by decide)
  clear hr
  refine wpOp_step (i := 6) (o := { dst := some 13, op := Op.fieldAddr 27 (Operand.tmp 5) 0, type := 0, pos := "morphism.go:93", after := #[aG 5], guard := some (5, true) }) (by rfl) (fun K hK => ?_)
  cases g1 with
  | false =>
   refine off_ (N := some 13) rfl ?_
   refine hK _ _ ⟨_, _, _, _, _, _, _, _, _, _, _, _, _, _, _, _, _, _, _, _, _, _, _, _, rfl, rfl, sb⟩
  | true =>
   refine event_step (v := .pointer (some ⟨B5, 0, none⟩)) (w1 := w') rfl ?_ ?_
   ·first | (go_simp; done) | (go_simp; rfl)
   refine hK _ _ ⟨_, _, _, _, _, _, _, _, _, _, _, _, _, _, _, _, _, _, _, _, _, _, _, _, rfl, rfl, sb⟩
 ·-- 7
  obtain rfl : y7 = false := need_not hr
  obtain rfl : y5 = true := need (j := 5) hr rfl (by decide)
  obtain rfl : y6 = true := need (j := 6) hr rfl (by decide)
  clear hr
  have hx0 := (BZ.below sb.get).c0
  have hx1 := (BZ.below sb.get).c1
  refine wpOp_step (i := 7) (o := { dst := some 14, op := Op.load 22 (Operand.tmp 13), type := 22, pos := "morphism.go:93", after := #[aD 6, aG 5], guard := some (5, true) }) (by rfl) (fun K hK => ?_)
  cases g1 with
  | false =>
   refine off_ (N := some 14) rfl ?_
   refine hK _ _ ⟨_, _, _, _, _, _, _, _, _, _, _, _, _, _, _, _, _, _, _, _, _, _, _, _, rfl, rfl, sb⟩
  | true =>
   refine event_step (v := .slice A4 n.length c4) (w1 := w') rfl ?_ ?_
   ·first | (go_simp; done) | (go_simp; rfl)
   refine hK _ _ ⟨_, _, _, _, _, _, _, _, _, _, _, _, _, _, _, _, _, _, _, _, _, _, _, _, rfl, rfl, sb⟩
 ·-- 8
  obtain rfl : y8 = false := need_not hr
  obtain rfl : y5 = true := need (j := 5) hr rfl (by decide)
  obtain rfl : y7 = true := need (j := 7) hr rfl (by decide)
  clear hr
  refine wpOp_step (i := 8) (o := { dst := some 15, op := Op.call { callee := Callee.value (Operand.func 75), args := #[Operand.tmp 14], argTypes := #[22] }, type := 3, pos := "morphism.go:93", after := #[aD 7, { on := 5, ground := Ground.chain }, aG 5], guard := some (5, true) }) (by rfl) (fun K hK => ?_)
  cases g1 with
  | false =>
   refine off_ (N := some 15) rfl ?_
   refine hK _ _ ⟨_, _, _, _, _, _, _, _, _, _, _, _, _, _, _, _, _, _, _, _, _, _, _, _, rfl, rfl, sb⟩
  | true =>
   refine goes_ Try.func75 (by kernel_rfl) rfl #[.slice A4 n.length c4] (by rfl) rfl rfl (by (try simp only [List.map_toArray, List.map_cons, List.map_nil]); first | done | rfl) ?_
   refine (images_calls _ _ n _ (R4.below sb.get).at_ R4.cap (hn rfl)).mono ?_
   rintro e w1 ⟨rfl, hb⟩
   refine ⟨_, rfl, ?_⟩
   refine hK _ _ ⟨_, _, _, _, _, _, _, _, _, _, _, _, _, _, _, _, _, _, _, _, _, _, _, _, rfl, rfl, sb.step hb⟩
 ·-- 9
  obtain rfl : y9 = false := need_not hr
  obtain rfl : y5 = true := need (j := 5) hr rfl (by decide)
  clear hr
  refine wpOp_step (i := 9) (o := { dst := some 16, op := Op.fieldAddr 27 (Operand.tmp 5) 0, type := 0, pos := "morphism.go:93", after := #[aG 5], guard := some (5, true) }) (by rfl) (fun K hK => ?_)
  cases g1 with
  | false =>
   refine off_ (N := some 16) rfl ?_
   refine hK _ _ ⟨_, _, _, _, _, _, _, _, _, _, _, _, _, _, _, _, _, _, _, _, _, _, _, _, rfl, rfl, sb⟩
  | true =>
   refine event_step (v := .pointer (some ⟨B5, 0, none⟩)) (w1 := w') rfl ?_ ?_
   ·first | (go_simp; done) | (go_simp; rfl)
   refine hK _ _ ⟨_, _, _, _, _, _, _, _, _, _, _, _, _, _, _, _, _, _, _, _, _, _, _, _, rfl, rfl, sb⟩
 ·-- 10
  obtain rfl : y10 = false := need_not hr
  obtain rfl : y5 = true := need (j := 5) hr rfl (by decide)
  obtain rfl : y9 = true := need (j := 9) hr rfl (by decide)
  clear hr
  have hx0 := (BZ.below sb.get).c0
  have hx1 := (BZ.below sb.get).c1
  refine wpOp_step (i := 10) (o := { dst := some 17, op := Op.load 22 (Operand.tmp 16), type := 22, pos := "morphism.go:93", after := #[aD 9, aG 5], guard := some (5, true) }) (by rfl) (fun K hK => ?_)
  cases g1 with
  | false =>
   refine off_ (N := some 17) rfl ?_
   refine hK _ _ ⟨_, _, _, _, _, _, _, _, _, _, _, _, _, _, _, _, _, _, _, _, _, _, _, _, rfl, rfl, sb⟩
  | true =>
   refine event_step (v := .slice A4 n.length c4) (w1 := w') rfl ?_ ?_
   ·first | (go_simp; done) | (go_simp; rfl)
   refine hK _ _ ⟨_, _, _, _, _, _, _, _, _, _, _, _, _, _, _, _, _, _, _, _, _, _, _, _, rfl, rfl, sb⟩
 ·-- 11
  obtain rfl : y11 = false := need_not hr
  obtain rfl : y5 = true := need (j := 5) hr rfl (by decide)
  obtain rfl : y10 = true := need (j := 10) hr rfl (by decide)
  clear hr
  refine wpOp_step (i := 11) (o := { dst := some 18, op := Op.call { callee := Callee.builtin Builtin.len, args := #[Operand.tmp 17], argTypes := #[22] }, type := 3, pos := "morphism.go:93", after := #[aD 10, aG 5], guard := some (5, true) }) (by rfl) (fun K hK => ?_)
  cases g1 with
  | false =>
   refine off_ (N := some 18) rfl ?_
   refine hK _ _ ⟨_, _, _, _, _, _, _, _, _, _, _, _, _, _, _, _, _, _, _, _, _, _, _, _, rfl, rfl, sb⟩
  | true =>
   refine event_step (v := .int .i64 (n.length : Int)) (w1 := w') rfl ?_ ?_
   ·first | (go_simp; done) | (go_simp; rfl)
   refine hK _ _ ⟨_, _, _, _, _, _, _, _, _, _, _, _, _, _, _, _, _, _, _, _, _, _, _, _, rfl, rfl, sb⟩
 ·-- 12
  obtain rfl : y12 = false := need_not hr
  obtain rfl : y5 = true := need (j := 5) hr rfl (by decide)
  obtain rfl : y8 = true := need (j := 8) hr rfl (by decide)
  obtain rfl : y11 = true := need (j := 11) hr rfl (by decide)
  clear hr
  refine wpOp_step (i := 12) (o := { dst := some 19, op := Op.binOp BinOp.eql 3 (Operand.tmp 15) (Operand.tmp 18) 3, type := 4, pos := "morphism.go:93", after := #[aD 8, aD 11, aG 5], guard := some (5, true) }) (by rfl) (fun K hK => ?_)
  cases g1 with
  | false =>
   refine off_ (N := some 19) rfl ?_
   refine hK _ _ ⟨_, _, _, _, _, _, _, _, _, _, _, _, _, _, _, _, _, _, _, _, _, _, _, _, rfl, rfl, sb⟩
  | true =>
   have hd2 := h2 rfl
   have hb2 : (nd n == (n.length : Int)) = g2 := hd2
   refine event_step (v := .bool g2) (w1 := w') rfl ?_ ?_
   ·first | (go_simp; done) | (go_simp; rfl)
   refine hK _ _ ⟨_, _, _, _, _, _, _, _, _, _, _, _, _, _, _, _, _, _, _, _, _, _, _, _, rfl, rfl, sb⟩
 ·-- 13
  obtain rfl : y13 = false := need_not hr
  obtain rfl : y5 = true := need (j := 5) hr rfl (by decide)
  obtain rfl : y12 = true := need (j := 12) hr rfl (by decide)
  clear hr
  refine wpOp_step (i := 13) (o := { dst := some 20, op := Op.pick (Operand.tmp 12) (Operand.tmp 19) (Operand.const (Value.bool false)), type := 4, pos := "morphism.go:93", after := #[aD 5, aD 12], guard := none }) (by rfl) (fun K hK => ?_)
  cases g1 with
  | false =>
   refine event_step (v := .bool (false && g2)) (w1 := w') rfl ?_ ?_
   ·first | (go_simp; done) | (go_simp; rfl)
   refine hK _ _ ⟨_, _, _, _, _, _, _, _, _, _, _, _, _, _, _, _, _, _, _, _, _, _, _, _, rfl, rfl, sb⟩
  | true =>
   refine event_step (v := .bool (true && g2)) (w1 := w') rfl ?_ ?_
   ·first | (go_simp; done) | (go_simp; rfl)
   refine hK _ _ ⟨_, _, _, _, _, _, _, _, _, _, _, _, _, _, _, _, _, _, _, _, _, _, _, _, rfl, rfl, sb⟩
 ·-- 14
  obtain rfl : y14 = false := need_not hr
  obtain rfl : y13 = true := need (j := 13) hr rfl (by decide)
  clear hr
  refine wpOp_step (i := 14) (o := { dst := some 21, op := Op.move (Operand.tmp 20), type := 4, pos := "morphism.go:93", after := #[aD 13, { on := 8, ground := Ground.chain }], guard := none }) (by rfl) (fun K hK => ?_)
  refine event_step (v := .bool (g1 && g2)) (w1 := w') rfl ?_ ?_
  ·first | (go_simp; done) | (go_simp; rfl)
  refine hK _ _ ⟨_, _, _, _, _, _, _, _, _, _, _, _, _, _, _, _, _, _, _, _, _, _, _, _, rfl, rfl, sb⟩
 ·-- 15
  obtain rfl : y15 = false := need_not hr
  obtain rfl : y14 = true := need (j := 14) hr rfl (by decide)
  clear hr
  refine wpOp_step (i := 15) (o := { dst := some 22, op := Op.fieldAddr 27 (Operand.tmp 5) 1, type := 0, pos := "morphism.go:93", after := #[aG 14], guard := some (14, true) }) (by rfl) (fun K hK => ?_)
  cases g1 with
  | false =>
   refine off_ (N := some 22) rfl ?_
   refine hK _ _ ⟨_, _, _, _, _, _, _, _, _, _, _, _, _, _, _, _, _, _, _, _, _, _, _, _, rfl, rfl, sb⟩
  | true =>
   cases g2 with
   | false =>
    refine off_ (N := some 22) rfl ?_
    refine hK _ _ ⟨_, _, _, _, _, _, _, _, _, _, _, _, _, _, _, _, _, _, _, _, _, _, _, _, rfl, rfl, sb⟩
   | true =>
    refine event_step (v := .pointer (some ⟨B5, 1, none⟩)) (w1 := w') rfl ?_ ?_
    ·first | (go_simp; done) | (go_simp; rfl)
    refine hK _ _ ⟨_, _, _, _, _, _, _, _, _, _, _, _, _, _, _, _, _, _, _, _, _, _, _, _, rfl, rfl, sb⟩
 ·-- 16
  obtain rfl : y16 = false := need_not hr
  obtain rfl : y14 = true := need (j := 14) hr rfl (by decide)
  obtain rfl : y15 = true := need (j := 15) hr rfl (by decide)
  clear hr
  have hx0 := (BZ.below sb.get).c0
  have hx1 := (BZ.below sb.get).c1
  refine wpOp_step (i := 16) (o := { dst := some 23, op := Op.load 22 (Operand.tmp 22), type := 22, pos := "morphism.go:93", after := #[aD 15, aG 14], guard := some (14, true) }) (by rfl) (fun K hK => ?_)
  cases g1 with
  | false =>
   refine off_ (N := some 23) rfl ?_
   refine hK _ _ ⟨_, _, _, _, _, _, _, _, _, _, _, _, _, _, _, _, _, _, _, _, _, _, _, _, rfl, rfl, sb⟩
  | true =>
   cases g2 with
   | false =>
    refine off_ (N := some 23) rfl ?_
    refine hK _ _ ⟨_, _, _, _, _, _, _, _, _, _, _, _, _, _, _, _, _, _, _, _, _, _, _, _, rfl, rfl, sb⟩
   | true =>
    refine event_step (v := .slice A5 m.length c5) (w1 := w') rfl ?_ ?_
    ·first | (go_simp; done) | (go_simp; rfl)
    refine hK _ _ ⟨_, _, _, _, _, _, _, _, _, _, _, _, _, _, _, _, _, _, _, _, _, _, _, _, rfl, rfl, sb⟩
 ·-- 17
  obtain rfl : y17 = false := need_not hr
  obtain rfl : y14 = true := need (j := 14) hr rfl (by decide)
  obtain rfl : y16 = true := need (j := 16) hr rfl (by decide)
  clear hr
  refine wpOp_step (i := 17) (o := { dst := some 24, op := Op.call { callee := Callee.value (Operand.func 75), args := #[Operand.tmp 23], argTypes := #[22] }, type := 3, pos := "morphism.go:93", after := #[aD 16, { on := 14, ground := Ground.chain }, aG 14], guard := some (14, true) }) (by rfl) (fun K hK => ?_)
  cases g1 with
  | false =>
   refine off_ (N := some 24) rfl ?_
   refine hK _ _ ⟨_, _, _, _, _, _, _, _, _, _, _, _, _, _, _, _, _, _, _, _, _, _, _, _, rfl, rfl, sb⟩
  | true =>
   cases g2 with
   | false =>
    refine off_ (N := some 24) rfl ?_
    refine hK _ _ ⟨_, _, _, _, _, _, _, _, _, _, _, _, _, _, _, _, _, _, _, _, _, _, _, _, rfl, rfl, sb⟩
   | true =>
    refine goes_ Try.func75 (by kernel_rfl) rfl #[.slice A5 m.length c5] (by rfl) rfl rfl (by (try simp only [List.map_toArray, List.map_cons, List.map_nil]); first | done | rfl) ?_
    refine (images_calls _ _ m _ (R5.below sb.get).at_ R5.cap (hm rfl)).mono ?_
    rintro e w1 ⟨rfl, hb⟩
    refine ⟨_, rfl, ?_⟩
    refine hK _ _ ⟨_, _, _, _, _, _, _, _, _, _, _, _, _, _, _, _, _, _, _, _, _, _, _, _, rfl, rfl, sb.step hb⟩
 ·-- 18
  obtain rfl : y18 = false := need_not hr
  obtain rfl : y14 = true := need (j := 14) hr rfl (by decide)
  clear hr
  refine wpOp_step (i := 18) (o := { dst := some 25, op := Op.fieldAddr 27 (Operand.tmp 5) 1, type := 0, pos := "morphism.go:93", after := #[aG 14], guard := some (14, true) }) (by rfl) (fun K hK => ?_)
  cases g1 with
  | false =>
   refine off_ (N := some 25) rfl ?_
   refine hK _ _ ⟨_, _, _, _, _, _, _, _, _, _, _, _, _, _, _, _, _, _, _, _, _, _, _, _, rfl, rfl, sb⟩
  | true =>
   cases g2 with
   | false =>
    refine off_ (N := some 25) rfl ?_
    refine hK _ _ ⟨_, _, _, _, _, _, _, _, _, _, _, _, _, _, _, _, _, _, _, _, _, _, _, _, rfl, rfl, sb⟩
   | true =>
    refine event_step (v := .pointer (some ⟨B5, 1, none⟩)) (w1 := w') rfl ?_ ?_
    ·first | (go_simp; done) | (go_simp; rfl)
    refine hK _ _ ⟨_, _, _, _, _, _, _, _, _, _, _, _, _, _, _, _, _, _, _, _, _, _, _, _, rfl, rfl, sb⟩
 ·-- 19
  obtain rfl : y19 = false := need_not hr
  obtain rfl : y14 = true := need (j := 14) hr rfl (by decide)
  obtain rfl : y18 = true := need (j := 18) hr rfl (by decide)
  clear hr
  have hx0 := (BZ.below sb.get).c0
  have hx1 := (BZ.below sb.get).c1
  refine wpOp_step (i := 19) (o := { dst := some 26, op := Op.load 22 (Operand.tmp 25), type := 22, pos := "morphism.go:93", after := #[aD 18, aG 14], guard := some (14, true) }) (by rfl) (fun K hK => ?_)
  cases g1 with
  | false =>
   refine off_ (N := some 26) rfl ?_
   refine hK _ _ ⟨_, _, _, _, _, _, _, _, _, _, _, _, _, _, _, _, _, _, _, _, _, _, _, _, rfl, rfl, sb⟩
  | true =>
   cases g2 with
   | false =>
    refine off_ (N := some 26) rfl ?_
    refine hK _ _ ⟨_, _, _, _, _, _, _, _, _, _, _, _, _, _, _, _, _, _, _, _, _, _, _, _, rfl, rfl, sb⟩
   | true =>
    refine event_step (v := .slice A5 m.length c5) (w1 := w') rfl ?_ ?_
    ·first | (go_simp; done) | (go_simp; rfl)
    refine hK _ _ ⟨_, _, _, _, _, _, _, _, _, _, _, _, _, _, _, _, _, _, _, _, _, _, _, _, rfl, rfl, sb⟩
 ·-- 20
  obtain rfl : y20 = false := need_not hr
  obtain rfl : y14 = true := need (j := 14) hr rfl (by decide)
  obtain rfl : y19 = true := need (j := 19) hr rfl (by decide)
  clear hr
  refine wpOp_step (i := 20) (o := { dst := some 27, op := Op.call { callee := Callee.builtin Builtin.len, args := #[Operand.tmp 26], argTypes := #[22] }, type := 3, pos := "morphism.go:93", after := #[aD 19, aG 14], guard := some (14, true) }) (by rfl) (fun K hK => ?_)
  cases g1 with
  | false =>
   refine off_ (N := some 27) rfl ?_
   refine hK _ _ ⟨_, _, _, _, _, _, _, _, _, _, _, _, _, _, _, _, _, _, _, _, _, _, _, _, rfl, rfl, sb⟩
  | true =>
   cases g2 with
   | false =>
    refine off_ (N := some 27) rfl ?_
    refine hK _ _ ⟨_, _, _, _, _, _, _, _, _, _, _, _, _, _, _, _, _, _, _, _, _, _, _, _, rfl, rfl, sb⟩
   | true =>
    refine event_step (v := .int .i64 (m.length : Int)) (w1 := w') rfl ?_ ?_
    ·first | (go_simp; done) | (go_simp; rfl)
    refine hK _ _ ⟨_, _, _, _, _, _, _, _, _, _, _, _, _, _, _, _, _, _, _, _, _, _, _, _, rfl, rfl, sb⟩
 ·-- 21
  obtain rfl : y21 = false := need_not hr
  obtain rfl : y14 = true := need (j := 14) hr rfl (by decide)
  obtain rfl : y17 = true := need (j := 17) hr rfl (by decide)
  obtain rfl : y20 = true := need (j := 20) hr rfl (by decide)
  clear hr
  refine wpOp_step (i := 21) (o := { dst := some 28, op := Op.binOp BinOp.eql 3 (Operand.tmp 24) (Operand.tmp 27) 3, type := 4, pos := "morphism.go:93", after := #[aD 17, aD 20, aG 14], guard := some (14, true) }) (by rfl) (fun K hK => ?_)
  cases g1 with
  | false =>
   refine off_ (N := some 28) rfl ?_
   refine hK _ _ ⟨_, _, _, _, _, _, _, _, _, _, _, _, _, _, _, _, _, _, _, _, _, _, _, _, rfl, rfl, sb⟩
  | true =>
   cases g2 with
   | false =>
    refine off_ (N := some 28) rfl ?_
    refine hK _ _ ⟨_, _, _, _, _, _, _, _, _, _, _, _, _, _, _, _, _, _, _, _, _, _, _, _, rfl, rfl, sb⟩
   | true =>
    have hd3 := h3 rfl
    have hb3 : (nd m == (m.length : Int)) = g3 := hd3
    refine event_step (v := .bool g3) (w1 := w') rfl ?_ ?_
    ·first | (go_simp; done) | (go_simp; rfl)
    refine hK _ _ ⟨_, _, _, _, _, _, _, _, _, _, _, _, _, _, _, _, _, _, _, _, _, _, _, _, rfl, rfl, sb⟩
 ·-- 22
  obtain rfl : y22 = false := need_not hr
  obtain rfl : y14 = true := need (j := 14) hr rfl (by decide)
  obtain rfl : y21 = true := need (j := 21) hr rfl (by decide)
  clear hr
  refine wpOp_step (i := 22) (o := { dst := some 29, op := Op.pick (Operand.tmp 21) (Operand.tmp 28) (Operand.const (Value.bool false)), type := 4, pos := "morphism.go:93", after := #[aD 14, aD 21], guard := none }) (by rfl) (fun K hK => ?_)
  cases g1 with
  | false =>
   refine event_step (v := .bool (false && g2 && g3)) (w1 := w') rfl ?_ ?_
   ·first | (go_simp; done) | (go_simp; rfl)
   refine hK _ _ ⟨_, _, _, _, _, _, _, _, _, _, _, _, _, _, _, _, _, _, _, _, _, _, _, _, rfl, rfl, sb⟩
  | true =>
   cases g2 with
   | false =>
    refine event_step (v := .bool (true && false && g3)) (w1 := w') rfl ?_ ?_
    ·first | (go_simp; done) | (go_simp; rfl)
    refine hK _ _ ⟨_, _, _, _, _, _, _, _, _, _, _, _, _, _, _, _, _, _, _, _, _, _, _, _, rfl, rfl, sb⟩
   | true =>
    refine event_step (v := .bool (true && true && g3)) (w1 := w') rfl ?_ ?_
    ·first | (go_simp; done) | (go_simp; rfl)
    refine hK _ _ ⟨_, _, _, _, _, _, _, _, _, _, _, _, _, _, _, _, _, _, _, _, _, _, _, _, rfl, rfl, sb⟩
 ·-- 23
  obtain rfl : y23 = false := need_not hr
  obtain rfl : y22 = true := need (j := 22) hr rfl (by decide)
  clear hr
  refine wpOp_step (i := 23) (o := { dst := some 6, op := Op.assign (Operand.tmp 29), type := 4, pos := "morphism.go:93", after := #[aD 22, { on := 17, ground := Ground.chain }, aP 0, aP 1, aP 2, aP 3, aP 4, aP 5, aP 6, aP 7, aP 8, aP 9, aP 10, aP 11, aP 12, aP 13, aP 14, aP 15, aP 16, aP 17, aP 18, aP 19, aP 20, aP 21, aP 22], guard := none }) (by rfl) (fun K hK => ?_)
  refine event_step (v := .bool (g1 && g2 && g3)) (w1 := w') rfl ?_ ?_
  ·first | (go_simp; done) | (go_simp; rfl)
  refine hK _ _ ⟨_, _, _, _, _, _, _, _, _, _, _, _, _, _, _, _, _, _, _, _, _, _, _, _, rfl, rfl, sb⟩
set_option maxHeartbeats 4000000 in
set_option maxRecDepth 100000 in
theorem walk47 (A0 : Option Addr) (c0 : Nat) (a0 : List Int) (A1 : Option Addr) (c1 : Nat) (a1 : List S94) (A2 : Option Addr) (c2 : Nat) (b0 : List Int) (A3 : Option Addr) (c3 : Nat) (b1 : List S94) (A4 : Option Addr) (c4 : Nat) (n : List Int) (A5 : Option Addr) (c5 : Nat) (m : List Int) (w : World) (R0 : Row (Kd.int .i64) w A0 c0 a0) (R1 : Row k94 w A1 c1 a1) (R2 : Row (Kd.int .i64) w A2 c2 b0) (R3 : Row k94 w A3 c3 b1) (R4 : Row (Kd.int .i64) w A4 c4 n) (R5 : Row (Kd.int .i64) w A5 c5 m) (g1 g2 g3 : Bool)
  (h1 : decide ((mvalid a0 a1 b0 b1 n m) = 0) = g1) (h2 : g1 = true → decide (nd n = (n.length : Int)) = g2) (h3 : (g1 && g2) = true → decide (nd m = (m.length : Int)) = g3) (hn : g1 = true → n.length ≤ 1000000) (hm : g1 = true → m.length ≤ 1000000) :
  Calls Try.prog 47 #[.agg #[.slice A0 a0.length c0, .slice A1 a1.length c1], .agg #[.slice A2 b0.length c2, .slice A3 b1.length c3], .agg #[.slice A4 n.length c4, .slice A5 m.length c5]] w fun e w' => e = .returned (.bool (g1 && g2 && g3)) ∧ Below w.heap.size w w' := by
 have SB := Since.refl w
 have hu25 := Try.underlying25
 have hu27 := Try.underlying27
 go_enter Try.func47, Try.ntmps47
 go_upto_region 1 with fail
 obtain ⟨BX, BY, BZ, hb⟩ := tri_new w (.slice A0 a0.length c0) (.slice A1 a1.length c1) 25 (.slice A2 b0.length c2) (.slice A3 b1.length c3) 25 (.slice A4 n.length c4) (.slice A5 m.length c5) 27
 replace R0 := R0.below hb
 replace R1 := R1.below hb
 replace R2 := R2.below hb
 replace R3 := R3.below hb
 replace R4 := R4.below hb
 replace R5 := R5.below hb
 replace SB := SB.step hb
 clear hb
 generalize hw : (((w.alloc (.cells #[.slice A0 a0.length c0, .slice A1 a1.length c1] 25)).alloc (.cells #[.slice A2 b0.length c2, .slice A3 b1.length c3] 25)).alloc (.cells #[.slice A4 n.length c4, .slice A5 m.length c5] 27)) = w0 at *
 clear hw
 refine drawn_ (J47 w0 w.heap.size (w.heap.size + 1) (w.heap.size + 2) A0 c0 a0 A1 c1 a1 A2 c2 b0 A3 c3 b1 A4 c4 n A5 c5 m g1 g2 g3) T47 tab47 (by kernel_rfl) ?_ (J47_step w0 w.heap.size (w.heap.size + 1) (w.heap.size + 2) A0 c0 a0 A1 c1 a1 A2 c2 b0 A3 c3 b1 A4 c4 n A5 c5 m g1 g2 g3 BX BY BZ R0 R1 R2 R3 R4 R5 h1 h2 h3 hn hm) ?_
 ·exact ⟨false, false, false, false, false, false, false, false, false, false, false, false, false, false, false, false, false, false, false, false, false, false, false, false, rfl, rfl, ⟨below_drew1 (Below.refl _ _)⟩⟩
 rintro l a wd ⟨y0, y1, y2, y3, y4, y5, y6, y7, y8, y9, y10, y11, y12, y13, y14, y15, y16, y17, y18, y19, y20, y21, y22, y23, rfl, rfl, sb⟩ _ hr
 obtain rfl : y0 = true := all_done hr 0 rfl rfl
 obtain rfl : y1 = true := all_done hr 1 rfl rfl
 obtain rfl : y2 = true := all_done hr 2 rfl rfl
 obtain rfl : y3 = true := all_done hr 3 rfl rfl
 obtain rfl : y4 = true := all_done hr 4 rfl rfl
 obtain rfl : y5 = true := all_done hr 5 rfl rfl
 obtain rfl : y6 = true := all_done hr 6 rfl rfl
 obtain rfl : y7 = true := all_done hr 7 rfl rfl
 obtain rfl : y8 = true := all_done hr 8 rfl rfl
 obtain rfl : y9 = true := all_done hr 9 rfl rfl
 obtain rfl : y10 = true := all_done hr 10 rfl rfl
 obtain rfl : y11 = true := all_done hr 11 rfl rfl
 obtain rfl : y12 = true := all_done hr 12 rfl rfl
 obtain rfl : y13 = true := all_done hr 13 rfl rfl
 obtain rfl : y14 = true := all_done hr 14 rfl rfl
 obtain rfl : y15 = true := all_done hr 15 rfl rfl
 obtain rfl : y16 = true := all_done hr 16 rfl rfl
 obtain rfl : y17 = true := all_done hr 17 rfl rfl
 obtain rfl : y18 = true := all_done hr 18 rfl rfl
 obtain rfl : y19 = true := all_done hr 19 rfl rfl
 obtain rfl : y20 = true := all_done hr 20 rfl rfl
 obtain rfl : y21 = true := all_done hr 21 rfl rfl
 obtain rfl : y22 = true := all_done hr 22 rfl rfl
 obtain rfl : y23 = true := all_done hr 23 rfl rfl
 clear hr
 simp only [cond_true]
 go_wp2_with fail
 go_ret
 exact ⟨rfl, below_step SB.get sb.get⟩
theorem tab48 : rtab .any (opsOf Try.f48 1) = T47 := by kernel_rfl
def J48 (W0 : World) (B3 B4 B5 : Nat) (A0 : Option Addr) (c0 : Nat) (a0 : List Int) (A1 : Option Addr) (c1 : Nat) (a1 : List S94) (A2 : Option Addr) (c2 : Nat) (b0 : List Int) (A3 : Option Addr) (c3 : Nat) (b1 : List S94) (A4 : Option Addr) (c4 : Nat) (n : List Int) (A5 : Option Addr) (c5 : Nat) (m : List Int) (g1 g2 g3 : Bool) (l : List Bool) (a : Act) (w' : World) : Prop :=
 ∃ (y0 y1 y2 y3 y4 y5 y6 y7 y8 y9 y10 y11 y12 y13 y14 y15 y16 y17 y18 y19 y20 y21 y22 y23 : Bool), l = [y0, y1, y2, y3, y4, y5, y6, y7, y8, y9, y10, y11, y12, y13, y14, y15, y16, y17, y18, y19, y20, y21, y22, y23] ∧ a = ⟨#[.agg #[.slice A0 a0.length c0, .slice A1 a1.length c1], .agg #[.slice A2 b0.length c2, .slice A3 b1.length c3], .agg #[.slice A4 n.length c4, .slice A5 m.length c5], .pointer (some ⟨B3, 0, none⟩), .pointer (some ⟨B4, 0, none⟩), .pointer (some ⟨B5, 0, none⟩), (cond y23 (.bool (g1 && g2 && g3)) (.bool false)), (cond y0 (.agg #[.slice A0 a0.length c0, .slice A1 a1.length c1]) (undef)), (cond y1 (.agg #[.slice A2 b0.length c2, .slice A3 b1.length c3]) (undef)), (cond y2 (.agg #[.slice A4 n.length c4, .slice A5 m.length c5]) (undef)), (cond y3 (.int .i64 (mvalid a0 a1 b0 b1 n m)) (undef)), (cond y4 (.bool g1) (undef)), (cond y5 (.bool g1) (undef)), (cond y6 (cond g1 (.pointer (some ⟨B5, 0, none⟩)) undef) (undef)), (cond y7 (cond g1 (.slice A4 n.length c4) undef) (undef)), (cond y8 (cond g1 (.int .i64 (nd n)) undef) (undef)), (cond y9 (cond g1 (.pointer (some ⟨B4, 0, none⟩)) undef) (undef)), (cond y10 (cond g1 (.slice A2 b0.length c2) undef) (undef)), (cond y11 (cond g1 (.int .i64 (b0.length : Int)) undef) (undef)), (cond y12 (cond g1 (.bool g2) undef) (undef)), (cond y13 (.bool (g1 && g2)) (undef)), (cond y14 (.bool (g1 && g2)) (undef)), (cond y15 (cond (g1 && g2) (.pointer (some ⟨B5, 1, none⟩)) undef) (undef)), (cond y16 (cond (g1 && g2) (.slice A5 m.length c5) undef) (undef)), (cond y17 (cond (g1 && g2) (.int .i64 (nd m)) undef) (undef)), (cond y18 (cond (g1 && g2) (.pointer (some ⟨B4, 1, none⟩)) undef) (undef)), (cond y19 (cond (g1 && g2) (.slice A3 b1.length c3) undef) (undef)), (cond y20 (cond (g1 && g2) (.int .i64 (b1.length : Int)) undef) (undef)), (cond y21 (cond (g1 && g2) (.bool g3) undef) (undef)), (cond y22 (.bool (g1 && g2 && g3)) (undef))], []⟩ ∧ Since W0 w'
set_option maxRecDepth 100000 in
set_option maxHeartbeats 4000000 in
theorem J48_step (W0 : World) (B3 B4 B5 : Nat) (A0 : Option Addr) (c0 : Nat) (a0 : List Int) (A1 : Option Addr) (c1 : Nat) (a1 : List S94) (A2 : Option Addr) (c2 : Nat) (b0 : List Int) (A3 : Option Addr) (c3 : Nat) (b1 : List S94) (A4 : Option Addr) (c4 : Nat) (n : List Int) (A5 : Option Addr) (c5 : Nat) (m : List Int) (g1 g2 g3 : Bool) (BX : Box2 W0 B3 25 (.slice A0 a0.length c0) (.slice A1 a1.length c1)) (BY : Box2 W0 B4 25 (.slice A2 b0.length c2) (.slice A3 b1.length c3)) (BZ : Box2 W0 B5 27 (.slice A4 n.length c4) (.slice A5 m.length c5))
  (R0 : Row (Kd.int .i64) W0 A0 c0 a0) (R1 : Row k94 W0 A1 c1 a1) (R2 : Row (Kd.int .i64) W0 A2 c2 b0) (R3 : Row k94 W0 A3 c3 b1) (R4 : Row (Kd.int .i64) W0 A4 c4 n) (R5 : Row (Kd.int .i64) W0 A5 c5 m)
  (h1 : decide ((mvalid a0 a1 b0 b1 n m) = 0) = g1) (h2 : g1 = true → decide (nd n = (b0.length : Int)) = g2) (h3 : (g1 && g2) = true → decide (nd m = (b1.length : Int)) = g3) (hn : g1 = true → n.length ≤ 1000000) (hm : g1 = true → m.length ≤ 1000000)
  {Q_ : Exit → Act → World → Prop} : ∀ l a w' i, J48 W0 B3 B4 B5 A0 c0 a0 A1 c1 a1 A2 c2 b0 A3 c3 b1 A4 c4 n A5 c5 m g1 g2 g3 l a w' → l.length = (opsOf Try.f48 1).size → readyAt T47.2 l i = true → i < T47.2.length → wpOp Try.prog (opsOf Try.f48 1) Q_ i (fun a' w'' => J48 W0 B3 B4 B5 A0 c0 a0 A1 c1 a1 A2 c2 b0 A3 c3 b1 A4 c4 n A5 c5 m g1 g2 g3 (l.set i true) a' w'') a w' := by
 rintro l a w' i ⟨y0, y1, y2, y3, y4, y5, y6, y7, y8, y9, y10, y11, y12, y13, y14, y15, y16, y17, y18, y19, y20, y21, y22, y23, rfl, rfl, sb⟩ _ hr hi
 have hu25 := Try.underlying25
 have hu27 := Try.underlying27
 replace hi : i < 24 := hi
 have hcase : i = 0 ∨ i = 1 ∨ i = 2 ∨ i = 3 ∨ i = 4 ∨ i = 5 ∨ i = 6 ∨ i = 7 ∨ i = 8 ∨ i = 9 ∨ i = 10 ∨ i = 11 ∨ i = 12 ∨ i = 13 ∨ i = 14 ∨ i = 15 ∨ i = 16 ∨ i = 17 ∨ i = 18 ∨ i = 19 ∨ i = 20 ∨ i = 21 ∨ i = 22 ∨ i = 23 := by omega
 rcases hcase with rfl | rfl | rfl | rfl | rfl | rfl | rfl | rfl | rfl | rfl | rfl | rfl | rfl | rfl | rfl | rfl | rfl | rfl | rfl | rfl | rfl | rfl | rfl | rfl
 ·-- 0
  obtain rfl : y0 = false := need_not hr
  clear hr
  have hx0 := (BX.below sb.get).c0
  have hx1 := (BX.below sb.get).c1
  refine wpOp_step (i := 0) (o := { dst := some 7, op := Op.load 25 (Operand.tmp 3), type := 25, pos := "morphism.go:98", after := #[], guard := none }) (by rfl) (fun K hK => ?_)
  refine event_step (v := .agg #[.slice A0 a0.length c0, .slice A1 a1.length c1]) (w1 := w') rfl ?_ ?_
  ·first | (go_simp; done) | (go_simp; rfl)
  refine hK _ _ ⟨_, _, _, _, _, _, _, _, _, _, _, _, _, _, _, _, _, _, _, _, _, _, _, _, rfl, rfl, sb⟩
 ·-- 1
  obtain rfl : y1 = false := need_not hr
  clear hr
  have hx0 := (BY.below sb.get).c0
  have hx1 := (BY.below sb.get).c1
  refine wpOp_step (i := 1) (o := { dst := some 8, op := Op.load 25 (Operand.tmp 4), type := 25, pos := "morphism.go:98", after := #[], guard := none }) (by rfl) (fun K hK => ?_)
  refine event_step (v := .agg #[.slice A2 b0.length c2, .slice A3 b1.length c3]) (w1 := w') rfl ?_ ?_
  ·first | (go_simp; done) | (go_simp; rfl)
  refine hK _ _ ⟨_, _, _, _, _, _, _, _, _, _, _, _, _, _, _, _, _, _, _, _, _, _, _, _, rfl, rfl, sb⟩
 ·-- 2
  obtain rfl : y2 = false := need_not hr
  clear hr
  have hx0 := (BZ.below sb.get).c0
  have hx1 := (BZ.below sb.get).c1
  refine wpOp_step (i := 2) (o := { dst := some 9, op := Op.load 27 (Operand.tmp 5), type := 27, pos := "morphism.go:98", after := #[], guard := none }) (by rfl) (fun K hK => ?_)
  refine event_step (v := .agg #[.slice A4 n.length c4, .slice A5 m.length c5]) (w1 := w') rfl ?_ ?_
  ·first | (go_simp; done) | (go_simp; rfl)
  refine hK _ _ ⟨_, _, _, _, _, _, _, _, _, _, _, _, _, _, _, _, _, _, _, _, _, _, _, _, rfl, rfl, sb⟩
 ·-- 3
  obtain rfl : y3 = false := need_not hr
  obtain rfl : y0 = true := need (j := 0) hr rfl (by decide)
  obtain rfl : y1 = true := need (j := 1) hr rfl (by decide)
  obtain rfl : y2 = true := need (j := 2) hr rfl (by decide)
  clear hr
  refine wpOp_step (i := 3) (o := { dst := some 10, op := Op.call { callee := Callee.value (Operand.func 42), args := #[Operand.tmp 7, Operand.tmp 8, Operand.tmp 9], argTypes := #[25, 25, 27] }, type := 34, pos := "morphism.go:98", after := #[aD 0, aD 1, aD 2], guard := none }) (by rfl) (fun K hK => ?_)
  refine goes_ Try.func42 (by kernel_rfl) rfl #[.agg #[.slice A0 a0.length c0, .slice A1 a1.length c1], .agg #[.slice A2 b0.length c2, .slice A3 b1.length c3], .agg #[.slice A4 n.length c4, .slice A5 m.length c5]] (by rfl) rfl rfl (by (try simp only [List.map_toArray, List.map_cons, List.map_nil]); first | done | rfl) ?_
  refine (morphism_Valid.calls _ _ a0 _ _ a1 _ _ b0 _ _ b1 _ _ n _ _ m (mvalid a0 a1 b0 b1 n m) _ (R0.below sb.get).at_ R0.cap (R1.below sb.get).at_ R1.cap (R2.below sb.get).at_ R2.cap (R3.below sb.get).at_ R3.cap (R4.below sb.get).at_ R4.cap (R5.below sb.get).at_ R5.cap rfl).mono ?_
  rintro e w1 ⟨rfl, hb⟩
  refine ⟨_, rfl, ?_⟩
  refine hK _ _ ⟨_, _, _, _, _, _, _, _, _, _, _, _, _, _, _, _, _, _, _, _, _, _, _, _, rfl, rfl, sb.step hb⟩
 ·-- 4
  obtain rfl : y4 = false := need_not hr
  obtain rfl : y3 = true := need (j := 3) hr rfl (by decide)
  clear hr
  refine wpOp_step (i := 4) (o := { dst := some 11, op := Op.binOp BinOp.eql 34 (Operand.tmp 10) (Operand.const (Value.int IntKind.i64 0)) 34, type := 4, pos := "morphism.go:98", after := #[aD 3], guard := none }) (by rfl) (fun K hK => ?_)
  have hb1 : ((mvalid a0 a1 b0 b1 n m) == 0) = g1 := h1
  refine event_step (v := .bool g1) (w1 := w') rfl ?_ ?_
  ·first | (go_simp; done) | (go_simp; rfl)
  refine hK _ _ ⟨_, _, _, _, _, _, _, _, _, _, _, _, _, _, _, _, _, _, _, _, _, _, _, _, rfl, rfl, sb⟩
 ·-- 5
  obtain rfl : y5 = false := need_not hr
  obtain rfl : y4 = true := need (j := 4) hr rfl (by decide)
  clear hr
  refine wpOp_step (i := 5) (o := { dst := some 12, op := Op.move (Operand.tmp 11), type := 4, pos := "morphism.go:98", after := #[aD 4, { on := 3, ground := Ground.chain }], guard := none }) (by rfl) (fun K hK => ?_)
  refine event_step (v := .bool g1) (w1 := w') rfl ?_ ?_
  ·first | (go_simp; done) | (go_simp; rfl)
  refine hK _ _ ⟨_, _, _, _, _, _, _, _, _, _, _, _, _, _, _, _, _, _, _, _, _, _, _, _, rfl, rfl, sb⟩
 ·-- 6
  obtain rfl : y6 = false := need_not hr
  obtain rfl : y5 = true := need (j := 5) hr rfl (by decide)
  clear hr
  refine wpOp_step (i := 6) (o := { dst := some 13, op := Op.fieldAddr 27 (Operand.tmp 5) 0, type := 0, pos := "morphism.go:98", after := #[aG 5], guard := some (5, true) }) (by rfl) (fun K hK => ?_)
  cases g1 with
  | false =>
   refine off_ (N := some 13) rfl ?_
   refine hK _ _ ⟨_, _, _, _, _, _, _, _, _, _, _, _, _, _, _, _, _, _, _, _, _, _, _, _, rfl, rfl, sb⟩
  | true =>
   refine event_step (v := .pointer (some ⟨B5, 0, none⟩)) (w1 := w') rfl ?_ ?_
   ·first | (go_simp; done) | (go_simp; rfl)
   refine hK _ _ ⟨_, _, _, _, _, _, _, _, _, _, _, _, _, _, _, _, _, _, _, _, _, _, _, _, rfl, rfl, sb⟩
 ·-- 7
  obtain rfl : y7 = false := need_not hr
  obtain rfl : y5 = true := need (j := 5) hr rfl (by decide)
  obtain rfl : y6 = true := need (j := 6) hr rfl (by decide)
  clear hr
  have hx0 := (BZ.below sb.get).c0
  have hx1 := (BZ.below sb.get).c1
  refine wpOp_step (i := 7) (o := { dst := some 14, op := Op.load 22 (Operand.tmp 13), type := 22, pos := "morphism.go:98", after := #[aD 6, aG 5], guard := some (5, true) }) (by rfl) (fun K hK => ?_)
  cases g1 with
  | false =>
   refine off_ (N := some 14) rfl ?_
   refine hK _ _ ⟨_, _, _, _, _, _, _, _, _, _, _, _, _, _, _, _, _, _, _, _, _, _, _, _, rfl, rfl, sb⟩
  | true =>
   refine event_step (v := .slice A4 n.length c4) (w1 := w') rfl ?_ ?_
   ·first | (go_simp; done) | (go_simp; rfl)
   refine hK _ _ ⟨_, _, _, _, _, _, _, _, _, _, _, _, _, _, _, _, _, _, _, _, _, _, _, _, rfl, rfl, sb⟩
 ·-- 8
  obtain rfl : y8 = false := need_not hr
  obtain rfl : y5 = true := need (j := 5) hr rfl (by decide)
  obtain rfl : y7 = true := need (j := 7) hr rfl (by decide)
  clear hr
  refine wpOp_step (i := 8) (o := { dst := some 15, op := Op.call { callee := Callee.value (Operand.func 75), args := #[Operand.tmp 14], argTypes := #[22] }, type := 3, pos := "morphism.go:98", after := #[aD 7, { on := 5, ground := Ground.chain }, aG 5], guard := some (5, true) }) (by rfl) (fun K hK => ?_)
  cases g1 with
  | false =>
   refine off_ (N := some 15) rfl ?_
   refine hK _ _ ⟨_, _, _, _, _, _, _, _, _, _, _, _, _, _, _, _, _, _, _, _, _, _, _, _, rfl, rfl, sb⟩
  | true =>
   refine goes_ Try.func75 (by kernel_rfl) rfl #[.slice A4 n.length c4] (by rfl) rfl rfl (by (try simp only [List.map_toArray, List.map_cons, List.map_nil]); first | done | rfl) ?_
   refine (images_calls _ _ n _ (R4.below sb.get).at_ R4.cap (hn rfl)).mono ?_
   rintro e w1 ⟨rfl, hb⟩
   refine ⟨_, rfl, ?_⟩
   refine hK _ _ ⟨_, _, _, _, _, _, _, _, _, _, _, _, _, _, _, _, _, _, _, _, _, _, _, _, rfl, rfl, sb.step hb⟩
 ·-- 9
  obtain rfl : y9 = false := need_not hr
  obtain rfl : y5 = true := need (j := 5) hr rfl (by decide)
  clear hr
  refine wpOp_step (i := 9) (o := { dst := some 16, op := Op.fieldAddr 25 (Operand.tmp 4) 0, type := 0, pos := "morphism.go:98", after := #[aG 5], guard := some (5, true) }) (by rfl) (fun K hK => ?_)
  cases g1 with
  | false =>
   refine off_ (N := some 16) rfl ?_
   refine hK _ _ ⟨_, _, _, _, _, _, _, _, _, _, _, _, _, _, _, _, _, _, _, _, _, _, _, _, rfl, rfl, sb⟩
  | true =>
   refine event_step (v := .pointer (some ⟨B4, 0, none⟩)) (w1 := w') rfl ?_ ?_
   ·first | (go_simp; done) | (go_simp; rfl)
   refine hK _ _ ⟨_, _, _, _, _, _, _, _, _, _, _, _, _, _, _, _, _, _, _, _, _, _, _, _, rfl, rfl, sb⟩
 ·-- 10
  obtain rfl : y10 = false := need_not hr
  obtain rfl : y5 = true := need (j := 5) hr rfl (by decide)
  obtain rfl : y9 = true := need (j := 9) hr rfl (by decide)
  clear hr
  have hx0 := (BY.below sb.get).c0
  have hx1 := (BY.below sb.get).c1
  refine wpOp_step (i := 10) (o := { dst := some 17, op := Op.load 22 (Operand.tmp 16), type := 22, pos := "morphism.go:98", after := #[aD 9, aG 5], guard := some (5, true) }) (by rfl) (fun K hK => ?_)
  cases g1 with
  | false =>
   refine off_ (N := some 17) rfl ?_
   refine hK _ _ ⟨_, _, _, _, _, _, _, _, _, _, _, _, _, _, _, _, _, _, _, _, _, _, _, _, rfl, rfl, sb⟩
  | true =>
   refine event_step (v := .slice A2 b0.length c2) (w1 := w') rfl ?_ ?_
   ·first | (go_simp; done) | (go_simp; rfl)
   refine hK _ _ ⟨_, _, _, _, _, _, _, _, _, _, _, _, _, _, _, _, _, _, _, _, _, _, _, _, rfl, rfl, sb⟩
 ·-- 11
  obtain rfl : y11 = false := need_not hr
  obtain rfl : y5 = true := need (j := 5) hr rfl (by decide)
  obtain rfl : y10 = true := need (j := 10) hr rfl (by decide)
  clear hr
  refine wpOp_step (i := 11) (o := { dst := some 18, op := Op.call { callee := Callee.builtin Builtin.len, args := #[Operand.tmp 17], argTypes := #[22] }, type := 3, pos := "morphism.go:98", after := #[aD 10, aG 5], guard := some (5, true) }) (by rfl) (fun K hK => ?_)
  cases g1 with
  | false =>
   refine off_ (N := some 18) rfl ?_
   refine hK _ _ ⟨_, _, _, _, _, _, _, _, _, _, _, _, _, _, _, _, _, _, _, _, _, _, _, _, rfl, rfl, sb⟩
  | true =>
   refine event_step (v := .int .i64 (b0.length : Int)) (w1 := w') rfl ?_ ?_
   ·first | (go_simp; done) | (go_simp; rfl)
   refine hK _ _ ⟨_, _, _, _, _, _, _, _, _, _, _, _, _, _, _, _, _, _, _, _, _, _, _, _, rfl, rfl, sb⟩
 ·-- 12
  obtain rfl : y12 = false := need_not hr
  obtain rfl : y5 = true := need (j := 5) hr rfl (by decide)
  obtain rfl : y8 = true := need (j := 8) hr rfl (by decide)
  obtain rfl : y11 = true := need (j := 11) hr rfl (by decide)
  clear hr
  refine wpOp_step (i := 12) (o := { dst := some 19, op := Op.binOp BinOp.eql 3 (Operand.tmp 15) (Operand.tmp 18) 3, type := 4, pos := "morphism.go:98", after := #[aD 8, aD 11, aG 5], guard := some (5, true) }) (by rfl) (fun K hK => ?_)
  cases g1 with
  | false =>
   refine off_ (N := some 19) rfl ?_
   refine hK _ _ ⟨_, _, _, _, _, _, _, _, _, _, _, _, _, _, _, _, _, _, _, _, _, _, _, _, rfl, rfl, sb⟩
  | true =>
   have hd2 := h2 rfl
   have hb2 : (nd n == (b0.length : Int)) = g2 := hd2
   refine event_step (v := .bool g2) (w1 := w') rfl ?_ ?_
   ·first | (go_simp; done) | (go_simp; rfl)
   refine hK _ _ ⟨_, _, _, _, _, _, _, _, _, _, _, _, _, _, _, _, _, _, _, _, _, _, _, _, rfl, rfl, sb⟩
 ·-- 13
  obtain rfl : y13 = false := need_not hr
  obtain rfl : y5 = true := need (j := 5) hr rfl (by decide)
  obtain rfl : y12 = true := need (j := 12) hr rfl (by decide)
  clear hr
  refine wpOp_step (i := 13) (o := { dst := some 20, op := Op.pick (Operand.tmp 12) (Operand.tmp 19) (Operand.const (Value.bool false)), type := 4, pos := "morphism.go:98", after := #[aD 5, aD 12], guard := none }) (by rfl) (fun K hK => ?_)
  cases g1 with
  | false =>
   refine event_step (v := .bool (false && g2)) (w1 := w') rfl ?_ ?_
   ·first | (go_simp; done) | (go_simp; rfl)
   refine hK _ _ ⟨_, _, _, _, _, _, _, _, _, _, _, _, _, _, _, _, _, _, _, _, _, _, _, _, rfl, rfl, sb⟩
  | true =>
   refine event_step (v := .bool (true && g2)) (w1 := w') rfl ?_ ?_
   ·first | (go_simp; done) | (go_simp; rfl)
   refine hK _ _ ⟨_, _, _, _, _, _, _, _, _, _, _, _, _, _, _, _, _, _, _, _, _, _, _, _, rfl, rfl, sb⟩
 ·-- 14
  obtain rfl : y14 = false := need_not hr
  obtain rfl : y13 = true := need (j := 13) hr rfl (by decide)
  clear hr
  refine wpOp_step (i := 14) (o := { dst := some 21, op := Op.move (Operand.tmp 20), type := 4, pos := "morphism.go:98", after := #[aD 13, { on := 8, ground := Ground.chain }], guard := none }) (by rfl) (fun K hK => ?_)
  refine event_step (v := .bool (g1 && g2)) (w1 := w') rfl ?_ ?_
  ·first | (go_simp; done) | (go_simp; rfl)
  refine hK _ _ ⟨_, _, _, _, _, _, _, _, _, _, _, _, _, _, _, _, _, _, _, _, _, _, _, _, rfl, rfl, sb⟩
 ·-- 15
  obtain rfl : y15 = false := need_not hr
  obtain rfl : y14 = true := need (j := 14) hr rfl (by decide)
  clear hr
  refine wpOp_step (i := 15) (o := { dst := some 22, op := Op.fieldAddr 27 (Operand.tmp 5) 1, type := 0, pos := "morphism.go:98", after := #[aG 14], guard := some (14, true) }) (by rfl) (fun K hK => ?_)
  cases g1 with
  | false =>
   refine off_ (N := some 22) rfl ?_
   refine hK _ _ ⟨_, _, _, _, _, _, _, _, _, _, _, _, _, _, _, _, _, _, _, _, _, _, _, _, rfl, rfl, sb⟩
  | true =>
   cases g2 with
   | false =>
    refine off_ (N := some 22) rfl ?_
    refine hK _ _ ⟨_, _, _, _, _, _, _, _, _, _, _, _, _, _, _, _, _, _, _, _, _, _, _, _, rfl, rfl, sb⟩
   | true =>
    refine event_step (v := .pointer (some ⟨B5, 1, none⟩)) (w1 := w') rfl ?_ ?_
    ·first | (go_simp; done) | (go_simp; rfl)
    refine hK _ _ ⟨_, _, _, _, _, _, _, _, _, _, _, _, _, _, _, _, _, _, _, _, _, _, _, _, rfl, rfl, sb⟩
 ·-- 16
  obtain rfl : y16 = false := need_not hr
  obtain rfl : y14 = true := need (j := 14) hr rfl (by decide)
  obtain rfl : y15 = true := need (j := 15) hr rfl (by decide)
  clear hr
  have hx0 := (BZ.below sb.get).c0
  have hx1 := (BZ.below sb.get).c1
  refine wpOp_step (i := 16) (o := { dst := some 23, op := Op.load 22 (Operand.tmp 22), type := 22, pos := "morphism.go:98", after := #[aD 15, aG 14], guard := some (14, true) }) (by rfl) (fun K hK => ?_)
  cases g1 with
  | false =>
   refine off_ (N := some 23) rfl ?_
   refine hK _ _ ⟨_, _, _, _, _, _, _, _, _, _, _, _, _, _, _, _, _, _, _, _, _, _, _, _, rfl, rfl, sb⟩
  | true =>
   cases g2 with
   | false =>
    refine off_ (N := some 23) rfl ?_
    refine hK _ _ ⟨_, _, _, _, _, _, _, _, _, _, _, _, _, _, _, _, _, _, _, _, _, _, _, _, rfl, rfl, sb⟩
   | true =>
    refine event_step (v := .slice A5 m.length c5) (w1 := w') rfl ?_ ?_
    ·first | (go_simp; done) | (go_simp; rfl)
    refine hK _ _ ⟨_, _, _, _, _, _, _, _, _, _, _, _, _, _, _, _, _, _, _, _, _, _, _, _, rfl, rfl, sb⟩
 ·-- 17
  obtain rfl : y17 = false := need_not hr
  obtain rfl : y14 = true := need (j := 14) hr rfl (by decide)
  obtain rfl : y16 = true := need (j := 16) hr rfl (by decide)
  clear hr
  refine wpOp_step (i := 17) (o := { dst := some 24, op := Op.call { callee := Callee.value (Operand.func 75), args := #[Operand.tmp 23], argTypes := #[22] }, type := 3, pos := "morphism.go:98", after := #[aD 16, { on := 14, ground := Ground.chain }, aG 14], guard := some (14, true) }) (by rfl) (fun K hK => ?_)
  cases g1 with
  | false =>
   refine off_ (N := some 24) rfl ?_
   refine hK _ _ ⟨_, _, _, _, _, _, _, _, _, _, _, _, _, _, _, _, _, _, _, _, _, _, _, _, rfl, rfl, sb⟩
  | true =>
   cases g2 with
   | false =>
    refine off_ (N := some 24) rfl ?_
    refine hK _ _ ⟨_, _, _, _, _, _, _, _, _, _, _, _, _, _, _, _, _, _, _, _, _, _, _, _, rfl, rfl, sb⟩
   | true =>
    refine goes_ Try.func75 (by kernel_rfl) rfl #[.slice A5 m.length c5] (by rfl) rfl rfl (by (try simp only [List.map_toArray, List.map_cons, List.map_nil]); first | done | rfl) ?_
    refine (images_calls _ _ m _ (R5.below sb.get).at_ R5.cap (hm rfl)).mono ?_
    rintro e w1 ⟨rfl, hb⟩
    refine ⟨_, rfl, ?_⟩
    refine hK _ _ ⟨_, _, _, _, _, _, _, _, _, _, _, _, _, _, _, _, _, _, _, _, _, _, _, _, rfl, rfl, sb.step hb⟩
 ·-- 18
  obtain rfl : y18 = false := need_not hr
  obtain rfl : y14 = true := need (j := 14) hr rfl (by decide)
  clear hr
  refine wpOp_step (i := 18) (o := { dst := some 25, op := Op.fieldAddr 25 (Operand.tmp 4) 1, type := 0, pos := "morphism.go:98", after := #[aG 14], guard := some (14, true) }) (by rfl) (fun K hK => ?_)
  cases g1 with
  | false =>
   refine off_ (N := some 25) rfl ?_
   refine hK _ _ ⟨_, _, _, _, _, _, _, _, _, _, _, _, _, _, _, _, _, _, _, _, _, _, _, _, rfl, rfl, sb⟩
  | true =>
   cases g2 with
   | false =>
    refine off_ (N := some 25) rfl ?_
    refine hK _ _ ⟨_, _, _, _, _, _, _, _, _, _, _, _, _, _, _, _, _, _, _, _, _, _, _, _, rfl, rfl, sb⟩
   | true =>
    refine event_step (v := .pointer (some ⟨B4, 1, none⟩)) (w1 := w') rfl ?_ ?_
    ·first | (go_simp; done) | (go_simp; rfl)
    refine hK _ _ ⟨_, _, _, _, _, _, _, _, _, _, _, _, _, _, _, _, _, _, _, _, _, _, _, _, rfl, rfl, sb⟩
 ·-- 19
  obtain rfl : y19 = false := need_not hr
  obtain rfl : y14 = true := need (j := 14) hr rfl (by decide)
  obtain rfl : y18 = true := need (j := 18) hr rfl (by decide)
  clear hr
  have hx0 := (BY.below sb.get).c0
  have hx1 := (BY.below sb.get).c1
  refine wpOp_step (i := 19) (o := { dst := some 26, op := Op.load 23 (Operand.tmp 25), type := 23, pos := "morphism.go:98", after := #[aD 18, aG 14], guard := some (14, true) }) (by rfl) (fun K hK => ?_)
  cases g1 with
  | false =>
   refine off_ (N := some 26) rfl ?_
   refine hK _ _ ⟨_, _, _, _, _, _, _, _, _, _, _, _, _, _, _, _, _, _, _, _, _, _, _, _, rfl, rfl, sb⟩
  | true =>
   cases g2 with
   | false =>
    refine off_ (N := some 26) rfl ?_
    refine hK _ _ ⟨_, _, _, _, _, _, _, _, _, _, _, _, _, _, _, _, _, _, _, _, _, _, _, _, rfl, rfl, sb⟩
   | true =>
    refine event_step (v := .slice A3 b1.length c3) (w1 := w') rfl ?_ ?_
    ·first | (go_simp; done) | (go_simp; rfl)
    refine hK _ _ ⟨_, _, _, _, _, _, _, _, _, _, _, _, _, _, _, _, _, _, _, _, _, _, _, _, rfl, rfl, sb⟩
 ·-- 20
  obtain rfl : y20 = false := need_not hr
  obtain rfl : y14 = true := need (j := 14) hr rfl (by decide)
  obtain rfl : y19 = true := need (j := 19) hr rfl (by decide)
  clear hr
  refine wpOp_step (i := 20) (o := { dst := some 27, op := Op.call { callee := Callee.builtin Builtin.len, args := #[Operand.tmp 26], argTypes := #[23] }, type := 3, pos := "morphism.go:98", after := #[aD 19, aG 14], guard := some (14, true) }) (by rfl) (fun K hK => ?_)
  cases g1 with
  | false =>
   refine off_ (N := some 27) rfl ?_
   refine hK _ _ ⟨_, _, _, _, _, _, _, _, _, _, _, _, _, _, _, _, _, _, _, _, _, _, _, _, rfl, rfl, sb⟩
  | true =>
   cases g2 with
   | false =>
    refine off_ (N := some 27) rfl ?_
    refine hK _ _ ⟨_, _, _, _, _, _, _, _, _, _, _, _, _, _, _, _, _, _, _, _, _, _, _, _, rfl, rfl, sb⟩
   | true =>
    refine event_step (v := .int .i64 (b1.length : Int)) (w1 := w') rfl ?_ ?_
    ·first | (go_simp; done) | (go_simp; rfl)
    refine hK _ _ ⟨_, _, _, _, _, _, _, _, _, _, _, _, _, _, _, _, _, _, _, _, _, _, _, _, rfl, rfl, sb⟩
 ·-- 21
  obtain rfl : y21 = false := need_not hr
  obtain rfl : y14 = true := need (j := 14) hr rfl (by decide)
  obtain rfl : y17 = true := need (j := 17) hr rfl (by decide)
  obtain rfl : y20 = true := need (j := 20) hr rfl (by decide)
  clear hr
  refine wpOp_step (i := 21) (o := { dst := some 28, op := Op.binOp BinOp.eql 3 (Operand.tmp 24) (Operand.tmp 27) 3, type := 4, pos := "morphism.go:98", after := #[aD 17, aD 20, aG 14], guard := some (14, true) }) (by rfl) (fun K hK => ?_)
  cases g1 with
  | false =>
   refine off_ (N := some 28) rfl ?_
   refine hK _ _ ⟨_, _, _, _, _, _, _, _, _, _, _, _, _, _, _, _, _, _, _, _, _, _, _, _, rfl, rfl, sb⟩
  | true =>
   cases g2 with
   | false =>
    refine off_ (N := some 28) rfl ?_
    refine hK _ _ ⟨_, _, _, _, _, _, _, _, _, _, _, _, _, _, _, _, _, _, _, _, _, _, _, _, rfl, rfl, sb⟩
   | true =>
    have hd3 := h3 rfl
    have hb3 : (nd m == (b1.length : Int)) = g3 := hd3
    refine event_step (v := .bool g3) (w1 := w') rfl ?_ ?_
    ·first | (go_simp; done) | (go_simp; rfl)
    refine hK _ _ ⟨_, _, _, _, _, _, _, _, _, _, _, _, _, _, _, _, _, _, _, _, _, _, _, _, rfl, rfl, sb⟩
 ·-- 22
  obtain rfl : y22 = false := need_not hr
  obtain rfl : y14 = true := need (j := 14) hr rfl (by decide)
  obtain rfl : y21 = true := need (j := 21) hr rfl (by decide)
  clear hr
  refine wpOp_step (i := 22) (o := { dst := some 29, op := Op.pick (Operand.tmp 21) (Operand.tmp 28) (Operand.const (Value.bool false)), type := 4, pos := "morphism.go:98", after := #[aD 14, aD 21], guard := none }) (by rfl) (fun K hK => ?_)
  cases g1 with
  | false =>
   refine event_step (v := .bool (false && g2 && g3)) (w1 := w') rfl ?_ ?_
   ·first | (go_simp; done) | (go_simp; rfl)
   refine hK _ _ ⟨_, _, _, _, _, _, _, _, _, _, _, _, _, _, _, _, _, _, _, _, _, _, _, _, rfl, rfl, sb⟩
  | true =>
   cases g2 with
   | false =>
    refine event_step (v := .bool (true && false && g3)) (w1 := w') rfl ?_ ?_
    ·first | (go_simp; done) | (go_simp; rfl)
    refine hK _ _ ⟨_, _, _, _, _, _, _, _, _, _, _, _, _, _, _, _, _, _, _, _, _, _, _, _, rfl, rfl, sb⟩
   | true =>
    refine event_step (v := .bool (true && true && g3)) (w1 := w') rfl ?_ ?_
    ·first | (go_simp; done) | (go_simp; rfl)
    refine hK _ _ ⟨_, _, _, _, _, _, _, _, _, _, _, _, _, _, _, _, _, _, _, _, _, _, _, _, rfl, rfl, sb⟩
 ·-- 23
  obtain rfl : y23 = false := need_not hr
  obtain rfl : y22 = true := need (j := 22) hr rfl (by decide)
  clear hr
  refine wpOp_step (i := 23) (o := { dst := some 6, op := Op.assign (Operand.tmp 29), type := 4, pos := "morphism.go:98", after := #[aD 22, { on := 17, ground := Ground.chain }, aP 0, aP 1, aP 2, aP 3, aP 4, aP 5, aP 6, aP 7, aP 8, aP 9, aP 10, aP 11, aP 12, aP 13, aP 14, aP 15, aP 16, aP 17, aP 18, aP 19, aP 20, aP 21, aP 22], guard := none }) (by rfl) (fun K hK => ?_)
  refine event_step (v := .bool (g1 && g2 && g3)) (w1 := w') rfl ?_ ?_
  ·first | (go_simp; done) | (go_simp; rfl)
  refine hK _ _ ⟨_, _, _, _, _, _, _, _, _, _, _, _, _, _, _, _, _, _, _, _, _, _, _, _, rfl, rfl, sb⟩
set_option maxHeartbeats 4000000 in
set_option maxRecDepth 100000 in
theorem walk48 (A0 : Option Addr) (c0 : Nat) (a0 : List Int) (A1 : Option Addr) (c1 : Nat) (a1 : List S94) (A2 : Option Addr) (c2 : Nat) (b0 : List Int) (A3 : Option Addr) (c3 : Nat) (b1 : List S94) (A4 : Option Addr) (c4 : Nat) (n : List Int) (A5 : Option Addr) (c5 : Nat) (m : List Int) (w : World) (R0 : Row (Kd.int .i64) w A0 c0 a0) (R1 : Row k94 w A1 c1 a1) (R2 : Row (Kd.int .i64) w A2 c2 b0) (R3 : Row k94 w A3 c3 b1) (R4 : Row (Kd.int .i64) w A4 c4 n) (R5 : Row (Kd.int .i64) w A5 c5 m) (g1 g2 g3 : Bool)
  (h1 : decide ((mvalid a0 a1 b0 b1 n m) = 0) = g1) (h2 : g1 = true → decide (nd n = (b0.length : Int)) = g2) (h3 : (g1 && g2) = true → decide (nd m = (b1.length : Int)) = g3) (hn : g1 = true → n.length ≤ 1000000) (hm : g1 = true → m.length ≤ 1000000) :
  Calls Try.prog 48 #[.agg #[.slice A0 a0.length c0, .slice A1 a1.length c1], .agg #[.slice A2 b0.length c2, .slice A3 b1.length c3], .agg #[.slice A4 n.length c4, .slice A5 m.length c5]] w fun e w' => e = .returned (.bool (g1 && g2 && g3)) ∧ Below w.heap.size w w' := by
 have SB := Since.refl w
 have hu25 := Try.underlying25
 have hu27 := Try.underlying27
 go_enter Try.func48, Try.ntmps48
 go_upto_region 1 with fail
 obtain ⟨BX, BY, BZ, hb⟩ := tri_new w (.slice A0 a0.length c0) (.slice A1 a1.length c1) 25 (.slice A2 b0.length c2) (.slice A3 b1.length c3) 25 (.slice A4 n.length c4) (.slice A5 m.length c5) 27
 replace R0 := R0.below hb
 replace R1 := R1.below hb
 replace R2 := R2.below hb
 replace R3 := R3.below hb
 replace R4 := R4.below hb
 replace R5 := R5.below hb
 replace SB := SB.step hb
 clear hb
 generalize hw : (((w.alloc (.cells #[.slice A0 a0.length c0, .slice A1 a1.length c1] 25)).alloc (.cells #[.slice A2 b0.length c2, .slice A3 b1.length c3] 25)).alloc (.cells #[.slice A4 n.length c4, .slice A5 m.length c5] 27)) = w0 at *
 clear hw
 refine drawn_ (J48 w0 w.heap.size (w.heap.size + 1) (w.heap.size + 2) A0 c0 a0 A1 c1 a1 A2 c2 b0 A3 c3 b1 A4 c4 n A5 c5 m g1 g2 g3) T47 tab48 (by kernel_rfl) ?_ (J48_step w0 w.heap.size (w.heap.size + 1) (w.heap.size + 2) A0 c0 a0 A1 c1 a1 A2 c2 b0 A3 c3 b1 A4 c4 n A5 c5 m g1 g2 g3 BX BY BZ R0 R1 R2 R3 R4 R5 h1 h2 h3 hn hm) ?_
 ·exact ⟨false, false, false, false, false, false, false, false, false, false, false, false, false, false, false, false, false, false, false, false, false, false, false, false, rfl, rfl, ⟨below_drew1 (Below.refl _ _)⟩⟩
 rintro l a wd ⟨y0, y1, y2, y3, y4, y5, y6, y7, y8, y9, y10, y11, y12, y13, y14, y15, y16, y17, y18, y19, y20, y21, y22, y23, rfl, rfl, sb⟩ _ hr
 obtain rfl : y0 = true := all_done hr 0 rfl rfl
 obtain rfl : y1 = true := all_done hr 1 rfl rfl
 obtain rfl : y2 = true := all_done hr 2 rfl rfl
 obtain rfl : y3 = true := all_done hr 3 rfl rfl
 obtain rfl : y4 = true := all_done hr 4 rfl rfl
 obtain rfl : y5 = true := all_done hr 5 rfl rfl
 obtain rfl : y6 = true := all_done hr 6 rfl rfl
 obtain rfl : y7 = true := all_done hr 7 rfl rfl
 obtain rfl : y8 = true := all_done hr 8 rfl rfl
 obtain rfl : y9 = true := all_done hr 9 rfl rfl
 obtain rfl : y10 = true := all_done hr 10 rfl rfl
 obtain rfl : y11 = true := all_done hr 11 rfl rfl
 obtain rfl : y12 = true := all_done hr 12 rfl rfl
 obtain rfl : y13 = true := all_done hr 13 rfl rfl
 obtain rfl : y14 = true := all_done hr 14 rfl rfl
 obtain rfl : y15 = true := all_done hr 15 rfl rfl
 obtain rfl : y16 = true := all_done hr 16 rfl rfl
 obtain rfl : y17 = true := all_done hr 17 rfl rfl
 obtain rfl : y18 = true := all_done hr 18 rfl rfl
 obtain rfl : y19 = true := all_done hr 19 rfl rfl
 obtain rfl : y20 = true := all_done hr 20 rfl rfl
 obtain rfl : y21 = true := all_done hr 21 rfl rfl
 obtain rfl : y22 = true := all_done hr 22 rfl rfl
 obtain rfl : y23 = true := all_done hr 23 rfl rfl
 clear hr
 simp only [cond_true]
 go_wp2_with fail
 go_ret
 exact ⟨rfl, below_step SB.get sb.get⟩
set_option maxHeartbeats 4000000 in
set_option maxRecDepth 100000 in
theorem Check_a (k : Nat) (A0 : Option Addr) (c0 : Nat) (x0 : List Int) (A1 : Option Addr) (c1 : Nat) (x1 : List S94) (A2 : Option Addr) (c2 : Nat) (x2 : List Int) (A3 : Option Addr) (c3 : Nat) (x3 : List S94) (A4 : Option Addr) (c4 : Nat) (x4 : List Int) (A5 : Option Addr) (c5 : Nat) (x5 : List S94) (A6 : Option Addr) (c6 : Nat) (x6 : List Int) (A7 : Option Addr) (c7 : Nat) (x7 : List Int) (A8 : Option Addr) (c8 : Nat) (x8 : List Int) (A9 : Option Addr) (c9 : Nat) (x9 : List Int) (A10 : Option Addr) (c10 : Nat) (x10 : List Int) (A11 : Option Addr) (c11 : Nat) (x11 : List S94) (A12 : Option Addr) (c12 : Nat) (x12 : List Int) (A13 : Option Addr) (c13 : Nat) (x13 : List Int) (A14 : Option Addr) (c14 : Nat) (x14 : List Int) (A15 : Option Addr) (c15 : Nat) (x15 : List Int) (w : World)
  (R0 : Row (Kd.int .i64) w A0 c0 x0) (R1 : Row k94 w A1 c1 x1) (R2 : Row (Kd.int .i64) w A2 c2 x2) (R3 : Row k94 w A3 c3 x3) (R4 : Row (Kd.int .i64) w A4 c4 x4) (R5 : Row k94 w A5 c5 x5) (R6 : Row (Kd.int .i64) w A6 c6 x6) (R7 : Row (Kd.int .i64) w A7 c7 x7) (R8 : Row (Kd.int .i64) w A8 c8 x8) (R9 : Row (Kd.int .i64) w A9 c9 x9) (R10 : Row (Kd.int .i64) w A10 c10 x10) (R11 : Row k94 w A11 c11 x11) (R12 : Row (Kd.int .i64) w A12 c12 x12) (R13 : Row (Kd.int .i64) w A13 c13 x13) (R14 : Row (Kd.int .i64) w A14 c14 x14) (R15 : Row (Kd.int .i64) w A15 c15 x15)
  (m0 m1 : List Int) (er : Int) (hM : medF k x0 x1 x2 x3 x4 x5 x6 x7 x8 x9 x10 x11 x12 x13 x14 x15 = some (m0, m1, er)) (her : er ≠ 0) :
  Calls Try.prog 16 #[.agg #[.slice A0 x0.length c0, .slice A1 x1.length c1, .slice A2 x2.length c2, .slice A3 x3.length c3, .slice A4 x4.length c4, .slice A5 x5.length c5, .slice A6 x6.length c6, .slice A7 x7.length c7, .slice A8 x8.length c8, .slice A9 x9.length c9], .agg #[.slice A10 x10.length c10, .slice A11 x11.length c11], .agg #[.slice A12 x12.length c12, .slice A13 x13.length c13], .agg #[.slice A14 x14.length c14, .slice A15 x15.length c15]] w fun e w' => e = .returned (.bool false) ∧ Below w.heap.size w w' := by
 have hM_ := Aside0.mk hM
 have her_ := Aside0.mk her
 clear hM her
 have hu25 := Try.underlying25
 have hu27 := Try.underlying27
 have hu29 := Try.underlying29
 have hu81 := Try.underlying81
 have SB := Since.refl w
 have RS := cR R0 (cR R1 (cR R2 (cR R3 (cR R4 (cR R5 (cR R6 (cR R7 (cR R8 (cR R9 (cR R10 (cR R11 (cR R12 (cR R13 (cR R14 (cR R15 (cE SB))))))))))))))))
 clear SB R0 R1 R2 R3 R4 R5 R6 R7 R8 R9 R10 R11 R12 R13 R14 R15
 go_enter Try.func16, Try.ntmps16
 go_upto_region 1 with fail
 obtain ⟨w1, hv, BS, BX, BH, BK, hb⟩ := nw4 w 29 #[.slice A0 x0.length c0, .slice A1 x1.length c1, .slice A2 x2.length c2, .slice A3 x3.length c3, .slice A4 x4.length c4, .slice A5 x5.length c5, .slice A6 x6.length c6, .slice A7 x7.length c7, .slice A8 x8.length c8, .slice A9 x9.length c9] 25 #[.slice A10 x10.length c10, .slice A11 x11.length c11] 27 #[.slice A12 x12.length c12, .slice A13 x13.length c13] 27 #[.slice A14 x14.length c14, .slice A15 x15.length c15]
 rw [← hv]
 clear hv
 replace RS := mo hb RS
 clear hb
 replace RS := cK BS (cK BX (cK BH (cK BK (RS))))
 clear BS BX BH BK
 rcases (id RS) with ⟨⟨BS⟩, ⟨⟨BX⟩, ⟨⟨BH⟩, ⟨⟨BK⟩, -⟩⟩⟩⟩
 obtain ⟨_, _, _, _, _, _, _, _, _, _⟩ := BS.q10
 obtain ⟨_, _⟩ := BX.q2
 obtain ⟨_, _⟩ := BH.q2
 obtain ⟨_, _⟩ := BK.q2
 go_wp2_with fail
 rcases (id RS) with ⟨-, ⟨-, ⟨-, ⟨-, ⟨⟨R0⟩, ⟨⟨R1⟩, ⟨⟨R2⟩, ⟨⟨R3⟩, ⟨⟨R4⟩, ⟨⟨R5⟩, ⟨⟨R6⟩, ⟨⟨R7⟩, ⟨⟨R8⟩, ⟨⟨R9⟩, ⟨⟨R10⟩, ⟨⟨R11⟩, ⟨⟨R12⟩, ⟨⟨R13⟩, ⟨⟨R14⟩, ⟨⟨R15⟩, -⟩⟩⟩⟩⟩⟩⟩⟩⟩⟩⟩⟩⟩⟩⟩⟩⟩⟩⟩⟩
 refine (Med_calls k _ _ x0 _ _ x1 _ _ x2 _ _ x3 _ _ x4 _ _ x5 _ _ x6 _ _ x7 _ _ x8 _ _ x9 _ _ x10 _ _ x11 _ _ x12 _ _ x13 _ _ x14 _ _ x15 _ R0 R1 R2 R3 R4 R5 R6 R7 R8 R9 R10 R11 R12 R13 R14 R15 m0 m1 er hM_.out).mono ?_
 rintro e w2 ⟨z0, z1, rfl, q0, q1, hb⟩
 clear R0 R1 R2 R3 R4 R5 R6 R7 R8 R9 R10 R11 R12 R13 R14 R15
 replace hb := bS (w := w1) hb
 replace RS := mo hb RS
 clear hb
 obtain ⟨N0, n0, rfl, M0⟩ := q0.get
 obtain ⟨N1, n1, rfl, M1⟩ := q1.get
 replace RS := cR M0 (cR M1 (RS))
 clear M0 M1
 have hz : (er != 0) = true := bne_iff_ne.mpr her_.out
 go_wp2_with fail
 go_ret
 rcases (id RS) with ⟨-, ⟨-, ⟨-, ⟨-, ⟨-, ⟨-, ⟨-, ⟨-, ⟨-, ⟨-, ⟨-, ⟨-, ⟨-, ⟨-, ⟨-, ⟨-, ⟨-, ⟨-, ⟨-, ⟨-, ⟨-, ⟨-, ⟨SB⟩⟩⟩⟩⟩⟩⟩⟩⟩⟩⟩⟩⟩⟩⟩⟩⟩⟩⟩⟩⟩⟩⟩
 exact ⟨rfl, (SB.step (by repeat (first | exact Below.refl _ _ | apply below_alloc | apply pw_below_drewN))).get⟩
set_option maxHeartbeats 4000000 in
set_option maxRecDepth 100000 in
theorem Check_b (k : Nat) (A0 : Option Addr) (c0 : Nat) (x0 : List Int) (A1 : Option Addr) (c1 : Nat) (x1 : List S94) (A2 : Option Addr) (c2 : Nat) (x2 : List Int) (A3 : Option Addr) (c3 : Nat) (x3 : List S94) (A4 : Option Addr) (c4 : Nat) (x4 : List Int) (A5 : Option Addr) (c5 : Nat) (x5 : List S94) (A6 : Option Addr) (c6 : Nat) (x6 : List Int) (A7 : Option Addr) (c7 : Nat) (x7 : List Int) (A8 : Option Addr) (c8 : Nat) (x8 : List Int) (A9 : Option Addr) (c9 : Nat) (x9 : List Int) (A10 : Option Addr) (c10 : Nat) (x10 : List Int) (A11 : Option Addr) (c11 : Nat) (x11 : List S94) (A12 : Option Addr) (c12 : Nat) (x12 : List Int) (A13 : Option Addr) (c13 : Nat) (x13 : List Int) (A14 : Option Addr) (c14 : Nat) (x14 : List Int) (A15 : Option Addr) (c15 : Nat) (x15 : List Int) (w : World)
  (R0 : Row (Kd.int .i64) w A0 c0 x0) (R1 : Row k94 w A1 c1 x1) (R2 : Row (Kd.int .i64) w A2 c2 x2) (R3 : Row k94 w A3 c3 x3) (R4 : Row (Kd.int .i64) w A4 c4 x4) (R5 : Row k94 w A5 c5 x5) (R6 : Row (Kd.int .i64) w A6 c6 x6) (R7 : Row (Kd.int .i64) w A7 c7 x7) (R8 : Row (Kd.int .i64) w A8 c8 x8) (R9 : Row (Kd.int .i64) w A9 c9 x9) (R10 : Row (Kd.int .i64) w A10 c10 x10) (R11 : Row k94 w A11 c11 x11) (R12 : Row (Kd.int .i64) w A12 c12 x12) (R13 : Row (Kd.int .i64) w A13 c13 x13) (R14 : Row (Kd.int .i64) w A14 c14 x14) (R15 : Row (Kd.int .i64) w A15 c15 x15)
  (m0 m1 : List Int) (P Q : List S79) (n : List Int) (m : List S94) (g1 g2 g3 f2 f3 : Bool) (hM : medF k x0 x1 x2 x3 x4 x5 x6 x7 x8 x9 x10 x11 x12 x13 x14 x15 = some (m0, m1, 0)) (hO : pullback_of.f k x0 x1 x2 x3 x4 x5 x6 x7 x8 x9 = some (P, Q, n, m, 0))
  (h1 : decide (mvalid x10 x11 n m m0 m1 = 0) = g1) (h2 : g1 = true → decide (nd m0 = (m0.length : Int)) = g2) (h3 : (g1 && g2) = true → decide (nd m1 = (m1.length : Int)) = g3) (k1 : decide (mvalid x10 x11 n m m0 m1 = 0) = g1) (k2 : g1 = true → decide (nd m0 = (n.length : Int)) = f2) (k3 : (g1 && f2) = true → decide (nd m1 = (m.length : Int)) = f3) (hl : (g1 = true → m0.length ≤ 1000000) ∧ (g1 = true → m1.length ≤ 1000000)) (r : Bool) (hr : ((g1 && g2 && g3) && (g1 && f2 && f3)) = r) :
  Calls Try.prog 16 #[.agg #[.slice A0 x0.length c0, .slice A1 x1.length c1, .slice A2 x2.length c2, .slice A3 x3.length c3, .slice A4 x4.length c4, .slice A5 x5.length c5, .slice A6 x6.length c6, .slice A7 x7.length c7, .slice A8 x8.length c8, .slice A9 x9.length c9], .agg #[.slice A10 x10.length c10, .slice A11 x11.length c11], .agg #[.slice A12 x12.length c12, .slice A13 x13.length c13], .agg #[.slice A14 x14.length c14, .slice A15 x15.length c15]] w fun e w' => e = .returned (.bool r) ∧ Below w.heap.size w w' := by
 have hM_ := Aside0.mk hM
 have hO_ := Aside0.mk hO
 have h1_ := Aside0.mk h1
 have h2_ := Aside0.mk h2
 have h3_ := Aside0.mk h3
 have k1_ := Aside0.mk k1
 have k2_ := Aside0.mk k2
 have k3_ := Aside0.mk k3
 have hl_ := Aside0.mk hl
 have hr_ := Aside0.mk hr
 clear hM hO h1 h2 h3 k1 k2 k3 hl hr
 have hu25 := Try.underlying25
 have hu27 := Try.underlying27
 have hu29 := Try.underlying29
 have hu81 := Try.underlying81
 have SB := Since.refl w
 have RS := cR R0 (cR R1 (cR R2 (cR R3 (cR R4 (cR R5 (cR R6 (cR R7 (cR R8 (cR R9 (cR R10 (cR R11 (cR R12 (cR R13 (cR R14 (cR R15 (cE SB))))))))))))))))
 clear SB R0 R1 R2 R3 R4 R5 R6 R7 R8 R9 R10 R11 R12 R13 R14 R15
 go_enter Try.func16, Try.ntmps16
 go_upto_region 1 with fail
 obtain ⟨w1, hv, BS, BX, BH, BK, hb⟩ := nw4 w 29 #[.slice A0 x0.length c0, .slice A1 x1.length c1, .slice A2 x2.length c2, .slice A3 x3.length c3, .slice A4 x4.length c4, .slice A5 x5.length c5, .slice A6 x6.length c6, .slice A7 x7.length c7, .slice A8 x8.length c8, .slice A9 x9.length c9] 25 #[.slice A10 x10.length c10, .slice A11 x11.length c11] 27 #[.slice A12 x12.length c12, .slice A13 x13.length c13] 27 #[.slice A14 x14.length c14, .slice A15 x15.length c15]
 rw [← hv]
 clear hv
 replace RS := mo hb RS
 clear hb
 replace RS := cK BS (cK BX (cK BH (cK BK (RS))))
 clear BS BX BH BK
 rcases (id RS) with ⟨⟨BS⟩, ⟨⟨BX⟩, ⟨⟨BH⟩, ⟨⟨BK⟩, -⟩⟩⟩⟩
 obtain ⟨_, _, _, _, _, _, _, _, _, _⟩ := BS.q10
 obtain ⟨_, _⟩ := BX.q2
 obtain ⟨_, _⟩ := BH.q2
 obtain ⟨_, _⟩ := BK.q2
 go_wp2_with fail
 rcases (id RS) with ⟨-, ⟨-, ⟨-, ⟨-, ⟨⟨R0⟩, ⟨⟨R1⟩, ⟨⟨R2⟩, ⟨⟨R3⟩, ⟨⟨R4⟩, ⟨⟨R5⟩, ⟨⟨R6⟩, ⟨⟨R7⟩, ⟨⟨R8⟩, ⟨⟨R9⟩, ⟨⟨R10⟩, ⟨⟨R11⟩, ⟨⟨R12⟩, ⟨⟨R13⟩, ⟨⟨R14⟩, ⟨⟨R15⟩, -⟩⟩⟩⟩⟩⟩⟩⟩⟩⟩⟩⟩⟩⟩⟩⟩⟩⟩⟩⟩
 refine (Med_calls k _ _ x0 _ _ x1 _ _ x2 _ _ x3 _ _ x4 _ _ x5 _ _ x6 _ _ x7 _ _ x8 _ _ x9 _ _ x10 _ _ x11 _ _ x12 _ _ x13 _ _ x14 _ _ x15 _ R0 R1 R2 R3 R4 R5 R6 R7 R8 R9 R10 R11 R12 R13 R14 R15 m0 m1 0 hM_.out).mono ?_
 rintro e w2 ⟨z0, z1, rfl, q0, q1, hb⟩
 clear R0 R1 R2 R3 R4 R5 R6 R7 R8 R9 R10 R11 R12 R13 R14 R15
 replace hb := bS (w := w1) hb
 replace RS := mo hb RS
 clear hb
 obtain ⟨N0, n0, rfl, M0⟩ := q0.get
 obtain ⟨N1, n1, rfl, M1⟩ := q1.get
 replace RS := cR M0 (cR M1 (RS))
 clear M0 M1
 go_upto_region 4 with fail
 obtain ⟨w3, hv, BM, hb⟩ := nw1 w2 27 #[.slice N0 m0.length n0, .slice N1 m1.length n1]
 rw [← hv]
 clear hv
 replace RS := mo hb RS
 clear hb
 replace RS := cK BM (RS)
 clear BM
 rcases (id RS) with ⟨⟨BM⟩, ⟨-, ⟨-, ⟨⟨BS⟩, ⟨⟨BX⟩, ⟨⟨BH⟩, ⟨⟨BK⟩, -⟩⟩⟩⟩⟩⟩⟩
 obtain ⟨_, _⟩ := BM.q2
 obtain ⟨_, _, _, _, _, _, _, _, _, _⟩ := BS.q10
 obtain ⟨_, _⟩ := BX.q2
 obtain ⟨_, _⟩ := BH.q2
 obtain ⟨_, _⟩ := BK.q2
 go_wp2_with fail
 rcases (id RS) with ⟨-, ⟨-, ⟨-, ⟨-, ⟨-, ⟨-, ⟨-, ⟨⟨R0⟩, ⟨⟨R1⟩, ⟨⟨R2⟩, ⟨⟨R3⟩, ⟨⟨R4⟩, ⟨⟨R5⟩, ⟨⟨R6⟩, ⟨⟨R7⟩, ⟨⟨R8⟩, ⟨⟨R9⟩, -⟩⟩⟩⟩⟩⟩⟩⟩⟩⟩⟩⟩⟩⟩⟩⟩⟩
 refine (pullback_of.calls k _ _ x0 _ _ x1 _ _ x2 _ _ x3 _ _ x4 _ _ x5 _ _ x6 _ _ x7 _ _ x8 _ _ x9 P Q n m 0 _ R0.at_ R0.cap R1.at_ R1.cap R2.at_ R2.cap R3.at_ R3.cap R4.at_ R4.cap R5.at_ R5.cap R6.at_ R6.cap R7.at_ R7.cap R8.at_ R8.cap R9.at_ R9.cap hO_.out).mono ?_
 rintro e w4 ⟨y0, y1, y2, y3, rfl, q0, q1, q2, q3, hb⟩
 clear R0 R1 R2 R3 R4 R5 R6 R7 R8 R9
 replace hb := bS (w := w3) hb
 replace RS := mo hb RS
 clear hb
 obtain ⟨P0, p0, rfl, Q0⟩ := Row.of_R q0
 clear q0
 obtain ⟨P1, p1, rfl, Q1⟩ := Row.of_R q1
 clear q1
 obtain ⟨P2, p2, rfl, Q2⟩ := Row.of_R q2
 clear q2
 obtain ⟨P3, p3, rfl, Q3⟩ := Row.of_R q3
 clear q3
 replace RS := cR Q0 (cR Q1 (cR Q2 (cR Q3 (RS))))
 clear Q0 Q1 Q2 Q3
 go_upto_region 5 with fail
 obtain ⟨w5, hv, B6, hb⟩ := nw1 w4 81 #[.slice P0 P.length p0, .slice P1 Q.length p1, .slice P2 n.length p2, .slice P3 m.length p3]
 rw [← hv]
 clear hv
 replace RS := mo hb RS
 clear hb
 replace RS := cK B6 (RS)
 clear B6
 rcases (id RS) with ⟨⟨B6⟩, ⟨-, ⟨-, ⟨-, ⟨-, ⟨⟨BM⟩, ⟨-, ⟨-, ⟨⟨BS⟩, ⟨⟨BX⟩, ⟨⟨BH⟩, ⟨⟨BK⟩, -⟩⟩⟩⟩⟩⟩⟩⟩⟩⟩⟩⟩
 obtain ⟨_, _, _, _⟩ := B6.q4
 obtain ⟨_, _⟩ := BM.q2
 obtain ⟨_, _, _, _, _, _, _, _, _, _⟩ := BS.q10
 obtain ⟨_, _⟩ := BX.q2
 obtain ⟨_, _⟩ := BH.q2
 obtain ⟨_, _⟩ := BK.q2
 go_wp2_with fail
 rcases (id RS) with ⟨-, ⟨-, ⟨-, ⟨⟨Q2⟩, ⟨⟨Q3⟩, ⟨-, ⟨⟨M0⟩, ⟨⟨M1⟩, ⟨-, ⟨-, ⟨-, ⟨-, ⟨-, ⟨-, ⟨-, ⟨-, ⟨-, ⟨-, ⟨-, ⟨-, ⟨-, ⟨-, ⟨⟨R10⟩, ⟨⟨R11⟩, -⟩⟩⟩⟩⟩⟩⟩⟩⟩⟩⟩⟩⟩⟩⟩⟩⟩⟩⟩⟩⟩⟩⟩⟩
 refine (walk47 _ _ x10 _ _ x11 _ _ n _ _ m _ _ m0 _ _ m1 _ R10 R11 Q2 Q3 M0 M1 g1 g2 g3 h1_.out h2_.out h3_.out hl_.out.1 hl_.out.2).mono ?_
 rintro e w6 ⟨rfl, hb⟩
 clear R10 R11 Q2 Q3 M0 M1
 replace hb := bS (w := w5) hb
 replace RS := mo hb RS
 clear hb
 rcases (id RS) with ⟨⟨B6⟩, ⟨-, ⟨-, ⟨-, ⟨-, ⟨⟨BM⟩, ⟨-, ⟨-, ⟨-, ⟨⟨BX⟩, -⟩⟩⟩⟩⟩⟩⟩⟩⟩⟩
 obtain ⟨_, _, _, _⟩ := B6.q4
 obtain ⟨_, _⟩ := BM.q2
 obtain ⟨_, _⟩ := BX.q2
 cases hg : (g1 && g2 && g3) with
 | false =>
  go_wp2_with fail
  go_ret
  exact ⟨by have := hr_.out; rw [hg] at this; rw [← this]; rfl, RS.r.r.r.r.r.r.r.r.r.r.r.r.r.r.r.r.r.r.r.r.r.r.r.r.r.r.r.r.r.get⟩
 | true =>
 go_wp2_with fail
 rcases (id RS) with ⟨-, ⟨-, ⟨-, ⟨⟨Q2⟩, ⟨⟨Q3⟩, ⟨-, ⟨⟨M0⟩, ⟨⟨M1⟩, ⟨-, ⟨-, ⟨-, ⟨-, ⟨-, ⟨-, ⟨-, ⟨-, ⟨-, ⟨-, ⟨-, ⟨-, ⟨-, ⟨-, ⟨⟨R10⟩, ⟨⟨R11⟩, -⟩⟩⟩⟩⟩⟩⟩⟩⟩⟩⟩⟩⟩⟩⟩⟩⟩⟩⟩⟩⟩⟩⟩⟩
 refine (walk48 _ _ x10 _ _ x11 _ _ n _ _ m _ _ m0 _ _ m1 _ R10 R11 Q2 Q3 M0 M1 g1 f2 f3 k1_.out k2_.out k3_.out hl_.out.1 hl_.out.2).mono ?_
 rintro e w7 ⟨rfl, hb⟩
 clear R10 R11 Q2 Q3 M0 M1
 replace hb := bS (w := w6) hb
 replace RS := mo hb RS
 clear hb
 generalize hg2 : (g1 && f2 && f3) = gg
 go_wp2_with fail
 try go_wp2_with fail
 go_ret
 exact ⟨by have := hr_.out; rw [hg, hg2] at this; rw [← this]; rfl, RS.r.r.r.r.r.r.r.r.r.r.r.r.r.r.r.r.r.r.r.r.r.r.r.r.r.r.r.r.r.get⟩
end Go.Proofs.Ytillofiphkmjjaa.X

namespace Go.Proofs.Ytillofiphkmjjaa.X
open Go.RowKit Go.Proofs.YtillofiphkmjjaaW.PrintWords Go.Proofs.YtillofiphkmjjaaW.PrintLast Go.Proofs.YtillofiphkmjjaaW.PrintMore
open Go.Proofs.YtillofiphkmjjaaW.PrintWords renaming blk_drewN → bN, blk_drew → bD, blk_alloc → bA, below_alloc → wA, pw_below_drewN → wN, below_drew1 → wD, blk_below → bB, below_step → wS, blk_at → bT, blk_grown → bG
open Go.Proofs.YtillofiphkmjjaaW.PrintWords.Kd renaming R_alloc → rA, R_drewN → rN, R_drew → rD, R_below → rB, R_grown → rG, C_below → cB, C_alloc → cA, C_drewN → cN, C_drew → cD
attribute [local go_sem] max2_int min2_int max_two min_two max_three min_three max_four min_four
set_option linter.unusedVariables false
set_option linter.unusedSimpArgs false
/-! ### scarfjointref06_Valid: function 44 -/
set_option maxHeartbeats 4000000 in
set_option maxRecDepth 100000 in
theorem rvalid_a (A0 : Option Addr) (c0 : Nat) (a0 : List Int) (A1 : Option Addr) (c1 : Nat) (a1 : List S94) (A2 : Option Addr) (c2 : Nat) (b0 : List Int) (A3 : Option Addr) (c3 : Nat) (b1 : List S94) (A4 : Option Addr) (c4 : Nat) (n : List Int) (A5 : Option Addr) (c5 : Nat) (m : List Int) (w : World) (R0 : Row (Kd.int .i64) w A0 c0 a0) (R1 : Row k94 w A1 c1 a1) (R2 : Row (Kd.int .i64) w A2 c2 b0) (R3 : Row k94 w A3 c3 b1) (R4 : Row (Kd.int .i64) w A4 c4 n) (R5 : Row (Kd.int .i64) w A5 c5 m) (hv : validE a0 a1 ≠ 0) :
  Calls Try.prog 44 #[.agg #[.slice A0 a0.length c0, .slice A1 a1.length c1], .agg #[.slice A2 b0.length c2, .slice A3 b1.length c3], .agg #[.slice A4 n.length c4, .slice A5 m.length c5]] w fun e w' => e = .returned (.int .i64 (validE a0 a1)) ∧ Below w.heap.size w w' := by
 obtain ⟨ka, hka⟩ := Pl.valid_ev a0 a1
 have HKA := Aside0.mk (hka ka (Nat.le_refl _))
 obtain ⟨kb, hkb⟩ := Pl.valid_ev b0 b1
 have HKB := Aside0.mk (hkb kb (Nat.le_refl _))
 clear hka hkb
 have hu25 := Try.underlying25
 have hu27 := Try.underlying27
 have hu94 := Try.underlying94
 have HV_ := Aside0.mk hv
 clear hv
 have SB := Since.refl w
 go_enter Try.func44, Try.ntmps44
 go_upto_region 1 with fail
 obtain ⟨BX, BY, BZ, hb⟩ := tri_new w (.slice A0 a0.length c0) (.slice A1 a1.length c1) 25 (.slice A2 b0.length c2) (.slice A3 b1.length c3) 25 (.slice A4 n.length c4) (.slice A5 m.length c5) 27
 replace R0 := R0.below hb
 replace R1 := R1.below hb
 replace R2 := R2.below hb
 replace R3 := R3.below hb
 replace R4 := R4.below hb
 replace R5 := R5.below hb
 replace SB := SB.step hb
 clear hb
 generalize hw : (((w.alloc (.cells #[.slice A0 a0.length c0, .slice A1 a1.length c1] 25)).alloc (.cells #[.slice A2 b0.length c2, .slice A3 b1.length c3] 25)).alloc (.cells #[.slice A4 n.length c4, .slice A5 m.length c5] 27)) = w0 at *
 clear hw
 have BXx0 := BX.c0
 have BXx1 := BX.c1
 have BYx0 := BY.c0
 have BYx1 := BY.c1
 have BZx0 := BZ.c0
 have BZx1 := BZ.c1
 go_wp2_with fail
 refine (scarfjointref05_Valid.calls ka _ _ a0 _ _ a1 (validE a0 a1) _ R0.at_ R0.cap R1.at_ R1.cap HKA.out).mono ?_
 rintro e w1 ⟨rfl, hb⟩
 replace hb := bS (w := w0) hb
 replace R0 := R0.below hb
 replace R1 := R1.below hb
 replace R2 := R2.below hb
 replace R3 := R3.below hb
 replace R4 := R4.below hb
 replace R5 := R5.below hb
 replace BX := BX.below hb
 replace BY := BY.below hb
 replace BZ := BZ.below hb
 replace SB := SB.step hb
 clear hb
 have BXx0 := BX.c0
 have BXx1 := BX.c1
 have BYx0 := BY.c0
 have BYx1 := BY.c1
 have BZx0 := BZ.c0
 have BZx1 := BZ.c1
 have hz : (validE a0 a1 != 0) = true := bne_iff_ne.mpr HV_.out
 go_wp2_with fail
 go_ret
 exact ⟨rfl, SB.get⟩
set_option maxHeartbeats 4000000 in
set_option maxRecDepth 100000 in
theorem rvalid_b (A0 : Option Addr) (c0 : Nat) (a0 : List Int) (A1 : Option Addr) (c1 : Nat) (a1 : List S94) (A2 : Option Addr) (c2 : Nat) (b0 : List Int) (A3 : Option Addr) (c3 : Nat) (b1 : List S94) (A4 : Option Addr) (c4 : Nat) (n : List Int) (A5 : Option Addr) (c5 : Nat) (m : List Int) (w : World) (R0 : Row (Kd.int .i64) w A0 c0 a0) (R1 : Row k94 w A1 c1 a1) (R2 : Row (Kd.int .i64) w A2 c2 b0) (R3 : Row k94 w A3 c3 b1) (R4 : Row (Kd.int .i64) w A4 c4 n) (R5 : Row (Kd.int .i64) w A5 c5 m) (hv : validE a0 a1 = 0) (hu : validE b0 b1 ≠ 0) :
  Calls Try.prog 44 #[.agg #[.slice A0 a0.length c0, .slice A1 a1.length c1], .agg #[.slice A2 b0.length c2, .slice A3 b1.length c3], .agg #[.slice A4 n.length c4, .slice A5 m.length c5]] w fun e w' => e = .returned (.int .i64 (validE b0 b1)) ∧ Below w.heap.size w w' := by
 obtain ⟨ka, hka⟩ := Pl.valid_ev a0 a1
 have HKA := Aside0.mk (hka ka (Nat.le_refl _))
 obtain ⟨kb, hkb⟩ := Pl.valid_ev b0 b1
 have HKB := Aside0.mk (hkb kb (Nat.le_refl _))
 clear hka hkb
 have hu25 := Try.underlying25
 have hu27 := Try.underlying27
 have hu94 := Try.underlying94
 have HV_ := Aside0.mk hv
 have HU_ := Aside0.mk hu
 clear hv hu
 have SB := Since.refl w
 go_enter Try.func44, Try.ntmps44
 go_upto_region 1 with fail
 obtain ⟨BX, BY, BZ, hb⟩ := tri_new w (.slice A0 a0.length c0) (.slice A1 a1.length c1) 25 (.slice A2 b0.length c2) (.slice A3 b1.length c3) 25 (.slice A4 n.length c4) (.slice A5 m.length c5) 27
 replace R0 := R0.below hb
 replace R1 := R1.below hb
 replace R2 := R2.below hb
 replace R3 := R3.below hb
 replace R4 := R4.below hb
 replace R5 := R5.below hb
 replace SB := SB.step hb
 clear hb
 generalize hw : (((w.alloc (.cells #[.slice A0 a0.length c0, .slice A1 a1.length c1] 25)).alloc (.cells #[.slice A2 b0.length c2, .slice A3 b1.length c3] 25)).alloc (.cells #[.slice A4 n.length c4, .slice A5 m.length c5] 27)) = w0 at *
 clear hw
 have BXx0 := BX.c0
 have BXx1 := BX.c1
 have BYx0 := BY.c0
 have BYx1 := BY.c1
 have BZx0 := BZ.c0
 have BZx1 := BZ.c1
 go_wp2_with fail
 refine (scarfjointref05_Valid.calls ka _ _ a0 _ _ a1 0 _ R0.at_ R0.cap R1.at_ R1.cap (HKA.out.trans (by rw [HV_.out]))).mono ?_
 rintro e w1 ⟨rfl, hb⟩
 replace hb := bS (w := w0) hb
 replace R0 := R0.below hb
 replace R1 := R1.below hb
 replace R2 := R2.below hb
 replace R3 := R3.below hb
 replace R4 := R4.below hb
 replace R5 := R5.below hb
 replace BX := BX.below hb
 replace BY := BY.below hb
 replace BZ := BZ.below hb
 replace SB := SB.step hb
 clear hb
 have BXx0 := BX.c0
 have BXx1 := BX.c1
 have BYx0 := BY.c0
 have BYx1 := BY.c1
 have BZx0 := BZ.c0
 have BZx1 := BZ.c1
 go_wp2_with fail
 refine (scarfjointref05_Valid.calls kb _ _ b0 _ _ b1 (validE b0 b1) _ R2.at_ R2.cap R3.at_ R3.cap HKB.out).mono ?_
 rintro e w2 ⟨rfl, hb⟩
 replace hb := bS (w := w1) hb
 replace R0 := R0.below hb
 replace R1 := R1.below hb
 replace R2 := R2.below hb
 replace R3 := R3.below hb
 replace R4 := R4.below hb
 replace R5 := R5.below hb
 replace BX := BX.below hb
 replace BY := BY.below hb
 replace BZ := BZ.below hb
 replace SB := SB.step hb
 clear hb
 have BXx0 := BX.c0
 have BXx1 := BX.c1
 have BYx0 := BY.c0
 have BYx1 := BY.c1
 have BZx0 := BZ.c0
 have BZx1 := BZ.c1
 have hz : (validE b0 b1 != 0) = true := bne_iff_ne.mpr HU_.out
 go_wp2_with fail
 go_ret
 exact ⟨rfl, SB.get⟩
set_option maxHeartbeats 4000000 in
set_option maxRecDepth 100000 in
theorem rvalid_c (A0 : Option Addr) (c0 : Nat) (a0 : List Int) (A1 : Option Addr) (c1 : Nat) (a1 : List S94) (A2 : Option Addr) (c2 : Nat) (b0 : List Int) (A3 : Option Addr) (c3 : Nat) (b1 : List S94) (A4 : Option Addr) (c4 : Nat) (n : List Int) (A5 : Option Addr) (c5 : Nat) (m : List Int) (w : World) (R0 : Row (Kd.int .i64) w A0 c0 a0) (R1 : Row k94 w A1 c1 a1) (R2 : Row (Kd.int .i64) w A2 c2 b0) (R3 : Row k94 w A3 c3 b1) (R4 : Row (Kd.int .i64) w A4 c4 n) (R5 : Row (Kd.int .i64) w A5 c5 m) (hv : validE a0 a1 = 0) (hu : validE b0 b1 = 0) (hn : n.length ≠ a0.length ∨ m.length ≠ a1.length) :
  Calls Try.prog 44 #[.agg #[.slice A0 a0.length c0, .slice A1 a1.length c1], .agg #[.slice A2 b0.length c2, .slice A3 b1.length c3], .agg #[.slice A4 n.length c4, .slice A5 m.length c5]] w fun e w' => e = .returned (.int .i64 20) ∧ Below w.heap.size w w' := by
 obtain ⟨ka, hka⟩ := Pl.valid_ev a0 a1
 have HKA := Aside0.mk (hka ka (Nat.le_refl _))
 obtain ⟨kb, hkb⟩ := Pl.valid_ev b0 b1
 have HKB := Aside0.mk (hkb kb (Nat.le_refl _))
 clear hka hkb
 have hu25 := Try.underlying25
 have hu27 := Try.underlying27
 have hu94 := Try.underlying94
 have HV_ := Aside0.mk hv
 have HU_ := Aside0.mk hu
 clear hv hu
 have SB := Since.refl w
 go_enter Try.func44, Try.ntmps44
 go_upto_region 1 with fail
 obtain ⟨BX, BY, BZ, hb⟩ := tri_new w (.slice A0 a0.length c0) (.slice A1 a1.length c1) 25 (.slice A2 b0.length c2) (.slice A3 b1.length c3) 25 (.slice A4 n.length c4) (.slice A5 m.length c5) 27
 replace R0 := R0.below hb
 replace R1 := R1.below hb
 replace R2 := R2.below hb
 replace R3 := R3.below hb
 replace R4 := R4.below hb
 replace R5 := R5.below hb
 replace SB := SB.step hb
 clear hb
 generalize hw : (((w.alloc (.cells #[.slice A0 a0.length c0, .slice A1 a1.length c1] 25)).alloc (.cells #[.slice A2 b0.length c2, .slice A3 b1.length c3] 25)).alloc (.cells #[.slice A4 n.length c4, .slice A5 m.length c5] 27)) = w0 at *
 clear hw
 have BXx0 := BX.c0
 have BXx1 := BX.c1
 have BYx0 := BY.c0
 have BYx1 := BY.c1
 have BZx0 := BZ.c0
 have BZx1 := BZ.c1
 go_wp2_with fail
 refine (scarfjointref05_Valid.calls ka _ _ a0 _ _ a1 0 _ R0.at_ R0.cap R1.at_ R1.cap (HKA.out.trans (by rw [HV_.out]))).mono ?_
 rintro e w1 ⟨rfl, hb⟩
 replace hb := bS (w := w0) hb
 replace R0 := R0.below hb
 replace R1 := R1.below hb
 replace R2 := R2.below hb
 replace R3 := R3.below hb
 replace R4 := R4.below hb
 replace R5 := R5.below hb
 replace BX := BX.below hb
 replace BY := BY.below hb
 replace BZ := BZ.below hb
 replace SB := SB.step hb
 clear hb
 have BXx0 := BX.c0
 have BXx1 := BX.c1
 have BYx0 := BY.c0
 have BYx1 := BY.c1
 have BZx0 := BZ.c0
 have BZx1 := BZ.c1
 go_wp2_with fail
 refine (scarfjointref05_Valid.calls kb _ _ b0 _ _ b1 0 _ R2.at_ R2.cap R3.at_ R3.cap (HKB.out.trans (by rw [HU_.out]))).mono ?_
 rintro e w2 ⟨rfl, hb⟩
 replace hb := bS (w := w1) hb
 replace R0 := R0.below hb
 replace R1 := R1.below hb
 replace R2 := R2.below hb
 replace R3 := R3.below hb
 replace R4 := R4.below hb
 replace R5 := R5.below hb
 replace BX := BX.below hb
 replace BY := BY.below hb
 replace BZ := BZ.below hb
 replace SB := SB.step hb
 clear hb
 have BXx0 := BX.c0
 have BXx1 := BX.c1
 have BYx0 := BY.c0
 have BYx1 := BY.c1
 have BZx0 := BZ.c0
 have BZx1 := BZ.c1
 go_wp2_with fail
 all_goals first | (exfalso; omega) | skip
 all_goals (go_ret; exact ⟨rfl, SB.get⟩)
set_option maxHeartbeats 4000000 in
set_option maxRecDepth 100000 in
theorem rvalid_d (A0 : Option Addr) (c0 : Nat) (a0 : List Int) (A1 : Option Addr) (c1 : Nat) (a1 : List S94) (A2 : Option Addr) (c2 : Nat) (b0 : List Int) (A3 : Option Addr) (c3 : Nat) (b1 : List S94) (A4 : Option Addr) (c4 : Nat) (n : List Int) (A5 : Option Addr) (c5 : Nat) (m : List Int) (w : World) (R0 : Row (Kd.int .i64) w A0 c0 a0) (R1 : Row k94 w A1 c1 a1) (R2 : Row (Kd.int .i64) w A2 c2 b0) (R3 : Row k94 w A3 c3 b1) (R4 : Row (Kd.int .i64) w A4 c4 n) (R5 : Row (Kd.int .i64) w A5 c5 m) (hv : validE a0 a1 = 0) (hu : validE b0 b1 = 0) (hn : n.length = a0.length) (hm : m.length = a1.length) (hl : n.length ≤ 1000000 ∧ m.length ≤ 1000000) (r : Int) (hr : (if mvN a0 b0 0 n = 0 then mvE a1 b1 n 0 m else mvN a0 b0 0 n) = r) :
  Calls Try.prog 44 #[.agg #[.slice A0 a0.length c0, .slice A1 a1.length c1], .agg #[.slice A2 b0.length c2, .slice A3 b1.length c3], .agg #[.slice A4 n.length c4, .slice A5 m.length c5]] w fun e w' => e = .returned (.int .i64 r) ∧ Below w.heap.size w w' := by
 obtain ⟨ka, hka⟩ := Pl.valid_ev a0 a1
 have HKA := Aside0.mk (hka ka (Nat.le_refl _))
 obtain ⟨kb, hkb⟩ := Pl.valid_ev b0 b1
 have HKB := Aside0.mk (hkb kb (Nat.le_refl _))
 clear hka hkb
 have hu25 := Try.underlying25
 have hu27 := Try.underlying27
 have hu94 := Try.underlying94
 have HV_ := Aside0.mk hv
 have HU_ := Aside0.mk hu
 have HN_ := Aside0.mk hn
 have HM_ := Aside0.mk hm
 have HL_ := Aside0.mk hl
 have HR_ := Aside0.mk hr
 clear hv hu hn hm hl hr
 have SB := Since.refl w
 go_enter Try.func44, Try.ntmps44
 go_upto_region 1 with fail
 obtain ⟨BX, BY, BZ, hb⟩ := tri_new w (.slice A0 a0.length c0) (.slice A1 a1.length c1) 25 (.slice A2 b0.length c2) (.slice A3 b1.length c3) 25 (.slice A4 n.length c4) (.slice A5 m.length c5) 27
 replace R0 := R0.below hb
 replace R1 := R1.below hb
 replace R2 := R2.below hb
 replace R3 := R3.below hb
 replace R4 := R4.below hb
 replace R5 := R5.below hb
 replace SB := SB.step hb
 clear hb
 generalize hw : (((w.alloc (.cells #[.slice A0 a0.length c0, .slice A1 a1.length c1] 25)).alloc (.cells #[.slice A2 b0.length c2, .slice A3 b1.length c3] 25)).alloc (.cells #[.slice A4 n.length c4, .slice A5 m.length c5] 27)) = w0 at *
 clear hw
 have BXx0 := BX.c0
 have BXx1 := BX.c1
 have BYx0 := BY.c0
 have BYx1 := BY.c1
 have BZx0 := BZ.c0
 have BZx1 := BZ.c1
 go_wp2_with fail
 refine (scarfjointref05_Valid.calls ka _ _ a0 _ _ a1 0 _ R0.at_ R0.cap R1.at_ R1.cap (HKA.out.trans (by rw [HV_.out]))).mono ?_
 rintro e w1 ⟨rfl, hb⟩
 replace hb := bS (w := w0) hb
 replace R0 := R0.below hb
 replace R1 := R1.below hb
 replace R2 := R2.below hb
 replace R3 := R3.below hb
 replace R4 := R4.below hb
 replace R5 := R5.below hb
 replace BX := BX.below hb
 replace BY := BY.below hb
 replace BZ := BZ.below hb
 replace SB := SB.step hb
 clear hb
 have BXx0 := BX.c0
 have BXx1 := BX.c1
 have BYx0 := BY.c0
 have BYx1 := BY.c1
 have BZx0 := BZ.c0
 have BZx1 := BZ.c1
 go_wp2_with fail
 refine (scarfjointref05_Valid.calls kb _ _ b0 _ _ b1 0 _ R2.at_ R2.cap R3.at_ R3.cap (HKB.out.trans (by rw [HU_.out]))).mono ?_
 rintro e w2 ⟨rfl, hb⟩
 replace hb := bS (w := w1) hb
 replace R0 := R0.below hb
 replace R1 := R1.below hb
 replace R2 := R2.below hb
 replace R3 := R3.below hb
 replace R4 := R4.below hb
 replace R5 := R5.below hb
 replace BX := BX.below hb
 replace BY := BY.below hb
 replace BZ := BZ.below hb
 replace SB := SB.step hb
 clear hb
 have BXx0 := BX.c0
 have BXx1 := BX.c1
 have BYx0 := BY.c0
 have BYx1 := BY.c1
 have BZx0 := BZ.c0
 have BZx1 := BZ.c1
 have j1 : ((n.length : Int) != (a0.length : Int)) = false := bne_eq_false_iff_eq.mpr (by rw [HN_.out])
 have j2 : ((m.length : Int) != (a1.length : Int)) = false := bne_eq_false_iff_eq.mpr (by rw [HM_.out])
 go_wp2_with fail
 all_goals first | (exfalso; have h1 := HN_.out; have h2 := HM_.out; omega) | skip
 go_loopg [9] n.length (fun kq v44 w' => ∃ i : Nat, v44 = .int .i64 i ∧ Aside0 (i + kq = n.length ∧ mvN a0 b0 i (n.drop i) = mvN a0 b0 0 n) ∧ Row (Kd.int .i64) w' A0 c0 a0 ∧ Row k94 w' A1 c1 a1 ∧ Row (Kd.int .i64) w' A2 c2 b0 ∧ Row k94 w' A3 c3 b1 ∧ Row (Kd.int .i64) w' A4 c4 n ∧ Row (Kd.int .i64) w' A5 c5 m ∧ Box2 w' w.heap.size 25 (.slice A0 a0.length c0) (.slice A1 a1.length c1) ∧ Box2 w' (w.heap.size + 1) 25 (.slice A2 b0.length c2) (.slice A3 b1.length c3) ∧ Box2 w' (w.heap.size + 2) 27 (.slice A4 n.length c4) (.slice A5 m.length c5) ∧ Since w w')
 case atStart => exact ⟨0, rfl, ⟨by omega, rfl⟩, R0, R1, R2, R3, R4, R5, BX, BY, BZ, SB⟩
 case round =>
  clear R0 R1 R2 R3 R4 R5 BX BY BZ SB
  obtain ⟨i, rfl, A, R0, R1, R2, R3, R4, R5, BX, BY, BZ, SB⟩ := hrel
  have BXx0 := BX.c0
  have BXx1 := BX.c1
  have BYx0 := BY.c0
  have BYx1 := BY.c1
  have BZx0 := BZ.c0
  have BZx1 := BZ.c1
  by_cases k1 : i < n.length
  ·have d1 : decide (i < a0.length) = true := decide_eq_true (by have := HN_.out; omega)
   have hA := A.out.2
   rw [drop_rd n i k1, mvN_cons] at hA
   have k2 : (i : Int) < (n.length : Int) := by omega
   obtain ⟨ad, ead, hx⟩ := Kd.at_int R4.at_ (i : Int) (by omega) k2
   cases ead
   rw [Int.toNat_natCast] at hx
   have HK1 := Aside0.mk k1
   have q1 := eq_true k2
   clear k1 k2
   by_cases e1 : rd n i < 0
   ·have d2 : decide (rd n i < 0) = true := decide_eq_true e1
    rw [if_pos (.inl e1)] at hA
    have HA2 := Aside0.mk hA
    clear hA e1
    as_aux_lemma =>
     go_wp2
     repeat (go_quiet (fail); try go_wp2)
     go_ret
     have hr := HR_.out
     rw [← HA2.out, if_neg (by decide)] at hr
     exact ⟨by rw [← hr]; rfl, (SB.step (by repeat (first | exact Below.refl _ _ | apply wN | apply below_drew | apply wA))).get⟩
   ·have d2 : decide (rd n i < 0) = false := decide_eq_false e1
    by_cases e2 : rd n i ≥ b0.length
    ·have d3 : decide ((b0.length : Int) ≤ rd n i) = true := decide_eq_true e2
     rw [if_pos (.inr e2)] at hA
     have HA2 := Aside0.mk hA
     clear hA e1 e2
     as_aux_lemma =>
      go_wp2
      repeat (go_quiet (fail); try go_wp2)
      go_ret
      have hr := HR_.out
      rw [← HA2.out, if_neg (by decide)] at hr
      exact ⟨by rw [← hr]; rfl, (SB.step (by repeat (first | exact Below.refl _ _ | apply wN | apply below_drew | apply wA))).get⟩
    ·have d3 : decide ((b0.length : Int) ≤ rd n i) = false := decide_eq_false e2
     rw [if_neg (by omega)] at hA
     have f1 : 0 ≤ rd n i := by omega
     have f2 : rd n i < (b0.length : Int) := by omega
     have f3 : (i : Int) < (a0.length : Int) := by have := HN_.out; have := HK1.out; omega
     obtain ⟨ae, eae, hy⟩ := Kd.at_int R2.at_ (rd n i) f1 f2
     cases eae
     obtain ⟨af, eaf, hz⟩ := Kd.at_int R0.at_ (i : Int) (by omega) f3
     cases eaf
     rw [Int.toNat_natCast] at hz
     clear e1 e2
     replace f1 := eq_true f1
     replace f2 := eq_true f2
     replace f3 := eq_true f3
     by_cases e3 : rd b0 (rd n i) = rd a0 i
     ·have d4 : (rd b0 (rd n i) != rd a0 i) = false := bne_eq_false_iff_eq.mpr e3
      rw [if_neg (fun h => h e3)] at hA
      have HA2 := Aside0.mk hA
      clear hA e3
      as_aux_lemma =>
       go_wp2
       repeat (go_quiet (fail); try go_wp2)
       go_roundg (gk - 1)
       case measure => have h1 := A.out; have h2 := HK1.out; omega
       case rel =>
        have h1 := A.out
        have h2 := HK1.out
        have h3 := HL_.out
        exact ⟨i + 1, by rw [show wrap64 ((i : Int) + 1) = ((i + 1 : Nat) : Int) from by unfold wrap64; omega], ⟨by omega, HA2.out⟩, R0.below (by repeat (first | exact Below.refl _ _ | apply wN | apply below_drew | apply wA)), R1.below (by repeat (first | exact Below.refl _ _ | apply wN | apply below_drew | apply wA)), R2.below (by repeat (first | exact Below.refl _ _ | apply wN | apply below_drew | apply wA)), R3.below (by repeat (first | exact Below.refl _ _ | apply wN | apply below_drew | apply wA)), R4.below (by repeat (first | exact Below.refl _ _ | apply wN | apply below_drew | apply wA)), R5.below (by repeat (first | exact Below.refl _ _ | apply wN | apply below_drew | apply wA)), BX.below (by repeat (first | exact Below.refl _ _ | apply wN | apply below_drew | apply wA)), BY.below (by repeat (first | exact Below.refl _ _ | apply wN | apply below_drew | apply wA)), BZ.below (by repeat (first | exact Below.refl _ _ | apply wN | apply below_drew | apply wA)), SB.step (by repeat (first | exact Below.refl _ _ | apply wN | apply below_drew | apply wA))⟩
     ·have d4 : (rd b0 (rd n i) != rd a0 i) = true := bne_iff_ne.mpr e3
      rw [if_pos e3] at hA
      have HA2 := Aside0.mk hA
      clear hA e3
      as_aux_lemma =>
       go_wp2
       repeat (go_quiet (fail); try go_wp2)
       go_ret
       have hr := HR_.out
       rw [← HA2.out, if_neg (by decide)] at hr
       exact ⟨by rw [← hr]; rfl, (SB.step (by repeat (first | exact Below.refl _ _ | apply wN | apply below_drew | apply wA))).get⟩
  ·have d1 : decide (i < a0.length) = false := decide_eq_false (by have := HN_.out; omega)
   have hA := A.out.2
   rw [List.drop_of_length_le (by omega)] at hA
   have hr := HR_.out
   rw [← hA, show mvN a0 b0 i [] = 0 from rfl, if_pos rfl] at hr
   have HR2 := Aside0.mk hr
   clear hr hA k1
   go_wp2
   go_loopg [10] m.length (fun kq v73 w' => ∃ i : Nat, v73 = .int .i64 i ∧ Aside0 (i + kq = m.length ∧ mvE a1 b1 n i (m.drop i) = mvE a1 b1 n 0 m) ∧ Row (Kd.int .i64) w' A0 c0 a0 ∧ Row k94 w' A1 c1 a1 ∧ Row (Kd.int .i64) w' A2 c2 b0 ∧ Row k94 w' A3 c3 b1 ∧ Row (Kd.int .i64) w' A4 c4 n ∧ Row (Kd.int .i64) w' A5 c5 m ∧ Box2 w' w.heap.size 25 (.slice A0 a0.length c0) (.slice A1 a1.length c1) ∧ Box2 w' (w.heap.size + 1) 25 (.slice A2 b0.length c2) (.slice A3 b1.length c3) ∧ Box2 w' (w.heap.size + 2) 27 (.slice A4 n.length c4) (.slice A5 m.length c5) ∧ Since w w')
   case atStart => exact ⟨0, rfl, ⟨by omega, rfl⟩, R0, R1, R2, R3, R4, R5, BX, BY, BZ, SB⟩
   case round =>
    clear A R0 R1 R2 R3 R4 R5 BX BY BZ SB
    obtain ⟨i, rfl, A, R0, R1, R2, R3, R4, R5, BX, BY, BZ, SB⟩ := hrel
    have BXx0 := BX.c0
    have BXx1 := BX.c1
    have BYx0 := BY.c0
    have BYx1 := BY.c1
    have BZx0 := BZ.c0
    have BZx1 := BZ.c1
    by_cases k1 : i < m.length
    ·have d1 : decide (i < a1.length) = true := decide_eq_true (by have := HM_.out; omega)
     have hA := A.out.2
     rw [drop_rd m i k1, mvE_cons] at hA
     have k2 : (i : Int) < (m.length : Int) := by omega
     obtain ⟨ad, ead, hx⟩ := Kd.at_int R5.at_ (i : Int) (by omega) k2
     cases ead
     rw [Int.toNat_natCast] at hx
     have HK1 := Aside0.mk k1
     have q1 := eq_true k2
     clear k1 k2
     by_cases e1 : rd m i < 0
     ·have d2 : decide (rd m i < 0) = true := decide_eq_true e1
      rw [if_pos (.inl e1)] at hA
      have HA2 := Aside0.mk hA
      clear hA e1
      as_aux_lemma =>
       go_wp2
       repeat (go_quiet (fail); try go_wp2)
       go_ret
       have hr := HR2.out
       rw [← HA2.out] at hr
       exact ⟨by rw [← hr]; rfl, (SB.step (by repeat (first | exact Below.refl _ _ | apply wN | apply below_drew | apply wA))).get⟩
     ·have d2 : decide (rd m i < 0) = false := decide_eq_false e1
      by_cases e2 : rd m i ≥ b1.length
      ·have d3 : decide ((b1.length : Int) ≤ rd m i) = true := decide_eq_true e2
       rw [if_pos (.inr e2)] at hA
       have HA2 := Aside0.mk hA
       clear hA e1 e2
       as_aux_lemma =>
        go_wp2
        repeat (go_quiet (fail); try go_wp2)
        go_ret
        have hr := HR2.out
        rw [← HA2.out] at hr
        exact ⟨by rw [← hr]; rfl, (SB.step (by repeat (first | exact Below.refl _ _ | apply wN | apply below_drew | apply wA))).get⟩
      ·have d3 : decide ((b1.length : Int) ≤ rd m i) = false := decide_eq_false e2
       rw [if_neg (by omega)] at hA
       have f1 : 0 ≤ rd m i := by omega
       have f2 : rd m i < (b1.length : Int) := by omega
       have f3 : (i : Int) < (a1.length : Int) := by have := HM_.out; have := HK1.out; omega
       obtain ⟨ae, eae, hy0, hy1, hy2⟩ := at_T94 R3.at_ (rd m i) f1 f2
       cases eae
       obtain ⟨af, eaf, hz0, hz1, hz2⟩ := at_T94 R1.at_ (i : Int) (by omega) f3
       cases eaf
       rw [Int.toNat_natCast] at hz0 hz1 hz2
       clear e1 e2
       replace f1 := eq_true f1
       replace f2 := eq_true f2
       replace f3 := eq_true f3
       have HA1 := Aside0.mk hA
       clear hA
       go_upto_region 20 with fail
       go_quiet (fail)
       go_upto_region 22 with fail
       have hb : Below wr.heap.size wr (wr.drewN nq) := by repeat (first | exact Below.refl _ _ | apply wN)
       replace R0 := R0.below hb
       replace R1 := R1.below hb
       replace R2 := R2.below hb
       replace R3 := R3.below hb
       replace R4 := R4.below hb
       replace R5 := R5.below hb
       replace BX := BX.below hb
       replace BY := BY.below hb
       replace BZ := BZ.below hb
       replace SB := SB.step hb
       clear hb
       clear hx hy0 hy1 hy2 hz0 hz1 hz2 BXx0 BXx1 BYx0 BYx1 BZx0 BZx1
       generalize hq_ : wr.drewN nq = wq at *
       clear hq_
       obtain ⟨ad', ead', hx⟩ := Kd.at_int R5.at_ (i : Int) (by omega) (of_eq_true q1)
       cases ead'
       rw [Int.toNat_natCast] at hx
       obtain ⟨ae', eae', hy0, hy1, hy2⟩ := at_T94 R3.at_ (rd m i) (of_eq_true f1) (of_eq_true f2)
       cases eae'
       obtain ⟨af', eaf', hz0, hz1, hz2⟩ := at_T94 R1.at_ (i : Int) (by omega) (of_eq_true f3)
       cases eaf'
       rw [Int.toNat_natCast] at hz0 hz1 hz2
       have BXx0 := BX.c0
       have BXx1 := BX.c1
       have BYx0 := BY.c0
       have BYx1 := BY.c1
       have BZx0 := BZ.c0
       have BZx1 := BZ.c1
       have BXx0_1 := fun o => cell_alloc BXx0 o
       have BXx0_2 := fun o o' => cell_alloc (cell_alloc BXx0 o) o'
       have BXx1_1 := fun o => cell_alloc BXx1 o
       have BXx1_2 := fun o o' => cell_alloc (cell_alloc BXx1 o) o'
       have BYx0_1 := fun o => cell_alloc BYx0 o
       have BYx0_2 := fun o o' => cell_alloc (cell_alloc BYx0 o) o'
       have BYx1_1 := fun o => cell_alloc BYx1 o
       have BYx1_2 := fun o o' => cell_alloc (cell_alloc BYx1 o) o'
       have BZx0_1 := fun o => cell_alloc BZx0 o
       have BZx0_2 := fun o o' => cell_alloc (cell_alloc BZx0 o) o'
       have BZx1_1 := fun o => cell_alloc BZx1 o
       have BZx1_2 := fun o o' => cell_alloc (cell_alloc BZx1 o) o'
       have hy0_1 := fun o => cell_alloc hy0 o
       have hy0_2 := fun o o' => cell_alloc (cell_alloc hy0 o) o'
       have hy1_1 := fun o => cell_alloc hy1 o
       have hy1_2 := fun o o' => cell_alloc (cell_alloc hy1 o) o'
       have hy2_1 := fun o => cell_alloc hy2 o
       have hy2_2 := fun o o' => cell_alloc (cell_alloc hy2 o) o'
       have hz0_1 := fun o => cell_alloc hz0 o
       have hz0_2 := fun o o' => cell_alloc (cell_alloc hz0 o) o'
       have hz1_1 := fun o => cell_alloc hz1 o
       have hz1_2 := fun o o' => cell_alloc (cell_alloc hz1 o) o'
       have hz2_1 := fun o => cell_alloc hz2 o
       have hx_1 := fun o => cell_alloc hx o
       have hx_2 := fun o o' => cell_alloc (cell_alloc hx o) o'
       have hz2_2 := fun o o' => cell_alloc (cell_alloc hz2 o) o'
       go_region
       ·as_aux_lemma =>
         obtain ⟨BU, BV, hb⟩ := duo3_new wq (.int .i64 (rd_T94 a1 i).f0) (.int .i64 (rd_T94 a1 i).f1) (.int .i64 (rd_T94 a1 i).f2) 94 (.int .i64 (rd_T94 b1 (rd m i)).f0) (.int .i64 (rd_T94 b1 (rd m i)).f1) (.int .i64 (rd_T94 b1 (rd m i)).f2) 94
         replace R0 := R0.below hb
         replace R1 := R1.below hb
         replace R2 := R2.below hb
         replace R3 := R3.below hb
         replace R4 := R4.below hb
         replace R5 := R5.below hb
         replace BX := BX.below hb
         replace BY := BY.below hb
         replace BZ := BZ.below hb
         replace SB := SB.step hb
         generalize hw : ((wq.alloc (.cells #[(.int .i64 (rd_T94 a1 i).f0), (.int .i64 (rd_T94 a1 i).f1), (.int .i64 (rd_T94 a1 i).f2)] 94)).alloc (.cells #[(.int .i64 (rd_T94 b1 (rd m i)).f0), (.int .i64 (rd_T94 b1 (rd m i)).f1), (.int .i64 (rd_T94 b1 (rd m i)).f2)] 94)).drew = wx at *
         clear hw
         have BXx0 := BX.c0
         have BXx1 := BX.c1
         have BYx0 := BY.c0
         have BYx1 := BY.c1
         have BZx0 := BZ.c0
         have BZx1 := BZ.c1
         have BUx0 := BU.c0
         have BUx1 := BU.c1
         have BUx2 := BU.c2
         have BVx0 := BV.c0
         have BVx1 := BV.c1
         have BVx2 := BV.c2
         have hA := HA1.out
         obtain ⟨-, -, hok⟩ := Pl.okE_of HV_.out
         have hmem : rd_T94 a1 i ∈ a1 := by
          have h3 := of_eq_true f3
          unfold rd_T94
          rw [Int.toNat_natCast, List.getD_eq_getElem?_getD, List.getElem?_eq_getElem (by omega)]
          exact List.getElem_mem _
         have hends := hok _ hmem
         unfold Pl.okE at hends
         obtain ⟨⟨g1, g2⟩, g3, g4⟩ := hends
         rw [← HN_.out] at g2 g4
         clear hmem hok
         by_cases e4 : (rd_T94 a1 i).f0 = (rd_T94 b1 (rd m i)).f0
         rotate_left
         ·have d4 : ((rd_T94 a1 i).f0 != (rd_T94 b1 (rd m i)).f0) = true := bne_iff_ne.mpr e4
          rw [if_pos e4] at hA
          have HA2 := Aside0.mk hA
          clear hA e4
          as_aux_lemma =>
           go_wp2
           repeat (go_quiet (fail); try go_wp2)
           go_ret
           have hr := HR2.out
           rw [← HA2.out] at hr
           exact ⟨by rw [← hr]; rfl, (SB.step (by repeat (first | exact Below.refl _ _ | apply wN | apply below_drew | apply wA))).get⟩
         have d4 : ((rd_T94 a1 i).f0 != (rd_T94 b1 (rd m i)).f0) = false := bne_eq_false_iff_eq.mpr e4
         rw [if_neg (fun h => h e4)] at hA
         obtain ⟨ag, eag, hn1⟩ := Kd.at_int R4.at_ _ g1 g2
         cases eag
         obtain ⟨ah, eah, hn2⟩ := Kd.at_int R4.at_ _ g3 g4
         cases eah
         replace g1 := eq_true g1
         replace g2 := eq_true g2
         replace g3 := eq_true g3
         replace g4 := eq_true g4
         clear e4
         by_cases e5 : rd n (rd_T94 a1 i).f1 = (rd_T94 b1 (rd m i)).f1
         rotate_left
         ·have d5 : (rd n (rd_T94 a1 i).f1 != (rd_T94 b1 (rd m i)).f1) = true := bne_iff_ne.mpr e5
          rw [if_pos (.inl e5)] at hA
          have HA2 := Aside0.mk hA
          clear hA e5
          as_aux_lemma =>
           go_wp2
           repeat (go_quiet (fail); try go_wp2)
           go_ret
           have hr := HR2.out
           rw [← HA2.out] at hr
           exact ⟨by rw [← hr]; rfl, (SB.step (by repeat (first | exact Below.refl _ _ | apply wN | apply below_drew | apply wA))).get⟩
         have d5 : (rd n (rd_T94 a1 i).f1 != (rd_T94 b1 (rd m i)).f1) = false := bne_eq_false_iff_eq.mpr e5
         by_cases e6 : rd n (rd_T94 a1 i).f2 = (rd_T94 b1 (rd m i)).f2
         rotate_left
         ·have d6 : (rd n (rd_T94 a1 i).f2 != (rd_T94 b1 (rd m i)).f2) = true := bne_iff_ne.mpr e6
          rw [if_pos (.inr e6)] at hA
          have HA2 := Aside0.mk hA
          clear hA e5 e6
          as_aux_lemma =>
           go_wp2
           repeat (go_quiet (fail); try go_wp2)
           go_ret
           have hr := HR2.out
           rw [← HA2.out] at hr
           exact ⟨by rw [← hr]; rfl, (SB.step (by repeat (first | exact Below.refl _ _ | apply wN | apply below_drew | apply wA))).get⟩
         have d6 : (rd n (rd_T94 a1 i).f2 != (rd_T94 b1 (rd m i)).f2) = false := bne_eq_false_iff_eq.mpr e6
         rw [if_neg (fun h => h.elim (fun h => h e5) (fun h => h e6))] at hA
         have HA2 := Aside0.mk hA
         clear hA e5 e6
         as_aux_lemma =>
          go_wp2
          repeat (go_quiet (fail); try go_wp2)
          go_roundg (gk - 1)
          case measure => have h1 := A.out; have h2 := HK1.out; omega
          case rel =>
           have h1 := A.out
           have h2 := HK1.out
           have h3 := HL_.out
           exact ⟨i + 1, by rw [show wrap64 ((i : Int) + 1) = ((i + 1 : Nat) : Int) from by unfold wrap64; omega], ⟨by omega, HA2.out⟩, R0.below (by repeat (first | exact Below.refl _ _ | apply wN | apply below_drew | apply wA)), R1.below (by repeat (first | exact Below.refl _ _ | apply wN | apply below_drew | apply wA)), R2.below (by repeat (first | exact Below.refl _ _ | apply wN | apply below_drew | apply wA)), R3.below (by repeat (first | exact Below.refl _ _ | apply wN | apply below_drew | apply wA)), R4.below (by repeat (first | exact Below.refl _ _ | apply wN | apply below_drew | apply wA)), R5.below (by repeat (first | exact Below.refl _ _ | apply wN | apply below_drew | apply wA)), BX.below (by repeat (first | exact Below.refl _ _ | apply wN | apply below_drew | apply wA)), BY.below (by repeat (first | exact Below.refl _ _ | apply wN | apply below_drew | apply wA)), BZ.below (by repeat (first | exact Below.refl _ _ | apply wN | apply below_drew | apply wA)), SB.step (by repeat (first | exact Below.refl _ _ | apply wN | apply below_drew | apply wA))⟩
       ·as_aux_lemma =>
         obtain ⟨BV, BU, hb⟩ := duo3_new wq (.int .i64 (rd_T94 b1 (rd m i)).f0) (.int .i64 (rd_T94 b1 (rd m i)).f1) (.int .i64 (rd_T94 b1 (rd m i)).f2) 94 (.int .i64 (rd_T94 a1 i).f0) (.int .i64 (rd_T94 a1 i).f1) (.int .i64 (rd_T94 a1 i).f2) 94
         replace R0 := R0.below hb
         replace R1 := R1.below hb
         replace R2 := R2.below hb
         replace R3 := R3.below hb
         replace R4 := R4.below hb
         replace R5 := R5.below hb
         replace BX := BX.below hb
         replace BY := BY.below hb
         replace BZ := BZ.below hb
         replace SB := SB.step hb
         generalize hw : ((wq.alloc (.cells #[(.int .i64 (rd_T94 b1 (rd m i)).f0), (.int .i64 (rd_T94 b1 (rd m i)).f1), (.int .i64 (rd_T94 b1 (rd m i)).f2)] 94)).alloc (.cells #[(.int .i64 (rd_T94 a1 i).f0), (.int .i64 (rd_T94 a1 i).f1), (.int .i64 (rd_T94 a1 i).f2)] 94)).drew = wx at *
         clear hw
         have BXx0 := BX.c0
         have BXx1 := BX.c1
         have BYx0 := BY.c0
         have BYx1 := BY.c1
         have BZx0 := BZ.c0
         have BZx1 := BZ.c1
         have BUx0 := BU.c0
         have BUx1 := BU.c1
         have BUx2 := BU.c2
         have BVx0 := BV.c0
         have BVx1 := BV.c1
         have BVx2 := BV.c2
         have hA := HA1.out
         obtain ⟨-, -, hok⟩ := Pl.okE_of HV_.out
         have hmem : rd_T94 a1 i ∈ a1 := by
          have h3 := of_eq_true f3
          unfold rd_T94
          rw [Int.toNat_natCast, List.getD_eq_getElem?_getD, List.getElem?_eq_getElem (by omega)]
          exact List.getElem_mem _
         have hends := hok _ hmem
         unfold Pl.okE at hends
         obtain ⟨⟨g1, g2⟩, g3, g4⟩ := hends
         rw [← HN_.out] at g2 g4
         clear hmem hok
         by_cases e4 : (rd_T94 a1 i).f0 = (rd_T94 b1 (rd m i)).f0
         rotate_left
         ·have d4 : ((rd_T94 a1 i).f0 != (rd_T94 b1 (rd m i)).f0) = true := bne_iff_ne.mpr e4
          rw [if_pos e4] at hA
          have HA2 := Aside0.mk hA
          clear hA e4
          as_aux_lemma =>
           go_wp2
           repeat (go_quiet (fail); try go_wp2)
           go_ret
           have hr := HR2.out
           rw [← HA2.out] at hr
           exact ⟨by rw [← hr]; rfl, (SB.step (by repeat (first | exact Below.refl _ _ | apply wN | apply below_drew | apply wA))).get⟩
         have d4 : ((rd_T94 a1 i).f0 != (rd_T94 b1 (rd m i)).f0) = false := bne_eq_false_iff_eq.mpr e4
         rw [if_neg (fun h => h e4)] at hA
         obtain ⟨ag, eag, hn1⟩ := Kd.at_int R4.at_ _ g1 g2
         cases eag
         obtain ⟨ah, eah, hn2⟩ := Kd.at_int R4.at_ _ g3 g4
         cases eah
         replace g1 := eq_true g1
         replace g2 := eq_true g2
         replace g3 := eq_true g3
         replace g4 := eq_true g4
         clear e4
         by_cases e5 : rd n (rd_T94 a1 i).f1 = (rd_T94 b1 (rd m i)).f1
         rotate_left
         ·have d5 : (rd n (rd_T94 a1 i).f1 != (rd_T94 b1 (rd m i)).f1) = true := bne_iff_ne.mpr e5
          rw [if_pos (.inl e5)] at hA
          have HA2 := Aside0.mk hA
          clear hA e5
          as_aux_lemma =>
           go_wp2
           repeat (go_quiet (fail); try go_wp2)
           go_ret
           have hr := HR2.out
           rw [← HA2.out] at hr
           exact ⟨by rw [← hr]; rfl, (SB.step (by repeat (first | exact Below.refl _ _ | apply wN | apply below_drew | apply wA))).get⟩
         have d5 : (rd n (rd_T94 a1 i).f1 != (rd_T94 b1 (rd m i)).f1) = false := bne_eq_false_iff_eq.mpr e5
         by_cases e6 : rd n (rd_T94 a1 i).f2 = (rd_T94 b1 (rd m i)).f2
         rotate_left
         ·have d6 : (rd n (rd_T94 a1 i).f2 != (rd_T94 b1 (rd m i)).f2) = true := bne_iff_ne.mpr e6
          rw [if_pos (.inr e6)] at hA
          have HA2 := Aside0.mk hA
          clear hA e5 e6
          as_aux_lemma =>
           go_wp2
           repeat (go_quiet (fail); try go_wp2)
           go_ret
           have hr := HR2.out
           rw [← HA2.out] at hr
           exact ⟨by rw [← hr]; rfl, (SB.step (by repeat (first | exact Below.refl _ _ | apply wN | apply below_drew | apply wA))).get⟩
         have d6 : (rd n (rd_T94 a1 i).f2 != (rd_T94 b1 (rd m i)).f2) = false := bne_eq_false_iff_eq.mpr e6
         rw [if_neg (fun h => h.elim (fun h => h e5) (fun h => h e6))] at hA
         have HA2 := Aside0.mk hA
         clear hA e5 e6
         as_aux_lemma =>
          go_wp2
          repeat (go_quiet (fail); try go_wp2)
          go_roundg (gk - 1)
          case measure => have h1 := A.out; have h2 := HK1.out; omega
          case rel =>
           have h1 := A.out
           have h2 := HK1.out
           have h3 := HL_.out
           exact ⟨i + 1, by rw [show wrap64 ((i : Int) + 1) = ((i + 1 : Nat) : Int) from by unfold wrap64; omega], ⟨by omega, HA2.out⟩, R0.below (by repeat (first | exact Below.refl _ _ | apply wN | apply below_drew | apply wA)), R1.below (by repeat (first | exact Below.refl _ _ | apply wN | apply below_drew | apply wA)), R2.below (by repeat (first | exact Below.refl _ _ | apply wN | apply below_drew | apply wA)), R3.below (by repeat (first | exact Below.refl _ _ | apply wN | apply below_drew | apply wA)), R4.below (by repeat (first | exact Below.refl _ _ | apply wN | apply below_drew | apply wA)), R5.below (by repeat (first | exact Below.refl _ _ | apply wN | apply below_drew | apply wA)), BX.below (by repeat (first | exact Below.refl _ _ | apply wN | apply below_drew | apply wA)), BY.below (by repeat (first | exact Below.refl _ _ | apply wN | apply below_drew | apply wA)), BZ.below (by repeat (first | exact Below.refl _ _ | apply wN | apply below_drew | apply wA)), SB.step (by repeat (first | exact Below.refl _ _ | apply wN | apply below_drew | apply wA))⟩
    ·have d1 : decide (i < a1.length) = false := decide_eq_false (by have := HM_.out; omega)
     have hA := A.out.2
     rw [List.drop_of_length_le (by omega)] at hA
     have hr := HR2.out
     rw [← hA] at hr
     have HR3 := Aside0.mk hr
     clear hr hA k1
     go_wp2
     go_ret
     exact ⟨by rw [← HR3.out]; rfl, SB.get⟩
theorem rvalid_calls (A0 : Option Addr) (c0 : Nat) (a0 : List Int) (A1 : Option Addr) (c1 : Nat) (a1 : List S94) (A2 : Option Addr) (c2 : Nat) (b0 : List Int) (A3 : Option Addr) (c3 : Nat) (b1 : List S94) (A4 : Option Addr) (c4 : Nat) (n : List Int) (A5 : Option Addr) (c5 : Nat) (m : List Int) (w : World) (R0 : Row (Kd.int .i64) w A0 c0 a0) (R1 : Row k94 w A1 c1 a1) (R2 : Row (Kd.int .i64) w A2 c2 b0) (R3 : Row k94 w A3 c3 b1) (R4 : Row (Kd.int .i64) w A4 c4 n) (R5 : Row (Kd.int .i64) w A5 c5 m) :
  Calls Try.prog 44 #[.agg #[.slice A0 a0.length c0, .slice A1 a1.length c1], .agg #[.slice A2 b0.length c2, .slice A3 b1.length c3], .agg #[.slice A4 n.length c4, .slice A5 m.length c5]] w fun e w' => e = .returned (.int .i64 (mvalid a0 a1 b0 b1 n m)) ∧ Below w.heap.size w w' := by
 unfold mvalid
 by_cases hv : validE a0 a1 = 0
 ·rw [if_pos hv]
  by_cases hu : validE b0 b1 = 0
  ·rw [if_pos hu]
   by_cases hn : n.length ≠ a0.length ∨ m.length ≠ a1.length
   ·rw [if_pos hn]
    exact rvalid_c A0 c0 a0 A1 c1 a1 A2 c2 b0 A3 c3 b1 A4 c4 n A5 c5 m w R0 R1 R2 R3 R4 R5 hv hu hn
   ·rw [if_neg hn]
    have hn0 : n.length = a0.length := by omega
    have hm0 : m.length = a1.length := by omega
    obtain ⟨h1, h2, -⟩ := Pl.okE_of hv
    exact rvalid_d A0 c0 a0 A1 c1 a1 A2 c2 b0 A3 c3 b1 A4 c4 n A5 c5 m w R0 R1 R2 R3 R4 R5 hv hu hn0 hm0 ⟨by omega, by omega⟩ _ rfl
  ·rw [if_neg hu]
   exact rvalid_b A0 c0 a0 A1 c1 a1 A2 c2 b0 A3 c3 b1 A4 c4 n A5 c5 m w R0 R1 R2 R3 R4 R5 hv hu
 ·rw [if_neg hv]
  exact rvalid_a A0 c0 a0 A1 c1 a1 A2 c2 b0 A3 c3 b1 A4 c4 n A5 c5 m w R0 R1 R2 R3 R4 R5 hv
def scarfjointref06_Valid.f (l0_0 : List Int) (l0_1 : List (S94)) (l1_0 : List Int) (l1_1 : List (S94)) (l2_0 : List Int) (l2_1 : List Int) : Option (Int) := some (mvalid l0_0 l0_1 l1_0 l1_1 l2_0 l2_1)
theorem scarfjointref06_Valid.calls (A0_0 : Option Addr) (c0_0 : Nat) (l0_0 : List Int) (A0_1 : Option Addr) (c0_1 : Nat) (l0_1 : List (S94)) (A1_0 : Option Addr) (c1_0 : Nat) (l1_0 : List Int) (A1_1 : Option Addr) (c1_1 : Nat) (l1_1 : List (S94)) (A2_0 : Option Addr) (c2_0 : Nat) (l2_0 : List Int) (A2_1 : Option Addr) (c2_1 : Nat) (l2_1 : List Int) (r : Int) (w : World) (hr0_0 : Kd.C (Kd.int .i64) w A0_0 l0_0.length l0_0) (hc0_0 : l0_0.length ≤ c0_0) (hr0_1 : Kd.C k94 w A0_1 l0_1.length l0_1) (hc0_1 : l0_1.length ≤ c0_1) (hr1_0 : Kd.C (Kd.int .i64) w A1_0 l1_0.length l1_0) (hc1_0 : l1_0.length ≤ c1_0) (hr1_1 : Kd.C k94 w A1_1 l1_1.length l1_1) (hc1_1 : l1_1.length ≤ c1_1) (hr2_0 : Kd.C (Kd.int .i64) w A2_0 l2_0.length l2_0) (hc2_0 : l2_0.length ≤ c2_0) (hr2_1 : Kd.C (Kd.int .i64) w A2_1 l2_1.length l2_1) (hc2_1 : l2_1.length ≤ c2_1) (h : scarfjointref06_Valid.f l0_0 l0_1 l1_0 l1_1 l2_0 l2_1 = some r) :
  Calls Try.prog 44 #[.agg #[.slice A0_0 l0_0.length c0_0, .slice A0_1 l0_1.length c0_1], .agg #[.slice A1_0 l1_0.length c1_0, .slice A1_1 l1_1.length c1_1], .agg #[.slice A2_0 l2_0.length c2_0, .slice A2_1 l2_1.length c2_1]] w fun e w' => e = .returned (.int .i64 r) ∧ Below w.heap.size w w' := by
 cases h
 exact rvalid_calls A0_0 c0_0 l0_0 A0_1 c0_1 l0_1 A1_0 c1_0 l1_0 A1_1 c1_1 l1_1 A2_0 c2_0 l2_0 A2_1 c2_1 l2_1 w ⟨hc0_0, hr0_0⟩ ⟨hc0_1, hr0_1⟩ ⟨hc1_0, hr1_0⟩ ⟨hc1_1, hr1_1⟩ ⟨hc2_0, hr2_0⟩ ⟨hc2_1, hr2_1⟩
/-! ### scarfjointref11_Valid: function 68 -/
set_option maxHeartbeats 4000000 in
set_option maxRecDepth 100000 in
theorem given68_a (A0 : Option Addr) (c0 : Nat) (x0 : List Int) (A1 : Option Addr) (c1 : Nat) (x1 : List S94) (A2 : Option Addr) (c2 : Nat) (x2 : List Int) (A3 : Option Addr) (c3 : Nat) (x3 : List S94) (A4 : Option Addr) (c4 : Nat) (x4 : List Int) (A5 : Option Addr) (c5 : Nat) (x5 : List S94) (A6 : Option Addr) (c6 : Nat) (x6 : List Int) (A7 : Option Addr) (c7 : Nat) (x7 : List Int) (A8 : Option Addr) (c8 : Nat) (x8 : List Int) (A9 : Option Addr) (c9 : Nat) (x9 : List Int) (w : World)
  (R0 : Row (Kd.int .i64) w A0 c0 x0) (R1 : Row k94 w A1 c1 x1) (R2 : Row (Kd.int .i64) w A2 c2 x2) (R3 : Row k94 w A3 c3 x3) (R4 : Row (Kd.int .i64) w A4 c4 x4) (R5 : Row k94 w A5 c5 x5) (R6 : Row (Kd.int .i64) w A6 c6 x6) (R7 : Row (Kd.int .i64) w A7 c7 x7) (R8 : Row (Kd.int .i64) w A8 c8 x8) (R9 : Row (Kd.int .i64) w A9 c9 x9) (r : Int) (h : mvalid x0 x1 x4 x5 x6 x7 = r) (hr : r ≠ 0) :
  Calls Try.prog 68 #[.agg #[.slice A0 x0.length c0, .slice A1 x1.length c1, .slice A2 x2.length c2, .slice A3 x3.length c3, .slice A4 x4.length c4, .slice A5 x5.length c5, .slice A6 x6.length c6, .slice A7 x7.length c7, .slice A8 x8.length c8, .slice A9 x9.length c9]] w fun e w' => e = .returned (.int .i64 r) ∧ Below w.heap.size w w' := by
 have h_ := Aside0.mk h
 have hr_ := Aside0.mk hr
 clear h hr
 have hu25 := Try.underlying25
 have hu27 := Try.underlying27
 have hu29 := Try.underlying29
 have SB := Since.refl w
 have RS := cR R0 (cR R1 (cR R2 (cR R3 (cR R4 (cR R5 (cR R6 (cR R7 (cR R8 (cR R9 (cE SB))))))))))
 clear SB R0 R1 R2 R3 R4 R5 R6 R7 R8 R9
 go_enter Try.func68, Try.ntmps68
 go_upto_region 1 with fail
 obtain ⟨w1, hv, BS, hb⟩ := nw1 w 29 #[.slice A0 x0.length c0, .slice A1 x1.length c1, .slice A2 x2.length c2, .slice A3 x3.length c3, .slice A4 x4.length c4, .slice A5 x5.length c5, .slice A6 x6.length c6, .slice A7 x7.length c7, .slice A8 x8.length c8, .slice A9 x9.length c9]
 rw [← hv]
 clear hv
 replace RS := mo hb RS
 clear hb
 replace RS := cK BS (RS)
 clear BS
 rcases (id RS) with ⟨⟨BS⟩, -⟩
 obtain ⟨_, _, _, _, _, _, _, _, _, _⟩ := BS.q10
 go_wp2_with fail
 rcases (id RS) with ⟨-, ⟨⟨R0⟩, ⟨⟨R1⟩, ⟨-, ⟨-, ⟨⟨R4⟩, ⟨⟨R5⟩, ⟨⟨R6⟩, ⟨⟨R7⟩, -⟩⟩⟩⟩⟩⟩⟩⟩⟩
 refine (scarfjointref06_Valid.calls _ _ x0 _ _ x1 _ _ x4 _ _ x5 _ _ x6 _ _ x7 r _ R0.at_ R0.cap R1.at_ R1.cap R4.at_ R4.cap R5.at_ R5.cap R6.at_ R6.cap R7.at_ R7.cap (by unfold scarfjointref06_Valid.f; rw [h_.out])).mono ?_
 rintro e w2 ⟨rfl, hb⟩
 clear R0 R1 R4 R5 R6 R7
 replace hb := bS (w := w1) hb
 replace RS := mo hb RS
 clear hb
 rcases (id RS) with ⟨⟨BS⟩, -⟩
 obtain ⟨_, _, _, _, _, _, _, _, _, _⟩ := BS.q10
 rcases (id RS) with ⟨-, ⟨-, ⟨-, ⟨-, ⟨-, ⟨-, ⟨-, ⟨-, ⟨-, ⟨-, ⟨-, ⟨SB⟩⟩⟩⟩⟩⟩⟩⟩⟩⟩⟩⟩
 have hz : (r != 0) = true := bne_iff_ne.mpr hr_.out
 go_wp2_with fail
 go_ret
 exact ⟨rfl, SB.get⟩
set_option maxHeartbeats 4000000 in
set_option maxRecDepth 100000 in
theorem given68_b (A0 : Option Addr) (c0 : Nat) (x0 : List Int) (A1 : Option Addr) (c1 : Nat) (x1 : List S94) (A2 : Option Addr) (c2 : Nat) (x2 : List Int) (A3 : Option Addr) (c3 : Nat) (x3 : List S94) (A4 : Option Addr) (c4 : Nat) (x4 : List Int) (A5 : Option Addr) (c5 : Nat) (x5 : List S94) (A6 : Option Addr) (c6 : Nat) (x6 : List Int) (A7 : Option Addr) (c7 : Nat) (x7 : List Int) (A8 : Option Addr) (c8 : Nat) (x8 : List Int) (A9 : Option Addr) (c9 : Nat) (x9 : List Int) (w : World)
  (R0 : Row (Kd.int .i64) w A0 c0 x0) (R1 : Row k94 w A1 c1 x1) (R2 : Row (Kd.int .i64) w A2 c2 x2) (R3 : Row k94 w A3 c3 x3) (R4 : Row (Kd.int .i64) w A4 c4 x4) (R5 : Row k94 w A5 c5 x5) (R6 : Row (Kd.int .i64) w A6 c6 x6) (R7 : Row (Kd.int .i64) w A7 c7 x7) (R8 : Row (Kd.int .i64) w A8 c8 x8) (R9 : Row (Kd.int .i64) w A9 c9 x9) (r : Int) (h : mvalid x0 x1 x4 x5 x6 x7 = 0) (hr : mvalid x2 x3 x4 x5 x8 x9 = r) :
  Calls Try.prog 68 #[.agg #[.slice A0 x0.length c0, .slice A1 x1.length c1, .slice A2 x2.length c2, .slice A3 x3.length c3, .slice A4 x4.length c4, .slice A5 x5.length c5, .slice A6 x6.length c6, .slice A7 x7.length c7, .slice A8 x8.length c8, .slice A9 x9.length c9]] w fun e w' => e = .returned (.int .i64 r) ∧ Below w.heap.size w w' := by
 have h_ := Aside0.mk h
 have hr_ := Aside0.mk hr
 clear h hr
 have hu25 := Try.underlying25
 have hu27 := Try.underlying27
 have hu29 := Try.underlying29
 have SB := Since.refl w
 have RS := cR R0 (cR R1 (cR R2 (cR R3 (cR R4 (cR R5 (cR R6 (cR R7 (cR R8 (cR R9 (cE SB))))))))))
 clear SB R0 R1 R2 R3 R4 R5 R6 R7 R8 R9
 go_enter Try.func68, Try.ntmps68
 go_upto_region 1 with fail
 obtain ⟨w1, hv, BS, hb⟩ := nw1 w 29 #[.slice A0 x0.length c0, .slice A1 x1.length c1, .slice A2 x2.length c2, .slice A3 x3.length c3, .slice A4 x4.length c4, .slice A5 x5.length c5, .slice A6 x6.length c6, .slice A7 x7.length c7, .slice A8 x8.length c8, .slice A9 x9.length c9]
 rw [← hv]
 clear hv
 replace RS := mo hb RS
 clear hb
 replace RS := cK BS (RS)
 clear BS
 rcases (id RS) with ⟨⟨BS⟩, -⟩
 obtain ⟨_, _, _, _, _, _, _, _, _, _⟩ := BS.q10
 go_wp2_with fail
 rcases (id RS) with ⟨-, ⟨⟨R0⟩, ⟨⟨R1⟩, ⟨-, ⟨-, ⟨⟨R4⟩, ⟨⟨R5⟩, ⟨⟨R6⟩, ⟨⟨R7⟩, -⟩⟩⟩⟩⟩⟩⟩⟩⟩
 refine (scarfjointref06_Valid.calls _ _ x0 _ _ x1 _ _ x4 _ _ x5 _ _ x6 _ _ x7 0 _ R0.at_ R0.cap R1.at_ R1.cap R4.at_ R4.cap R5.at_ R5.cap R6.at_ R6.cap R7.at_ R7.cap (by unfold scarfjointref06_Valid.f; rw [h_.out])).mono ?_
 rintro e w2 ⟨rfl, hb⟩
 clear R0 R1 R4 R5 R6 R7
 replace hb := bS (w := w1) hb
 replace RS := mo hb RS
 clear hb
 rcases (id RS) with ⟨⟨BS⟩, -⟩
 obtain ⟨_, _, _, _, _, _, _, _, _, _⟩ := BS.q10
 go_wp2_with fail
 rcases (id RS) with ⟨-, ⟨-, ⟨-, ⟨⟨R2⟩, ⟨⟨R3⟩, ⟨⟨R4⟩, ⟨⟨R5⟩, ⟨-, ⟨-, ⟨⟨R8⟩, ⟨⟨R9⟩, -⟩⟩⟩⟩⟩⟩⟩⟩⟩⟩⟩
 refine (scarfjointref06_Valid.calls _ _ x2 _ _ x3 _ _ x4 _ _ x5 _ _ x8 _ _ x9 r _ R2.at_ R2.cap R3.at_ R3.cap R4.at_ R4.cap R5.at_ R5.cap R8.at_ R8.cap R9.at_ R9.cap (by unfold scarfjointref06_Valid.f; rw [hr_.out])).mono ?_
 rintro e w3 ⟨rfl, hb⟩
 clear R2 R3 R4 R5 R8 R9
 replace hb := bS (w := w2) hb
 replace RS := mo hb RS
 clear hb
 rcases (id RS) with ⟨-, ⟨-, ⟨-, ⟨-, ⟨-, ⟨-, ⟨-, ⟨-, ⟨-, ⟨-, ⟨-, ⟨SB⟩⟩⟩⟩⟩⟩⟩⟩⟩⟩⟩⟩
 go_wp2_with fail
 go_ret
 exact ⟨rfl, SB.get⟩
def scarfjointref11_Valid.f (l0_0 : List Int) (l0_1 : List (S94)) (l0_2 : List Int) (l0_3 : List (S94)) (l0_4 : List Int) (l0_5 : List (S94)) (l0_6 : List Int) (l0_7 : List Int) (l0_8 : List Int) (l0_9 : List Int) : Option (Int) := (scarfjointref06_Valid.f l0_0 l0_1 l0_4 l0_5 l0_6 l0_7).bind fun t102 => (if t102 = 0 then ((scarfjointref06_Valid.f l0_2 l0_3 l0_4 l0_5 l0_8 l0_9).bind fun t103 => (some t103)) else (some t102))
theorem scarfjointref11_Valid.calls (A0_0 : Option Addr) (c0_0 : Nat) (l0_0 : List Int) (A0_1 : Option Addr) (c0_1 : Nat) (l0_1 : List (S94)) (A0_2 : Option Addr) (c0_2 : Nat) (l0_2 : List Int) (A0_3 : Option Addr) (c0_3 : Nat) (l0_3 : List (S94)) (A0_4 : Option Addr) (c0_4 : Nat) (l0_4 : List Int) (A0_5 : Option Addr) (c0_5 : Nat) (l0_5 : List (S94)) (A0_6 : Option Addr) (c0_6 : Nat) (l0_6 : List Int) (A0_7 : Option Addr) (c0_7 : Nat) (l0_7 : List Int) (A0_8 : Option Addr) (c0_8 : Nat) (l0_8 : List Int) (A0_9 : Option Addr) (c0_9 : Nat) (l0_9 : List Int) (r : Int) (w : World) (hr0_0 : Kd.C (Kd.int .i64) w A0_0 l0_0.length l0_0) (hc0_0 : l0_0.length ≤ c0_0) (hr0_1 : Kd.C k94 w A0_1 l0_1.length l0_1) (hc0_1 : l0_1.length ≤ c0_1) (hr0_2 : Kd.C (Kd.int .i64) w A0_2 l0_2.length l0_2) (hc0_2 : l0_2.length ≤ c0_2) (hr0_3 : Kd.C k94 w A0_3 l0_3.length l0_3) (hc0_3 : l0_3.length ≤ c0_3) (hr0_4 : Kd.C (Kd.int .i64) w A0_4 l0_4.length l0_4) (hc0_4 : l0_4.length ≤ c0_4) (hr0_5 : Kd.C k94 w A0_5 l0_5.length l0_5) (hc0_5 : l0_5.length ≤ c0_5) (hr0_6 : Kd.C (Kd.int .i64) w A0_6 l0_6.length l0_6) (hc0_6 : l0_6.length ≤ c0_6) (hr0_7 : Kd.C (Kd.int .i64) w A0_7 l0_7.length l0_7) (hc0_7 : l0_7.length ≤ c0_7) (hr0_8 : Kd.C (Kd.int .i64) w A0_8 l0_8.length l0_8) (hc0_8 : l0_8.length ≤ c0_8) (hr0_9 : Kd.C (Kd.int .i64) w A0_9 l0_9.length l0_9) (hc0_9 : l0_9.length ≤ c0_9) (h : scarfjointref11_Valid.f l0_0 l0_1 l0_2 l0_3 l0_4 l0_5 l0_6 l0_7 l0_8 l0_9 = some r) :
  Calls Try.prog 68 #[.agg #[.slice A0_0 l0_0.length c0_0, .slice A0_1 l0_1.length c0_1, .slice A0_2 l0_2.length c0_2, .slice A0_3 l0_3.length c0_3, .slice A0_4 l0_4.length c0_4, .slice A0_5 l0_5.length c0_5, .slice A0_6 l0_6.length c0_6, .slice A0_7 l0_7.length c0_7, .slice A0_8 l0_8.length c0_8, .slice A0_9 l0_9.length c0_9]] w fun e w' => e = .returned (.int .i64 r) ∧ Below w.heap.size w w' := by
 unfold scarfjointref11_Valid.f scarfjointref06_Valid.f at h
 simp only [Option.bind_some] at h
 split at h
 ·rename_i h0
  injection h with h
  exact given68_b A0_0 c0_0 l0_0 A0_1 c0_1 l0_1 A0_2 c0_2 l0_2 A0_3 c0_3 l0_3 A0_4 c0_4 l0_4 A0_5 c0_5 l0_5 A0_6 c0_6 l0_6 A0_7 c0_7 l0_7 A0_8 c0_8 l0_8 A0_9 c0_9 l0_9 w ⟨hc0_0, hr0_0⟩ ⟨hc0_1, hr0_1⟩ ⟨hc0_2, hr0_2⟩ ⟨hc0_3, hr0_3⟩ ⟨hc0_4, hr0_4⟩ ⟨hc0_5, hr0_5⟩ ⟨hc0_6, hr0_6⟩ ⟨hc0_7, hr0_7⟩ ⟨hc0_8, hr0_8⟩ ⟨hc0_9, hr0_9⟩ r h0 h
 ·rename_i h0
  injection h with h
  rw [h] at h0
  exact given68_a A0_0 c0_0 l0_0 A0_1 c0_1 l0_1 A0_2 c0_2 l0_2 A0_3 c0_3 l0_3 A0_4 c0_4 l0_4 A0_5 c0_5 l0_5 A0_6 c0_6 l0_6 A0_7 c0_7 l0_7 A0_8 c0_8 l0_8 A0_9 c0_9 l0_9 w ⟨hc0_0, hr0_0⟩ ⟨hc0_1, hr0_1⟩ ⟨hc0_2, hr0_2⟩ ⟨hc0_3, hr0_3⟩ ⟨hc0_4, hr0_4⟩ ⟨hc0_5, hr0_5⟩ ⟨hc0_6, hr0_6⟩ ⟨hc0_7, hr0_7⟩ ⟨hc0_8, hr0_8⟩ ⟨hc0_9, hr0_9⟩ r h h0
/-! ### scarfjointref11_pairs: function 69 -/
mutual
def scarfjointref11_pairs.l0 : Nat → List Int → List Int → Int → List (S79) → Int → Option ((List (S79)))
 | 0, _, _, _, _, _ => none
 | k + 1, x0, x1, x2, x7, x8 => if x8 < (x0.length : Int) then (scarfjointref11_pairs.l1 k x0 x1 x2 x7 x8 0) else (some x7)
def scarfjointref11_pairs.l1 : Nat → List Int → List Int → Int → List (S79) → Int → Int → Option ((List (S79)))
 | 0, _, _, _, _, _, _ => none
 | k + 1, x0, x1, x2, x7, x8, x9 => if x9 < (x1.length : Int) then (if 0 ≤ x8 then (if x8 < (x0.length : Int) then (if 0 ≤ x9 then (if (rd x0 x8) = (rd x1 x9) then (scarfjointref11_pairs.j2 k x0 x1 x2 x7 x8 x9 (decide ((x7.length : Int) ≤ x2))) else (scarfjointref11_pairs.j2 k x0 x1 x2 x7 x8 x9 false)) else (none)) else (none)) else (none)) else (scarfjointref11_pairs.l0 k x0 x1 x2 x7 (wrap64 (x8 + 1)))
def scarfjointref11_pairs.j2 : Nat → List Int → List Int → Int → List (S79) → Int → Int → Bool → Option ((List (S79)))
 | 0, _, _, _, _, _, _, _ => none
 | k + 1, x0, x1, x2, x7, x8, x9, x36 => if x36 = true then (if x7.length < 8796093022208 then (scarfjointref11_pairs.l1 k x0 x1 x2 (x7 ++ [(⟨x8, x9⟩ : S79)]) x8 (wrap64 (x9 + 1))) else (none)) else (scarfjointref11_pairs.l1 k x0 x1 x2 x7 x8 (wrap64 (x9 + 1)))
end
def scarfjointref11_pairs.f (k : Nat) (l0 : List Int) (l1 : List Int) (a2 : Int) : Option ((List (S79))) := scarfjointref11_pairs.l0 k l0 l1 a2 ([] : List (S79)) 0
theorem scarfjointref11_pairs.mono_l : ∀ k, (∀ y0 y1 y2 y3 y4, LeO (scarfjointref11_pairs.l0 k y0 y1 y2 y3 y4) (scarfjointref11_pairs.l0 (k + 1) y0 y1 y2 y3 y4)) ∧ (∀ y0 y1 y2 y3 y4 y5, LeO (scarfjointref11_pairs.l1 k y0 y1 y2 y3 y4 y5) (scarfjointref11_pairs.l1 (k + 1) y0 y1 y2 y3 y4 y5)) ∧ (∀ y0 y1 y2 y3 y4 y5 y6, LeO (scarfjointref11_pairs.j2 k y0 y1 y2 y3 y4 y5 y6) (scarfjointref11_pairs.j2 (k + 1) y0 y1 y2 y3 y4 y5 y6))
 | 0 => ⟨fun _ _ _ _ _ r h => by simp [scarfjointref11_pairs.l0] at h, fun _ _ _ _ _ _ r h => by simp [scarfjointref11_pairs.l1] at h, fun _ _ _ _ _ _ _ r h => by simp [scarfjointref11_pairs.j2] at h⟩
 | k + 1 => by
  obtain ⟨ih0, ih1, ih2⟩ := scarfjointref11_pairs.mono_l k
  refine ⟨?_, ?_, ?_⟩
  ·intro y0 y1 y2 y3 y4
   unfold scarfjointref11_pairs.l0
   repeat' first
   | (with_reducible exact ih0 _ _ _ _ _)
   | (with_reducible exact ih1 _ _ _ _ _ _)
   | (with_reducible exact ih2 _ _ _ _ _ _ _)
   | (with_reducible exact LeO.refl _)
   | (with_reducible exact LeO.none _)
   | (with_reducible refine LeO.ite ?_ ?_)
   | (with_reducible refine LeO.bind ?_ (fun _ => ?_))
   | exact ih0 _ _ _ _ _
   | exact ih1 _ _ _ _ _ _
   | exact ih2 _ _ _ _ _ _ _
   | exact LeO.none _
   | refine LeO.ite ?_ ?_
   | refine LeO.bind ?_ (fun _ => ?_)
  ·intro y0 y1 y2 y3 y4 y5
   unfold scarfjointref11_pairs.l1
   repeat' first
   | (with_reducible exact ih0 _ _ _ _ _)
   | (with_reducible exact ih1 _ _ _ _ _ _)
   | (with_reducible exact ih2 _ _ _ _ _ _ _)
   | (with_reducible exact LeO.refl _)
   | (with_reducible exact LeO.none _)
   | (with_reducible refine LeO.ite ?_ ?_)
   | (with_reducible refine LeO.bind ?_ (fun _ => ?_))
   | exact ih0 _ _ _ _ _
   | exact ih1 _ _ _ _ _ _
   | exact ih2 _ _ _ _ _ _ _
   | exact LeO.none _
   | refine LeO.ite ?_ ?_
   | refine LeO.bind ?_ (fun _ => ?_)
  ·intro y0 y1 y2 y3 y4 y5 y6
   unfold scarfjointref11_pairs.j2
   repeat' first
   | (with_reducible exact ih0 _ _ _ _ _)
   | (with_reducible exact ih1 _ _ _ _ _ _)
   | (with_reducible exact ih2 _ _ _ _ _ _ _)
   | (with_reducible exact LeO.refl _)
   | (with_reducible exact LeO.none _)
   | (with_reducible refine LeO.ite ?_ ?_)
   | (with_reducible refine LeO.bind ?_ (fun _ => ?_))
   | exact ih0 _ _ _ _ _
   | exact ih1 _ _ _ _ _ _
   | exact ih2 _ _ _ _ _ _ _
   | exact LeO.none _
   | refine LeO.ite ?_ ?_
   | refine LeO.bind ?_ (fun _ => ?_)
theorem scarfjointref11_pairs.mono : ∀ a0 a1 a2 k, LeO (scarfjointref11_pairs.f k a0 a1 a2) (scarfjointref11_pairs.f (k + 1) a0 a1 a2) := by
 intro a0 a1 a2 k
 obtain ⟨ih0, ih1, ih2⟩ := scarfjointref11_pairs.mono_l k
 unfold scarfjointref11_pairs.f
 repeat' first
   | (with_reducible exact ih0 _ _ _ _ _)
   | (with_reducible exact ih1 _ _ _ _ _ _)
   | (with_reducible exact ih2 _ _ _ _ _ _ _)
   | (with_reducible exact LeO.refl _)
   | (with_reducible exact LeO.none _)
   | (with_reducible refine LeO.ite ?_ ?_)
   | (with_reducible refine LeO.bind ?_ (fun _ => ?_))
   | exact ih0 _ _ _ _ _
   | exact ih1 _ _ _ _ _ _
   | exact ih2 _ _ _ _ _ _ _
   | exact LeO.none _
   | refine LeO.ite ?_ ?_
   | refine LeO.bind ?_ (fun _ => ?_)
set_option maxHeartbeats 8000000 in
set_option maxRecDepth 100000 in
theorem scarfjointref11_pairs.calls (k : Nat) (A0 : Option Addr) (c0 : Nat) (l0 : List Int) (A1 : Option Addr) (c1 : Nat) (l1 : List Int) (a2 : Int) (r : List (S79)) (w : World) (hr0 : Kd.C (Kd.int .i64) w A0 l0.length l0) (hc0 : l0.length ≤ c0) (hr1 : Kd.C (Kd.int .i64) w A1 l1.length l1) (hc1 : l1.length ≤ c1) (h : scarfjointref11_pairs.f k l0 l1 a2 = some r) :
  Calls Try.prog 69 #[.slice A0 l0.length c0, .slice A1 l1.length c1, .int .i64 a2] w fun e w' => ∃ v0_ : Value, e = .returned (v0_) ∧ Kd.R k79 79 w' w.heap.size (fun _ => True) v0_ r ∧ Below w.heap.size w w' := by
 have hu79 := Try.underlying79
 have HR0 := Aside0.mk hr0
 have HC0 := Aside0.mk hc0
 clear hr0 hc0
 have HR1 := Aside0.mk hr1
 have HC1 := Aside0.mk hc1
 clear hr1 hc1
 have HB := Aside0.mk (Below.refl w.heap.size w)
 have H : (scarfjointref11_pairs.l0 k l0 l1 a2 ([] : List (S79)) 0) = some r := h
 clear h
 have H' := Aside0.mk H
 clear H
 go_enter Try.func69, Try.ntmps69
 go_wp2
 repeat (go_quiet (fail); try go_wp2)
 go_loopg [7, 8] k (fun kq v7 v8 w' => ∃ (x7_1 : List (S79)) (x8_1 : Int), v8 = .int .i64 x8_1 ∧ Aside0 (scarfjointref11_pairs.l0 kq l0 l1 a2 x7_1 x8_1 = some r) ∧ Aside0 (kq ≤ k) ∧ Aside0 (Kd.R k79 79 w' w.heap.size (fun _ => True) v7 x7_1) ∧ Aside0 (Below w.heap.size w w'))
 case atStart => exact ⟨(([] : List (S79))), (0), rS, H', ⟨Nat.le_refl _⟩, ⟨by first | exact Kd.R_nil _ _ _ _ _ | exact Kd.N_nil _ _ _ _ _ | exact Kd.V_nil _ _ _ _ _ | exact Kd.Q_nil _ _ _ _ _ | exact Kd.S_nil _ _ _ _ _⟩, ⟨pH HB⟩⟩
 case round =>
  clear H'
  try clear c1; try clear p2
  obtain ⟨x7_1, x8_1, rfl, HA, HK1, Q00, HB⟩ := hrel
  cases gk with
  | zero => exact absurd HA.out (by simp [scarfjointref11_pairs.l0])
  | succ k1 =>
   have H := HA.out
   clear HA
   simp only [scarfjointref11_pairs.l0] at H
   by_cases c4 : x8_1 < (l0.length : Int)
   ·rw [if_pos c4] at H
    have c4b0 : decide (x8_1 < (l0.length : Int)) = true := decide_eq_true c4
    clear c4
    have H' := Aside0.mk H
    clear H
    go_wp2
    repeat (go_quiet (fail); try go_wp2)
    go_loopg [7, 9] k1 (fun kq v7 v9 w' => ∃ (x7_2 : List (S79)) (x9_2 : Int), v9 = .int .i64 x9_2 ∧ Aside0 (scarfjointref11_pairs.l1 kq l0 l1 a2 x7_2 x8_1 x9_2 = some r) ∧ Aside0 (kq ≤ k1) ∧ Aside0 (Kd.R k79 79 w' w.heap.size (fun _ => True) v7 x7_2) ∧ Aside0 (Below w.heap.size w w'))
    case atStart => exact ⟨(x7_1), (0), rS, H', ⟨Nat.le_refl _⟩, ⟨pR Q00⟩, ⟨pH HB⟩⟩
    case round =>
     clear H'
     try clear c1; try clear p2; try clear c4; try clear c4b0; try clear p2
     obtain ⟨x7_2, x9_2, rfl, HA, HK2, Q00, HB⟩ := hrel
     cases gk with
     | zero => exact absurd HA.out (by simp [scarfjointref11_pairs.l1])
     | succ k2 =>
      have H := HA.out
      clear HA
      simp only [scarfjointref11_pairs.l1] at H
      by_cases c5 : x9_2 < (l1.length : Int)
      ·rw [if_pos c5] at H
       have c5b0 : decide (x9_2 < (l1.length : Int)) = true := decide_eq_true c5
       clear c5
       have HC6 := Aside0.mk H
       clear H
       go_upto_region 8 with (fail)
       repeat (go_quiet (fail); go_upto_region 8 with (fail))
       go_cut [36] (fun v36 wc => ∃ (kq : Nat) (x36_5 : Bool), v36 = .bool x36_5 ∧ Aside0 (scarfjointref11_pairs.j2 kq l0 l1 a2 x7_2 x8_1 x9_2 x36_5 = some r) ∧ Aside0 (kq ≤ k2) ∧ Aside0 (Kd.R k79 79 wc w.heap.size (fun _ => True) u7 x7_2) ∧ Aside0 (Below w.heap.size w wc))
       case first =>
        have H := HC6.out
        clear HC6
        by_cases c7 : 0 ≤ x8_1
        ·rw [if_pos c7] at H
         have c7b0 : decide (0 ≤ x8_1) = true := decide_eq_true c7
         clear c7
         (first | rw [c7b0] | (simp only [i64_w, i32_w]; rw [c7b0]) | skip)
         by_cases c8 : x8_1 < (l0.length : Int)
         ·rw [if_pos c8] at H
          have c8b0 : decide (x8_1 < (l0.length : Int)) = true := decide_eq_true c8
          clear c8
          by_cases c9 : 0 ≤ x9_2
          ·rw [if_pos c9] at H
           have c9b0 : decide (0 ≤ x9_2) = true := decide_eq_true c9
           clear c9
           by_cases c10 : (rd l0 x8_1) = (rd l1 x9_2)
           ·rw [if_pos c10] at H
            have c10b0 : ((rd l0 x8_1) == (rd l1 x9_2)) = true := beq_iff_eq.mpr c10
            have c10b1 : ((rd l0 x8_1) != (rd l1 x9_2)) = false := bne_eq_false_iff_eq.mpr c10
            clear c10
            have H' := Aside0.mk H
            clear H
            have p101 : 0 ≤ (x8_1 : Int) := oT
            have q101 : x8_1 < (l0.length : Int) := oT
            obtain ⟨ad101, e101, hx101_0⟩ := Kd.at_int HR0.out x8_1 p101 q101
            cases e101
            replace hx101_0 := (HB.out.cell (World.block_lt_of_cell? w _ hx101_0)).trans hx101_0
            replace p101 := eq_true p101
            replace q101 := eq_true q101
            have p102 : 0 ≤ (x9_2 : Int) := oT
            have q102 : x9_2 < (l1.length : Int) := oT
            obtain ⟨ad102, e102, hx102_0⟩ := Kd.at_int HR1.out x9_2 p102 q102
            cases e102
            replace hx102_0 := (HB.out.cell (World.block_lt_of_cell? w _ hx102_0)).trans hx102_0
            replace p102 := eq_true p102
            replace q102 := eq_true q102
            obtain ⟨Q03, Q04, Q01⟩ := Kd.R_slice Q00.out
            subst Q01
            go_wp2
            repeat (go_quiet (fail); try go_wp2)
            go_meet
            case rel => exact ⟨_, (decide ((x7_2.length : Int) ≤ a2)), rS, H', ⟨by have := HK1.out; have := HK2.out; first | omega | exact Nat.le_refl _⟩, ⟨pR Q00⟩, ⟨pH HB⟩⟩
           ·rw [if_neg c10] at H
            have c10b0 : ((rd l0 x8_1) == (rd l1 x9_2)) = false := beq_eq_false_iff_ne.mpr c10
            have c10b1 : ((rd l0 x8_1) != (rd l1 x9_2)) = true := bne_iff_ne.mpr c10
            have H' := Aside0.mk H
            clear H
            have p101 : 0 ≤ (x8_1 : Int) := oT
            have q101 : x8_1 < (l0.length : Int) := oT
            obtain ⟨ad101, e101, hx101_0⟩ := Kd.at_int HR0.out x8_1 p101 q101
            cases e101
            replace hx101_0 := (HB.out.cell (World.block_lt_of_cell? w _ hx101_0)).trans hx101_0
            replace p101 := eq_true p101
            replace q101 := eq_true q101
            have p102 : 0 ≤ (x9_2 : Int) := oT
            have q102 : x9_2 < (l1.length : Int) := oT
            obtain ⟨ad102, e102, hx102_0⟩ := Kd.at_int HR1.out x9_2 p102 q102
            cases e102
            replace hx102_0 := (HB.out.cell (World.block_lt_of_cell? w _ hx102_0)).trans hx102_0
            replace p102 := eq_true p102
            replace q102 := eq_true q102
            go_wp2
            repeat (go_quiet (fail); try go_wp2)
            go_meet
            case rel => exact ⟨_, (false), rS, H', ⟨by have := HK1.out; have := HK2.out; first | omega | exact Nat.le_refl _⟩, ⟨pR Q00⟩, ⟨pH HB⟩⟩
          ·rw [if_neg c9] at H
           exact absurd H (by simp)
         ·rw [if_neg c8] at H
          exact absurd H (by simp)
        ·rw [if_neg c7] at H
         exact absurd H (by simp)
       case rest =>
        clear HC6
        try clear c1; try clear p2; try clear c4; try clear c4b0; try clear c5; try clear c5b0; try clear c6; try clear p6; try clear q6; try clear hx6; try clear c7; try clear c7b0; try clear c8; try clear c8b0; try clear c9; try clear c9b0; try clear c10; try clear c10b0; try clear c10b1; try clear hx101_0; try clear hx102_0; try clear p2; try clear p101; try clear p102; try clear q101; try clear q102
        obtain ⟨kq, x36_5, rfl, HA, HJ5, Q00, HB⟩ := hcut
        cases kq with
        | zero => exact absurd HA.out (by simp [scarfjointref11_pairs.j2])
        | succ kj5 =>
         have H := HA.out
         clear HA
         simp only [scarfjointref11_pairs.j2] at H
         by_cases c12 : x36_5 = true
         ·subst c12
          have H1 : (if x7_2.length < 8796093022208 then (scarfjointref11_pairs.l1 kj5 l0 l1 a2 (x7_2 ++ [(⟨x8_1, x9_2⟩ : S79)]) x8_1 (wrap64 (x9_2 + 1))) else (none)) = some r := by rw [if_pos rfl] at H; exact H
          clear H
          have H := H1
          clear H1
          by_cases c13 : x7_2.length < 8796093022208
          ·rw [if_pos c13] at H
           have LMc13 := Aside0.mk c13
           clear c13
           obtain ⟨y103, hy103⟩ : ∃ y_ : List (S79), y_ = (x7_2 ++ [(⟨x8_1, x9_2⟩ : S79)]) := ⟨_, rfl⟩
           replace H : (scarfjointref11_pairs.l1 kj5 l0 l1 a2 y103 x8_1 (wrap64 (x9_2 + 1))) = some r := by first | (rw [hy103]; with_reducible exact H) | (have H2_ := (Option.bind_some _ _).symm.trans H; rw [hy103]; with_reducible exact H2_) | (have H2_ := (Option.bind_some _ _).symm.trans H; with_reducible exact H2_) | with_reducible exact H | (rw [hy103]; exact H) | exact H
           have Ny103 := Aside0.mk hy103
           clear hy103
           have H' := Aside0.mk H
           clear H
           iterate 3 (try (go_wp2_with (first | ((with_reducible refine gate_builtin (b := .append) (xs := #[.tmp 37, .tmp 41]) rfl ?_); (try (refine gate_guard (by rfl) ?_; dsimp only)); at_builtin; refine Kd.R_append k79 (w0 := w) w.heap.size rfl (.tmp 37) (.tmp 41) 70 79 (.agg #[(.int .i64 0), (.int .i64 0)]) 16 rfl Try.underlying70 info79 rfl (by decide) (by omega) u7 x7_2 (⟨x8_1, x9_2⟩ : S79) [.int .i64 x8_1, .int .i64 x9_2] (fun _ => True) (fun _ => False) rfl rfl ?aP (fun _ hk => hk.elim) ?aF ?aO ?aB ?aS ?aL ?_; (case aP => exact k79_mkM _ _ _ (⟨x8_1, x9_2⟩ : S79)); (case aB => exact hB); (case aF => exact (fun _ _ => trivial)); (case aO => exact (pR Q00)); (case aS => exact (below_size hB)); (case aL => have := LMc13.out; omega); intro v104 w14 ho hb hg hat; rw [← Ny103.out] at ho; replace HB := Aside0.mk (hb); have Q02 := Aside0.mk (ho); clear Q00; clear ho hb hg hat))); try (go_quiet (fail)))
           go_roundg kj5
           case measure => have := HK1.out; have := HK2.out; have := HJ5.out; omega
           case rel => exact ⟨(y103), (wrap64 (x9_2 + 1)), rS, H', ⟨by have := HK1.out; have := HK2.out; have := HJ5.out; omega⟩, ⟨pR Q02⟩, ⟨pH HB⟩⟩
          ·rw [if_neg c13] at H
           exact absurd H (by simp)
         ·replace c12 := Bool.eq_false_iff.mpr c12
          subst c12
          have H1 : (scarfjointref11_pairs.l1 kj5 l0 l1 a2 x7_2 x8_1 (wrap64 (x9_2 + 1))) = some r := by rw [if_neg (show ¬ (false = true) by decide)] at H; exact H
          clear H
          have H := H1
          clear H1
          have H' := Aside0.mk H
          clear H
          go_wp2
          repeat (go_quiet (fail); try go_wp2)
          go_roundg kj5
          case measure => have := HK1.out; have := HK2.out; have := HJ5.out; omega
          case rel => exact ⟨(x7_2), (wrap64 (x9_2 + 1)), rS, H', ⟨by have := HK1.out; have := HK2.out; have := HJ5.out; omega⟩, ⟨pR Q00⟩, ⟨pH HB⟩⟩
      ·rw [if_neg c5] at H
       have c5b0 : decide (x9_2 < (l1.length : Int)) = false := decide_eq_false c5
       clear c5
       have H' := Aside0.mk H
       clear H
       go_wp2
       repeat (go_quiet (fail); try go_wp2)
       go_roundg k2
       case measure => have := HK1.out; have := HK2.out; omega
       case rel => exact ⟨(x7_2), (wrap64 (x8_1 + 1)), rS, H', ⟨by have := HK1.out; have := HK2.out; omega⟩, ⟨pR Q00⟩, ⟨pH HB⟩⟩
   ·rw [if_neg c4] at H
    have c4b0 : decide (x8_1 < (l0.length : Int)) = false := decide_eq_false c4
    clear c4
    obtain rfl := Option.some.inj H
    go_wp2
    repeat (go_quiet (fail); try go_wp2)
    go_ret
    exact ⟨_, by first | rfl | (simp [errW_none, errW_some] <;> rfl) | (simp [*, errW_none, errW_some] <;> rfl), by (with_reducible repeat (first | apply rA | apply rN | apply rD)); exact Q00.out, by repeat (first | (with_reducible first | exact HB.out | apply wA | apply wN | apply wD) | exact HB.out)⟩
/-! ### scarfjointref11_place: function 70 -/
mutual
def scarfjointref11_place.l0 : Nat → List (S79) → Int → Int → Int → Option (Int)
 | 0, _, _, _, _ => none
 | k + 1, x0, x1, x2, x7 => if x7 < (x0.length : Int) then (if 0 ≤ x7 then (if ((rd_T79 x0 x7).f0) = x1 then (scarfjointref11_place.j1 k x0 x1 x2 x7 (((rd_T79 x0 x7).f1) == x2)) else (scarfjointref11_place.j1 k x0 x1 x2 x7 false)) else (none)) else (some (-1))
def scarfjointref11_place.j1 : Nat → List (S79) → Int → Int → Int → Bool → Option (Int)
 | 0, _, _, _, _, _ => none
 | k + 1, x0, x1, x2, x7, x29 => if x29 = true then (some x7) else (scarfjointref11_place.l0 k x0 x1 x2 (wrap64 (x7 + 1)))
end
def scarfjointref11_place.f (k : Nat) (l0 : List (S79)) (a1 : Int) (a2 : Int) : Option (Int) := scarfjointref11_place.l0 k l0 a1 a2 0
theorem scarfjointref11_place.mono_l : ∀ k, (∀ y0 y1 y2 y3, LeO (scarfjointref11_place.l0 k y0 y1 y2 y3) (scarfjointref11_place.l0 (k + 1) y0 y1 y2 y3)) ∧ (∀ y0 y1 y2 y3 y4, LeO (scarfjointref11_place.j1 k y0 y1 y2 y3 y4) (scarfjointref11_place.j1 (k + 1) y0 y1 y2 y3 y4))
 | 0 => ⟨fun _ _ _ _ r h => by simp [scarfjointref11_place.l0] at h, fun _ _ _ _ _ r h => by simp [scarfjointref11_place.j1] at h⟩
 | k + 1 => by
  obtain ⟨ih0, ih1⟩ := scarfjointref11_place.mono_l k
  refine ⟨?_, ?_⟩
  ·intro y0 y1 y2 y3
   unfold scarfjointref11_place.l0
   repeat' first
   | (with_reducible exact ih0 _ _ _ _)
   | (with_reducible exact ih1 _ _ _ _ _)
   | (with_reducible exact LeO.refl _)
   | (with_reducible exact LeO.none _)
   | (with_reducible refine LeO.ite ?_ ?_)
   | (with_reducible refine LeO.bind ?_ (fun _ => ?_))
   | exact ih0 _ _ _ _
   | exact ih1 _ _ _ _ _
   | exact LeO.none _
   | refine LeO.ite ?_ ?_
   | refine LeO.bind ?_ (fun _ => ?_)
  ·intro y0 y1 y2 y3 y4
   unfold scarfjointref11_place.j1
   repeat' first
   | (with_reducible exact ih0 _ _ _ _)
   | (with_reducible exact ih1 _ _ _ _ _)
   | (with_reducible exact LeO.refl _)
   | (with_reducible exact LeO.none _)
   | (with_reducible refine LeO.ite ?_ ?_)
   | (with_reducible refine LeO.bind ?_ (fun _ => ?_))
   | exact ih0 _ _ _ _
   | exact ih1 _ _ _ _ _
   | exact LeO.none _
   | refine LeO.ite ?_ ?_
   | refine LeO.bind ?_ (fun _ => ?_)
theorem scarfjointref11_place.mono : ∀ a0 a1 a2 k, LeO (scarfjointref11_place.f k a0 a1 a2) (scarfjointref11_place.f (k + 1) a0 a1 a2) := by
 intro a0 a1 a2 k
 obtain ⟨ih0, ih1⟩ := scarfjointref11_place.mono_l k
 unfold scarfjointref11_place.f
 repeat' first
   | (with_reducible exact ih0 _ _ _ _)
   | (with_reducible exact ih1 _ _ _ _ _)
   | (with_reducible exact LeO.refl _)
   | (with_reducible exact LeO.none _)
   | (with_reducible refine LeO.ite ?_ ?_)
   | (with_reducible refine LeO.bind ?_ (fun _ => ?_))
   | exact ih0 _ _ _ _
   | exact ih1 _ _ _ _ _
   | exact LeO.none _
   | refine LeO.ite ?_ ?_
   | refine LeO.bind ?_ (fun _ => ?_)
set_option maxHeartbeats 8000000 in
set_option maxRecDepth 100000 in
theorem scarfjointref11_place.calls (k : Nat) (A0 : Option Addr) (c0 : Nat) (l0 : List (S79)) (a1 : Int) (a2 : Int) (r : Int) (w : World) (hr0 : Kd.C k79 w A0 l0.length l0) (hc0 : l0.length ≤ c0) (h : scarfjointref11_place.f k l0 a1 a2 = some r) :
  Calls Try.prog 70 #[.slice A0 l0.length c0, .int .i64 a1, .int .i64 a2] w fun e w' => e = .returned (.int .i64 r) ∧ Drawn0 w w' := by
 have HR0 := Aside0.mk hr0
 have HC0 := Aside0.mk hc0
 clear hr0 hc0
 have H : (scarfjointref11_place.l0 k l0 a1 a2 0) = some r := h
 clear h
 have H' := Aside0.mk H
 clear H
 go_enter Try.func70, Try.ntmps70
 go_wp2
 go_loopg [7] k (fun kq v7 w' => ∃ (x7_1 : Int), v7 = .int .i64 x7_1 ∧ Aside0 (scarfjointref11_place.l0 kq l0 a1 a2 x7_1 = some r) ∧ Aside0 (kq ≤ k) ∧ Drawn0 w w')
 case atStart => exact ⟨(0), rS, H', ⟨Nat.le_refl _⟩, by repeat (first | exact Drawn0.refl _ | apply Drawn0.step)⟩
 case round =>
  clear H'
  try clear p2
  obtain ⟨x7_1, rfl, HA, HK1, ⟨m1, rfl⟩⟩ := hrel
  cases gk with
  | zero => exact absurd HA.out (by simp [scarfjointref11_place.l0])
  | succ k1 =>
   have H := HA.out
   clear HA
   simp only [scarfjointref11_place.l0] at H
   by_cases c4 : x7_1 < (l0.length : Int)
   ·rw [if_pos c4] at H
    have c4b0 : decide (x7_1 < (l0.length : Int)) = true := decide_eq_true c4
    clear c4
    have HC5 := Aside0.mk H
    clear H
    go_upto_region 4 with (fail)
    go_cut [29] (fun v29 wc => ∃ (kq : Nat) (x29_4 : Bool), v29 = .bool x29_4 ∧ Aside0 (scarfjointref11_place.j1 kq l0 a1 a2 x7_1 x29_4 = some r) ∧ Aside0 (kq ≤ k1) ∧ Drawn0 w wc)
    case first =>
     have H := HC5.out
     clear HC5
     by_cases c6 : 0 ≤ x7_1
     ·rw [if_pos c6] at H
      have c6b0 : decide (0 ≤ x7_1) = true := decide_eq_true c6
      clear c6
      (first | rw [c6b0] | (simp only [i64_w, i32_w]; rw [c6b0]) | skip)
      by_cases c7 : ((rd_T79 l0 x7_1).f0) = a1
      ·rw [if_pos c7] at H
       have c7b0 : (((rd_T79 l0 x7_1).f0) == a1) = true := beq_iff_eq.mpr c7
       have c7b1 : (((rd_T79 l0 x7_1).f0) != a1) = false := bne_eq_false_iff_eq.mpr c7
       clear c7
       have H' := Aside0.mk H
       clear H
       have p101 : 0 ≤ (x7_1 : Int) := oT
       have q101 : x7_1 < (l0.length : Int) := oT
       obtain ⟨ad101, e101, hx101_0, hx101_1⟩ := at_T79 HR0.out x7_1 p101 q101
       cases e101
       replace p101 := eq_true p101
       replace q101 := eq_true q101
       have p102 : 0 ≤ (x7_1 : Int) := oT
       have q102 : x7_1 < (l0.length : Int) := oT
       obtain ⟨ad102, e102, hx102_0, hx102_1⟩ := at_T79 HR0.out x7_1 p102 q102
       obtain rfl : ad101 = ad102 := (by injection e102)
       replace p102 := eq_true p102
       replace q102 := eq_true q102
       go_wp2
       go_meet
       case rel => exact ⟨_, ((((rd_T79 l0 x7_1).f1) == a2)), rS, H', ⟨by have := HK1.out; first | omega | exact Nat.le_refl _⟩, by repeat (first | exact Drawn0.refl _ | apply Drawn0.step)⟩
      ·rw [if_neg c7] at H
       have c7b0 : (((rd_T79 l0 x7_1).f0) == a1) = false := beq_eq_false_iff_ne.mpr c7
       have c7b1 : (((rd_T79 l0 x7_1).f0) != a1) = true := bne_iff_ne.mpr c7
       have H' := Aside0.mk H
       clear H
       have p101 : 0 ≤ (x7_1 : Int) := oT
       have q101 : x7_1 < (l0.length : Int) := oT
       obtain ⟨ad101, e101, hx101_0, hx101_1⟩ := at_T79 HR0.out x7_1 p101 q101
       cases e101
       replace p101 := eq_true p101
       replace q101 := eq_true q101
       go_wp2
       go_meet
       case rel => exact ⟨_, (false), rS, H', ⟨by have := HK1.out; first | omega | exact Nat.le_refl _⟩, by repeat (first | exact Drawn0.refl _ | apply Drawn0.step)⟩
     ·rw [if_neg c6] at H
      exact absurd H (by simp)
    case rest =>
     clear HC5
     try clear p2; try clear c4; try clear c4b0; try clear c6; try clear c6b0; try clear c7; try clear c7b0; try clear c7b1; try clear p7; try clear q7; try clear hx7; try clear hx101_0; try clear hx101_1; try clear hx102_0; try clear hx102_1; try clear p2; try clear p101; try clear p102; try clear q101; try clear q102
     obtain ⟨kq, x29_4, rfl, HA, HJ4, ⟨mc4, rfl⟩⟩ := hcut
     cases kq with
     | zero => exact absurd HA.out (by simp [scarfjointref11_place.j1])
     | succ kj4 =>
      have H := HA.out
      clear HA
      simp only [scarfjointref11_place.j1] at H
      by_cases c8 : x29_4 = true
      ·subst c8
       have H1 : (some x7_1) = some r := by rw [if_pos rfl] at H; exact H
       clear H
       have H := H1
       clear H1
       obtain rfl := Option.some.inj H
       go_wp2
       go_ret
       exact ⟨by first | rfl | (simp; done) | (simp [*]; done), by repeat (first | exact Drawn0.refl _ | apply Drawn0.step)⟩
      ·replace c8 := Bool.eq_false_iff.mpr c8
       subst c8
       have H1 : (scarfjointref11_place.l0 kj4 l0 a1 a2 (wrap64 (x7_1 + 1))) = some r := by rw [if_neg (show ¬ (false = true) by decide)] at H; exact H
       clear H
       have H := H1
       clear H1
       have H' := Aside0.mk H
       clear H
       go_wp2
       go_roundg kj4
       case measure => have := HK1.out; have := HJ4.out; omega
       case rel => exact ⟨(wrap64 (x7_1 + 1)), rS, H', ⟨by have := HK1.out; have := HJ4.out; omega⟩, by repeat (first | exact Drawn0.refl _ | apply Drawn0.step)⟩
   ·rw [if_neg c4] at H
    have c4b0 : decide (x7_1 < (l0.length : Int)) = false := decide_eq_false c4
    clear c4
    obtain rfl := Option.some.inj H
    go_wp2
    go_ret
    exact ⟨by first | rfl | (simp; done) | (simp [*]; done), by repeat (first | exact Drawn0.refl _ | apply Drawn0.step)⟩
/-! ### scarfjointref11_sides: function 71 -/
def scarfjointref11_sides.l0 : Nat → List (S79) → List Int → List Int → Int → Option (List Int × List Int)
 | 0, _, _, _, _ => none
 | k + 1, x0, x4, x5, x6 => if x6 < (x0.length : Int) then (if 0 ≤ x6 then ((some (([(rd_T79 x0 x6).f0] : List Int) : List Int)).bind fun y102 => (if x4.length + y102.length < 17592186044416 then ((some (([(rd_T79 x0 x6).f1] : List Int) : List Int)).bind fun y109 => (if x5.length + y109.length < 17592186044416 then (scarfjointref11_sides.l0 k x0 (x4 ++ y102) (x5 ++ y109) (wrap64 (x6 + 1))) else (none))) else (none))) else (none)) else (some (x4, x5))
def scarfjointref11_sides.f (k : Nat) (l0 : List (S79)) : Option (List Int × List Int) := scarfjointref11_sides.l0 k l0 ([] : List Int) ([] : List Int) 0
theorem scarfjointref11_sides.mono_l : ∀ k, (∀ y0 y1 y2 y3, LeO (scarfjointref11_sides.l0 k y0 y1 y2 y3) (scarfjointref11_sides.l0 (k + 1) y0 y1 y2 y3))
 | 0 => fun _ _ _ _ r h => by simp [scarfjointref11_sides.l0] at h
 | k + 1 => by
  have ih0 := scarfjointref11_sides.mono_l k
  ·intro y0 y1 y2 y3
   unfold scarfjointref11_sides.l0
   repeat' first
   | (with_reducible exact ih0 _ _ _ _)
   | (with_reducible exact LeO.refl _)
   | (with_reducible exact LeO.none _)
   | (with_reducible refine LeO.ite ?_ ?_)
   | (with_reducible refine LeO.bind ?_ (fun _ => ?_))
   | exact ih0 _ _ _ _
   | exact LeO.none _
   | refine LeO.ite ?_ ?_
   | refine LeO.bind ?_ (fun _ => ?_)
theorem scarfjointref11_sides.mono : ∀ a0 k, LeO (scarfjointref11_sides.f k a0) (scarfjointref11_sides.f (k + 1) a0) := by
 intro a0 k
 have ih0 := scarfjointref11_sides.mono_l k
 unfold scarfjointref11_sides.f
 repeat' first
   | (with_reducible exact ih0 _ _ _ _)
   | (with_reducible exact LeO.refl _)
   | (with_reducible exact LeO.none _)
   | (with_reducible refine LeO.ite ?_ ?_)
   | (with_reducible refine LeO.bind ?_ (fun _ => ?_))
   | exact ih0 _ _ _ _
   | exact LeO.none _
   | refine LeO.ite ?_ ?_
   | refine LeO.bind ?_ (fun _ => ?_)
def scarfjointref11_sides.T5 : Bool × List (List Nat × List Nat) := (true, [([], []), ([], []), ([], []), ([1, 2], [1, 2]), ([3], [3]), ([4], [4]), ([5], [5]), ([0, 6], [0, 6]), ([], []), ([], []), ([], []), ([9, 10], [9, 10]), ([11], [11]), ([12], [12]), ([13], [13]), ([8, 14, 7], [8, 14]), ([7, 15, 0, 1, 2, 3, 4, 5, 6, 7], [0, 7]), ([15, 16, 0, 1, 2, 3, 4, 5, 6, 7, 8, 9, 10, 11, 12, 13, 14, 15, 16], [8, 15])])
def scarfjointref11_sides.B5 : List Nat := [0, 0, 0, 6, 14, 30, 62, 127, 0, 0, 0, 1536, 3584, 7680, 15872, 32767, 65535, 131071]
theorem scarfjointref11_sides.tab5 : rtab .any (opsOf Try.f71 5) = scarfjointref11_sides.T5 := by kernel_rfl
theorem scarfjointref11_sides.bits5 : waitsOk scarfjointref11_sides.T5.2 scarfjointref11_sides.B5 = true := by kernel_rfl
set_option maxHeartbeats 8000000 in
set_option maxRecDepth 100000 in
theorem scarfjointref11_sides.calls (k : Nat) (A0 : Option Addr) (c0 : Nat) (l0 : List (S79)) (r1 : List Int) (r2 : List Int) (w : World) (hr0 : Kd.C k79 w A0 l0.length l0) (hc0 : l0.length ≤ c0) (h : scarfjointref11_sides.f k l0 = some (r1, r2)) :
  Calls Try.prog 71 #[.slice A0 l0.length c0] w fun e w' => ∃ v0_ v1_ : Value, e = .returned (.tuple #[v0_, v1_]) ∧ Kd.R (Kd.int .i64) 3 w' w.heap.size (fun k_ => some k_ ≠ (v1_ : Value).ownBlock) v0_ r1 ∧ Kd.R (Kd.int .i64) 3 w' w.heap.size (fun k_ => some k_ ≠ (v0_ : Value).ownBlock) v1_ r2 ∧ Below w.heap.size w w' := by
 have HR0 := Aside0.mk hr0
 have HC0 := Aside0.mk hc0
 clear hr0 hc0
 have HB := Aside0.mk (Below.refl w.heap.size w)
 have H : (scarfjointref11_sides.l0 k l0 ([] : List Int) ([] : List Int) 0) = some (r1, r2) := h
 clear h
 have H' := Aside0.mk H
 clear H
 go_enter Try.func71, Try.ntmps71
 go_wp2
 go_loopg [4, 5, 6] k (fun kq v4 v5 v6 w' => ∃ (x4_1 : List Int) (x5_1 : List Int) (x6_1 : Int), v6 = .int .i64 x6_1 ∧ Aside0 (scarfjointref11_sides.l0 kq l0 x4_1 x5_1 x6_1 = some (r1, r2)) ∧ Aside0 (kq ≤ k) ∧ Aside0 (Kd.R (Kd.int .i64) 3 w' w.heap.size (fun k_ => some k_ ≠ (v5 : Value).ownBlock) v4 x4_1) ∧ Aside0 (Kd.R (Kd.int .i64) 3 w' w.heap.size (fun k_ => some k_ ≠ (v4 : Value).ownBlock) v5 x5_1) ∧ Aside0 (Below w.heap.size w w'))
 case atStart => exact ⟨(([] : List Int)), (([] : List Int)), (0), rS, H', ⟨Nat.le_refl _⟩, ⟨by first | exact Kd.R_nil _ _ _ _ _ | exact Kd.N_nil _ _ _ _ _ | exact Kd.V_nil _ _ _ _ _ | exact Kd.Q_nil _ _ _ _ _ | exact Kd.S_nil _ _ _ _ _⟩, ⟨by first | exact Kd.R_nil _ _ _ _ _ | exact Kd.N_nil _ _ _ _ _ | exact Kd.V_nil _ _ _ _ _ | exact Kd.Q_nil _ _ _ _ _ | exact Kd.S_nil _ _ _ _ _⟩, ⟨pH HB⟩⟩
 case round =>
  clear H'
  obtain ⟨x4_1, x5_1, x6_1, rfl, HA, HK1, Q02, Q00, HB⟩ := hrel
  cases gk with
  | zero => exact absurd HA.out (by simp [scarfjointref11_sides.l0])
  | succ k1 =>
   have H := HA.out
   clear HA
   simp only [scarfjointref11_sides.l0] at H
   by_cases c2 : x6_1 < (l0.length : Int)
   ·rw [if_pos c2] at H
    have c2b0 : decide (x6_1 < (l0.length : Int)) = true := decide_eq_true c2
    clear c2
    by_cases c3 : 0 ≤ x6_1
    ·rw [if_pos c3] at H
     have c3b0 : decide (0 ≤ x6_1) = true := decide_eq_true c3
     clear c3
     obtain ⟨y102, hy102⟩ : ∃ y_ : List Int, y_ = (([(rd_T79 l0 x6_1).f0] : List Int)) := ⟨_, rfl⟩
     replace H : (if x4_1.length + y102.length < 17592186044416 then ((some (([(rd_T79 l0 x6_1).f1] : List Int) : List Int)).bind fun y109 => (if x5_1.length + y109.length < 17592186044416 then (scarfjointref11_sides.l0 k1 l0 (x4_1 ++ y102) (x5_1 ++ y109) (wrap64 (x6_1 + 1))) else (none))) else (none)) = some (r1, r2) := by first | (rw [hy102]; with_reducible exact H) | (have H2_ := (Option.bind_some _ _).symm.trans H; rw [hy102]; with_reducible exact H2_) | (have H2_ := (Option.bind_some _ _).symm.trans H; with_reducible exact H2_) | with_reducible exact H | (rw [hy102]; exact H) | exact H
     have Ny102 := Aside0.mk hy102
     clear hy102
     by_cases c4 : x4_1.length + y102.length < 17592186044416
     ·rw [if_pos c4] at H
      have LMc4 := Aside0.mk c4
      clear c4
      obtain ⟨y105, hy105⟩ : ∃ y_ : List Int, y_ = (x4_1 ++ y102) := ⟨_, rfl⟩
      replace H : ((some (([(rd_T79 l0 x6_1).f1] : List Int) : List Int)).bind fun y109 => (if x5_1.length + y109.length < 17592186044416 then (scarfjointref11_sides.l0 k1 l0 y105 (x5_1 ++ y109) (wrap64 (x6_1 + 1))) else (none))) = some (r1, r2) := by first | (rw [hy105]; with_reducible exact H) | (have H2_ := (Option.bind_some _ _).symm.trans H; rw [hy105]; with_reducible exact H2_) | (have H2_ := (Option.bind_some _ _).symm.trans H; with_reducible exact H2_) | with_reducible exact H | (rw [hy105]; exact H) | exact H
      have Ny105 := Aside0.mk hy105
      clear hy105
      obtain ⟨y109, hy109⟩ : ∃ y_ : List Int, y_ = (([(rd_T79 l0 x6_1).f1] : List Int)) := ⟨_, rfl⟩
      replace H : (if x5_1.length + y109.length < 17592186044416 then (scarfjointref11_sides.l0 k1 l0 y105 (x5_1 ++ y109) (wrap64 (x6_1 + 1))) else (none)) = some (r1, r2) := by first | (rw [hy109]; with_reducible exact H) | (have H2_ := (Option.bind_some _ _).symm.trans H; rw [hy109]; with_reducible exact H2_) | (have H2_ := (Option.bind_some _ _).symm.trans H; with_reducible exact H2_) | with_reducible exact H | (rw [hy109]; exact H) | exact H
      have Ny109 := Aside0.mk hy109
      clear hy109
      by_cases c5 : x5_1.length + y109.length < 17592186044416
      ·rw [if_pos c5] at H
       have LMc5 := Aside0.mk c5
       clear c5
       obtain ⟨y112, hy112⟩ : ∃ y_ : List Int, y_ = (x5_1 ++ y109) := ⟨_, rfl⟩
       replace H : (scarfjointref11_sides.l0 k1 l0 y105 y112 (wrap64 (x6_1 + 1))) = some (r1, r2) := by first | (rw [hy112]; with_reducible exact H) | (have H2_ := (Option.bind_some _ _).symm.trans H; rw [hy112]; with_reducible exact H2_) | (have H2_ := (Option.bind_some _ _).symm.trans H; with_reducible exact H2_) | with_reducible exact H | (rw [hy112]; exact H) | exact H
       have Ny112 := Aside0.mk hy112
       clear hy112
       have H' := Aside0.mk H
       clear H
       obtain ⟨Ao6, co6, eo6⟩ := Kd.R_slice Q02.out
       subst eo6
       obtain ⟨Ao7, co7, eo7⟩ := Kd.R_slice Q00.out
       subst eo7
       try go_wp2
       replace Q02 := Aside0.mk (rD Q02.out)
       replace Q00 := Aside0.mk (rD Q00.out)
       replace HB := Aside0.mk (wD HB.out)
       have p101 : 0 ≤ (x6_1 : Int) := oT
       have q101 : x6_1 < (l0.length : Int) := oT
       obtain ⟨ad101, e101, hx101_0, hx101_1⟩ := at_T79 HR0.out x6_1 p101 q101
       have hw101_1 := hx101_1
       have hw101_0 := hx101_0
       cases e101
       replace hx101_0 := (HB.out.cell (World.block_lt_of_cell? w _ hx101_0)).trans hx101_0
       replace hx101_1 := (HB.out.cell (World.block_lt_of_cell? w _ hx101_1)).trans hx101_1
       replace p101 := eq_true p101
       replace q101 := eq_true q101
       have p108 : 0 ≤ (x6_1 : Int) := oT
       have q108 : x6_1 < (l0.length : Int) := oT
       obtain ⟨ad108, e108, hx108_0, hx108_1⟩ := at_T79 HR0.out x6_1 p108 q108
       have hw108_1 := hx108_1
       have hw108_0 := hx108_0
       obtain rfl : ad101 = ad108 := (by injection e108)
       replace hx108_0 := (HB.out.cell (World.block_lt_of_cell? w _ hx108_0)).trans hx108_0
       replace hx108_1 := (HB.out.cell (World.block_lt_of_cell? w _ hx108_1)).trans hx108_1
       replace p108 := eq_true p108
       replace q108 := eq_true q108
       refine start_ (n := 18) (S := fun w' => w'.cell? (ad101.add ((x6_1).toNat * 2)) = some (.int .i64 ((rd_T79 l0 x6_1).f0)) ∧ w'.cell? ⟨(ad101.add ((x6_1).toNat * 2)).block, (ad101.add ((x6_1).toNat * 2)).off + 1, none⟩ = some (.int .i64 ((rd_T79 l0 x6_1).f1)) ∧ w'.cell? (ad101.add ((x6_1).toNat * 2)) = some (.int .i64 ((rd_T79 l0 x6_1).f0)) ∧ w'.cell? ⟨(ad101.add ((x6_1).toNat * 2)).block, (ad101.add ((x6_1).toNat * 2)).off + 1, none⟩ = some (.int .i64 ((rd_T79 l0 x6_1).f1))) (ds := []) #[false, false, false, false, false, false, false, false, false, false, false, false, false, false, false, false, false, false] (by kernel_rfl) rfl rfl ⟨((HB.out.cell (World.block_lt_of_cell? w _ hw101_0)).trans hw101_0), ((HB.out.cell (World.block_lt_of_cell? w _ hw101_1)).trans hw101_1), ((HB.out.cell (World.block_lt_of_cell? w _ hw108_0)).trans hw108_0), ((HB.out.cell (World.block_lt_of_cell? w _ hw108_1)).trans hw108_1)⟩ (fun hHeld => ?_); refine with_tabW scarfjointref11_sides.tab5 scarfjointref11_sides.bits5 (fun HT_ HW_ => ?_)
       generalize wr.drew = w8 at Q02 Q00 HB hx101_0 hx101_1 hx108_0 hx108_1 hHeld ⊢
       refine pure_ (i := 0) (N := some 13) (v := ?_) (a' := ?_) #[true, false, false, false, false, false, false, false, false, false, false, false, false, false, false, false, false, false] rfl rfl (any_of HT_.out (by kernel_rfl)) (fun _ _ _ h => h) (Or.inl ⟨by rfl, ?_⟩) ?_ ?_
       rotate_left
       ·intro w'
        go_simp
        with_reducible rfl
       rotate_left
       ·simp only [Act.put, List.setIfInBounds_toArray, List.set_cons_zero, List.set_cons_succ, i64_w, i32_w]
        rfl
       refine pure_ (i := 1) (N := some 14) (v := ?_) (a' := ?_) #[true, true, false, false, false, false, false, false, false, false, false, false, false, false, false, false, false, false] rfl rfl (any_of HT_.out (by kernel_rfl)) (fun _ _ _ h => h) (Or.inl ⟨by rfl, ?_⟩) ?_ ?_
       rotate_left
       ·intro w'
        go_simp
        with_reducible rfl
       rotate_left
       ·simp only [Act.put, List.setIfInBounds_toArray, List.set_cons_zero, List.set_cons_succ, i64_w, i32_w]
        rfl
       refine pure_ (i := 2) (N := some 15) (v := ?_) (a' := ?_) #[true, true, true, false, false, false, false, false, false, false, false, false, false, false, false, false, false, false] rfl rfl (any_of HT_.out (by kernel_rfl)) (fun _ _ _ h => h) (Or.inl ⟨by rfl, ?_⟩) ?_ ?_
       rotate_left
       ·intro w'
        go_simp
        with_reducible rfl
       rotate_left
       ·simp only [Act.put, List.setIfInBounds_toArray, List.set_cons_zero, List.set_cons_succ, i64_w, i32_w]
        rfl
       refine pure_ (i := 3) (N := some 16) (v := ?_) (a' := ?_) #[true, true, true, true, false, false, false, false, false, false, false, false, false, false, false, false, false, false] rfl rfl (any_of HT_.out (by kernel_rfl)) (fun _ _ _ h => h) (Or.inl ⟨by rfl, ?_⟩) ?_ ?_
       rotate_left
       ·intro w'
        go_simp
        with_reducible rfl
       rotate_left
       ·simp only [Act.put, List.setIfInBounds_toArray, List.set_cons_zero, List.set_cons_succ, i64_w, i32_w]
        rfl
       refine pure_ (i := 4) (N := some 17) (v := ?_) (a' := ?_) #[true, true, true, true, true, false, false, false, false, false, false, false, false, false, false, false, false, false] rfl rfl (any_of HT_.out (by kernel_rfl)) (fun _ _ _ h => h) (Or.inl ⟨by rfl, ?_⟩) ?_ ?_
       rotate_left
       ·intro w'
        go_simp
        with_reducible rfl
       rotate_left
       ·simp only [Act.put, List.setIfInBounds_toArray, List.set_cons_zero, List.set_cons_succ, i64_w, i32_w]
        rfl
       refine pure_ (i := 8) (N := some 21) (v := ?_) (a' := ?_) #[true, true, true, true, true, false, false, false, true, false, false, false, false, false, false, false, false, false] rfl rfl (any_of HT_.out (by kernel_rfl)) (fun _ _ _ h => h) (Or.inl ⟨by rfl, ?_⟩) ?_ ?_
       rotate_left
       ·intro w'
        go_simp
        with_reducible rfl
       rotate_left
       ·simp only [Act.put, List.setIfInBounds_toArray, List.set_cons_zero, List.set_cons_succ, i64_w, i32_w]
        rfl
       refine pure_ (i := 9) (N := some 22) (v := ?_) (a' := ?_) #[true, true, true, true, true, false, false, false, true, true, false, false, false, false, false, false, false, false] rfl rfl (any_of HT_.out (by kernel_rfl)) (fun _ _ _ h => h) (Or.inl ⟨by rfl, ?_⟩) ?_ ?_
       rotate_left
       ·intro w'
        go_simp
        with_reducible rfl
       rotate_left
       ·simp only [Act.put, List.setIfInBounds_toArray, List.set_cons_zero, List.set_cons_succ, i64_w, i32_w]
        rfl
       refine pure_ (i := 10) (N := some 23) (v := ?_) (a' := ?_) #[true, true, true, true, true, false, false, false, true, true, true, false, false, false, false, false, false, false] rfl rfl (any_of HT_.out (by kernel_rfl)) (fun _ _ _ h => h) (Or.inl ⟨by rfl, ?_⟩) ?_ ?_
       rotate_left
       ·intro w'
        go_simp
        with_reducible rfl
       rotate_left
       ·simp only [Act.put, List.setIfInBounds_toArray, List.set_cons_zero, List.set_cons_succ, i64_w, i32_w]
        rfl
       refine pure_ (i := 11) (N := some 24) (v := ?_) (a' := ?_) #[true, true, true, true, true, false, false, false, true, true, true, true, false, false, false, false, false, false] rfl rfl (any_of HT_.out (by kernel_rfl)) (fun _ _ _ h => h) (Or.inl ⟨by rfl, ?_⟩) ?_ ?_
       rotate_left
       ·intro w'
        go_simp
        with_reducible rfl
       rotate_left
       ·simp only [Act.put, List.setIfInBounds_toArray, List.set_cons_zero, List.set_cons_succ, i64_w, i32_w]
        rfl
       refine pure_ (i := 12) (N := some 25) (v := ?_) (a' := ?_) #[true, true, true, true, true, false, false, false, true, true, true, true, true, false, false, false, false, false] rfl rfl (any_of HT_.out (by kernel_rfl)) (fun _ _ _ h => h) (Or.inl ⟨by rfl, ?_⟩) ?_ ?_
       rotate_left
       ·intro w'
        go_simp
        with_reducible rfl
       rotate_left
       ·simp only [Act.put, List.setIfInBounds_toArray, List.set_cons_zero, List.set_cons_succ, i64_w, i32_w]
        rfl
       refine take_ (i := 5) (N := some 18) (v := ?_) (a' := ?_) #[true, true, true, true, true, true, false, false, true, true, true, true, true, false, false, false, false, false] rfl rfl (take_ofW HT_.out HW_.out (by kernel_rfl)) (fun _ _ _ h => h) (Or.inl ⟨by rfl, ?_⟩) hHeld ?_ ?_
       rotate_left
       ·rintro w' ⟨s0, s1, s2, s3⟩
        go_simp
        with_reducible rfl
       rotate_left
       ·simp only [Act.put, List.setIfInBounds_toArray, List.set_cons_zero, List.set_cons_succ, i64_w, i32_w]
        rfl
       refine take_ (i := 13) (N := some 26) (v := ?_) (a' := ?_) #[true, true, true, true, true, true, false, false, true, true, true, true, true, true, false, false, false, false] rfl rfl (take_ofW HT_.out HW_.out (by kernel_rfl)) (fun _ _ _ h => h) (Or.inl ⟨by rfl, ?_⟩) hHeld ?_ ?_
       rotate_left
       ·rintro w' ⟨s0, s1, s2, s3⟩
        go_simp
        with_reducible rfl
       rotate_left
       ·simp only [Act.put, List.setIfInBounds_toArray, List.set_cons_zero, List.set_cons_succ, i64_w, i32_w]
        rfl
       refine join_ (σ := Value × Value × Value) 3 #[true, true, true, true, true, true, true, true, true, true, true, true, true, true, true, false, false, false] (fun s_ => [(19, s_.1), (20, s_.2.1), (27, s_.2.2)]) (fun s_ w' => (w'.cell? (ad101.add ((x6_1).toNat * 2)) = some (.int .i64 ((rd_T79 l0 x6_1).f0)) ∧ w'.cell? ⟨(ad101.add ((x6_1).toNat * 2)).block, (ad101.add ((x6_1).toNat * 2)).off + 1, none⟩ = some (.int .i64 ((rd_T79 l0 x6_1).f1)) ∧ w'.cell? (ad101.add ((x6_1).toNat * 2)) = some (.int .i64 ((rd_T79 l0 x6_1).f0)) ∧ w'.cell? ⟨(ad101.add ((x6_1).toNat * 2)).block, (ad101.add ((x6_1).toNat * 2)).off + 1, none⟩ = some (.int .i64 ((rd_T79 l0 x6_1).f1))) ∧ (Kd.R (Kd.int .i64) 3 w' w.heap.size (fun k_ => some k_ ≠ (s_.2.1 : Value).ownBlock ∧ some k_ ≠ (s_.2.2 : Value).ownBlock ∧ some k_ ≠ (.slice Ao7 x5_1.length co7 : Value).ownBlock) s_.1 y102) ∧ (Kd.R (Kd.int .i64) 3 w' w.heap.size (fun k_ => some k_ ≠ (s_.1 : Value).ownBlock ∧ some k_ ≠ (s_.2.2 : Value).ownBlock ∧ some k_ ≠ (.slice Ao7 x5_1.length co7 : Value).ownBlock) s_.2.1 y105) ∧ (Kd.R (Kd.int .i64) 3 w' w.heap.size (fun k_ => some k_ ≠ (s_.1 : Value).ownBlock ∧ some k_ ≠ (s_.2.1 : Value).ownBlock ∧ some k_ ≠ (.slice Ao7 x5_1.length co7 : Value).ownBlock) s_.2.2 y109) ∧ (Kd.R (Kd.int .i64) 3 w' w.heap.size (fun k_ => some k_ ≠ (s_.1 : Value).ownBlock ∧ some k_ ≠ (s_.2.1 : Value).ownBlock ∧ some k_ ≠ (s_.2.2 : Value).ownBlock) (.slice Ao7 x5_1.length co7) x5_1) ∧ (Below w.heap.size w w')) ?_ ?_
       rotate_left
       ·intro hCont
        refine two_ (i := 6) (j := 14) (Ni := some 19) (Nj := some 27) #[true, true, true, true, true, true, true, false, true, true, true, true, true, true, false, false, false, false] #[true, true, true, true, true, true, false, false, true, true, true, true, true, true, true, false, false, false] rfl rfl rfl rfl (two_of HT_.out (by kernel_rfl)) (by decide) (by decide) (fun K hK => ?_) (fun K hK => ?_)
        ·skip
         refine Kd.R_lit_step (Kd.int .i64) _ 3 ?hg (N := 19) ?hd (xs := ([(rd_T79 l0 x6_1).f0] : List Int)) (inner := [.int .i64 ((rd_T79 l0 x6_1).f0)]) (ok := fun _ => True) (okp := fun _ => True) ?hr ?hp (fun _ hk => hk) trivial (Below.refl _ _) (Nat.le_refl _) (by simp) ?_; (case hd => rfl); (case hg => rfl); (case hr => first | (go_simp; done) | (go_simp; rfl)); (case hp => exact (Reps.one (show Kd.M (Kd.int .i64) _ _ _ ((rd_T79 l0 x6_1).f0) [.int .i64 ((rd_T79 l0 x6_1).f0)] from rfl) (Reps.none _ _)))
         intro v103 w9 ho10 hb hg_ hnew_
         clear hg_ hnew_
         (first | rw [← Ny102.out] at ho10 | (simp only [Int.reduceToNat] at ho10; rw [← Ny102.out] at ho10))
         have Q01 := Aside0.mk (Kd.R_lower (Kd.R_new' (Kd.R_new' ho10 (Kd.R_lt (pR Q02))) (Kd.R_lt (pR Q00))) (below_size hB))
         replace Q02 := eR Q02 (Kd.R_base ho10) hb
         replace Q00 := eR Q00 (Kd.R_base ho10) hb
         replace HB := uH HB hb
         clear hb ho10
         obtain ⟨Q08, Q09, Q0c⟩ := Kd.R_slice Q01.out
         (first | subst Q0c | (injection Q0c with f1_ f2_ f3_; have f4_ := f1_.symm; have f5_ := f3_.symm; clear f1_ f2_ f3_; subst f4_; subst f5_))
         refine hK.out _ _ ⟨((HB.out.cell (World.block_lt_of_cell? w _ hw101_0)).trans hw101_0), ((HB.out.cell (World.block_lt_of_cell? w _ hw101_1)).trans hw101_1), ((HB.out.cell (World.block_lt_of_cell? w _ hw108_0)).trans hw108_0), ((HB.out.cell (World.block_lt_of_cell? w _ hw108_1)).trans hw108_1)⟩ (fun hHeld => ?_)
         clear hK K
         refine norm_ (a' := ?_) ?_ ?_
         rotate_left
         ·show Act.put _ (some 19) _ = _
          simp only [Act.put, List.setIfInBounds_toArray, List.set_cons_zero, List.set_cons_succ, i64_w, i32_w]
          rfl
         refine two_ (i := 7) (j := 14) (Ni := some 20) (Nj := some 27) #[true, true, true, true, true, true, true, true, true, true, true, true, true, true, false, false, false, false] #[true, true, true, true, true, true, true, false, true, true, true, true, true, true, true, false, false, false] rfl rfl rfl rfl (two_of HT_.out (by kernel_rfl)) (by decide) (by decide) (fun K hK => ?_) (fun K hK => ?_)
         ·skip
          refine Kd.R_append_rows_step (Kd.int .i64) (w0 := w) w.heap.size (by rfl) (.tmp 13) (.tmp 19) 22 3 (.int .i64 0) 8 rfl Try.underlying22 info3 rfl (by decide) (by omega) (.slice Ao6 x4_1.length co6) x4_1 y102 _ _ _ (fun k_ => some k_ ≠ (.slice Ao7 x5_1.length co7 : Value).ownBlock ∧ some k_ ≠ (.slice Q08 y102.length Q09 : Value).ownBlock) (fun _ => False) rfl rfl ?aO ?aR (fun _ _ h => h) (fun _ h => h.elim) ?aF ?aB ?aS ?aL ?_
          (case aR => exact cX (Kd.R_reads' Q01.out).2.2)
          (case aB => exact hB)
          (case aF => exact (fun k_ hk => ⟨Kd.fresh' (Kd.R_lt (pR Q00)) k_ hk, Kd.fresh' (Kd.R_lt (pR Q01)) k_ hk⟩))
          (case aO => exact (pR Q02))
          (case aS => exact (below_size hB))
          (case aL => have := LMc4.out; omega)
          intro v106 w11 ho hb hg hat
          rw [← Ny105.out] at ho
          replace Q00 := Aside0.mk (Kd.R_after (ok := (fun k_ => some k_ ≠ (.slice Q08 y102.length Q09 : Value).ownBlock)) (by (with_reducible repeat (first | apply rA | apply rN | apply rD)); exact Kd.R_mono Q00.out (fun _ hk => ⟨hk.2, hk.1⟩)) hg hat)
          replace Q01 := Aside0.mk (Kd.R_after (ok := (fun k_ => some k_ ≠ (.slice Ao7 x5_1.length co7 : Value).ownBlock)) (by (with_reducible repeat (first | apply rA | apply rN | apply rD)); exact Kd.R_mono Q01.out (fun _ hk => ⟨hk.2, hk.1.2⟩)) hg hat)
          replace HB := Aside0.mk (hb)
          have Q04 := Aside0.mk (ho)
          clear Q02
          clear ho hb hg hat
          refine hK.out _ _ ⟨((HB.out.cell (World.block_lt_of_cell? w _ hw101_0)).trans hw101_0), ((HB.out.cell (World.block_lt_of_cell? w _ hw101_1)).trans hw101_1), ((HB.out.cell (World.block_lt_of_cell? w _ hw108_0)).trans hw108_0), ((HB.out.cell (World.block_lt_of_cell? w _ hw108_1)).trans hw108_1)⟩ (fun hHeld => ?_)
          clear hK K
          refine norm_ (a' := ?_) ?_ ?_
          rotate_left
          ·show Act.put _ (some 20) _ = _
           simp only [Act.put, List.setIfInBounds_toArray, List.set_cons_zero, List.set_cons_succ, i64_w, i32_w]
           rfl
          refine one_ (i := 14) (N := some 27) #[true, true, true, true, true, true, true, true, true, true, true, true, true, true, true, false, false, false] rfl rfl (one_of HT_.out (by kernel_rfl)) (by decide) (fun K hK => ?_)
          refine Kd.R_lit_step (Kd.int .i64) _ 3 ?hg (N := 27) ?hd (xs := ([(rd_T79 l0 x6_1).f1] : List Int)) (inner := [.int .i64 ((rd_T79 l0 x6_1).f1)]) (ok := fun _ => True) (okp := fun _ => True) ?hr ?hp (fun _ hk => hk) trivial (Below.refl _ _) (Nat.le_refl _) (by simp) ?_; (case hd => rfl); (case hg => rfl); (case hr => first | (go_simp; done) | (go_simp; rfl)); (case hp => exact (Reps.one (show Kd.M (Kd.int .i64) _ _ _ ((rd_T79 l0 x6_1).f1) [.int .i64 ((rd_T79 l0 x6_1).f1)] from rfl) (Reps.none _ _)))
          intro v110 w13 ho14 hb hg_ hnew_
          clear hg_ hnew_
          (first | rw [← Ny109.out] at ho14 | (simp only [Int.reduceToNat] at ho14; rw [← Ny109.out] at ho14))
          have Q03 := Aside0.mk (Kd.R_lower (Kd.R_new' (Kd.R_new' (Kd.R_new' ho14 (Kd.R_lt (pR Q00))) (Kd.R_lt (pR Q01))) (Kd.R_lt (pR Q04))) (below_size hB))
          replace Q00 := eR Q00 (Kd.R_base ho14) hb
          replace Q01 := eR Q01 (Kd.R_base ho14) hb
          replace Q04 := eR Q04 (Kd.R_base ho14) hb
          replace HB := uH HB hb
          clear hb ho14
          refine hK.out _ _ ⟨((HB.out.cell (World.block_lt_of_cell? w _ hw101_0)).trans hw101_0), ((HB.out.cell (World.block_lt_of_cell? w _ hw101_1)).trans hw101_1), ((HB.out.cell (World.block_lt_of_cell? w _ hw108_0)).trans hw108_0), ((HB.out.cell (World.block_lt_of_cell? w _ hw108_1)).trans hw108_1)⟩ (fun hHeld => ?_)
          clear hK K
          refine norm_ (a' := ?_) ?_ ?_
          rotate_left
          ·show Act.put _ (some 27) _ = _
           simp only [Act.put, List.setIfInBounds_toArray, List.set_cons_zero, List.set_cons_succ, i64_w, i32_w]
           rfl
          exact norm_ (by simp only [putAll, Act.put, List.setIfInBounds_toArray, List.set_cons_zero, List.set_cons_succ]) (hCont (.slice Q08 y102.length Q09, v106, v110) _ ⟨hHeld, (by (with_reducible repeat (first | apply rA | apply rN | apply rD)); exact Kd.R_mono Q01.out (fun _ hk => ⟨hk.1.2, ⟨hk.2, hk.1.1⟩⟩)), (by (with_reducible repeat (first | apply rA | apply rN | apply rD)); exact Kd.R_mono Q04.out (fun _ hk => ⟨hk.1.2, ⟨hk.2, hk.1.1⟩⟩)), (by (with_reducible repeat (first | apply rA | apply rN | apply rD)); exact Kd.R_mono Q03.out (fun _ hk => ⟨hk.1.2, ⟨hk.2, hk.1.1.2⟩⟩)), (by (with_reducible repeat (first | apply rA | apply rN | apply rD)); exact Kd.R_mono Q00.out (fun _ hk => ⟨hk.1.1, ⟨hk.1.2, hk.2⟩⟩)), hB⟩)
         ·skip
          refine Kd.R_lit_step (Kd.int .i64) _ 3 ?hg (N := 27) ?hd (xs := ([(rd_T79 l0 x6_1).f1] : List Int)) (inner := [.int .i64 ((rd_T79 l0 x6_1).f1)]) (ok := fun _ => True) (okp := fun _ => True) ?hr ?hp (fun _ hk => hk) trivial (Below.refl _ _) (Nat.le_refl _) (by simp) ?_; (case hd => rfl); (case hg => rfl); (case hr => first | (go_simp; done) | (go_simp; rfl)); (case hp => exact (Reps.one (show Kd.M (Kd.int .i64) _ _ _ ((rd_T79 l0 x6_1).f1) [.int .i64 ((rd_T79 l0 x6_1).f1)] from rfl) (Reps.none _ _)))
          intro v110 w11 ho12 hb hg_ hnew_
          clear hg_ hnew_
          (first | rw [← Ny109.out] at ho12 | (simp only [Int.reduceToNat] at ho12; rw [← Ny109.out] at ho12))
          have Q03 := Aside0.mk (Kd.R_lower (Kd.R_new' (Kd.R_new' (Kd.R_new' ho12 (Kd.R_lt (pR Q02))) (Kd.R_lt (pR Q00))) (Kd.R_lt (pR Q01))) (below_size hB))
          replace Q02 := eR Q02 (Kd.R_base ho12) hb
          replace Q00 := eR Q00 (Kd.R_base ho12) hb
          replace Q01 := eR Q01 (Kd.R_base ho12) hb
          replace HB := uH HB hb
          clear hb ho12
          obtain ⟨Q05, Q06, Q07⟩ := Kd.R_slice Q01.out
          (first | subst Q07 | (injection Q07 with f1_ f2_ f3_; have f4_ := f1_.symm; have f5_ := f3_.symm; clear f1_ f2_ f3_; subst f4_; subst f5_))
          refine hK.out _ _ ⟨((HB.out.cell (World.block_lt_of_cell? w _ hw101_0)).trans hw101_0), ((HB.out.cell (World.block_lt_of_cell? w _ hw101_1)).trans hw101_1), ((HB.out.cell (World.block_lt_of_cell? w _ hw108_0)).trans hw108_0), ((HB.out.cell (World.block_lt_of_cell? w _ hw108_1)).trans hw108_1)⟩ (fun hHeld => ?_)
          clear hK K
          refine norm_ (a' := ?_) ?_ ?_
          rotate_left
          ·show Act.put _ (some 27) _ = _
           simp only [Act.put, List.setIfInBounds_toArray, List.set_cons_zero, List.set_cons_succ, i64_w, i32_w]
           rfl
          refine one_ (i := 7) (N := some 20) #[true, true, true, true, true, true, true, true, true, true, true, true, true, true, true, false, false, false] rfl rfl (one_of HT_.out (by kernel_rfl)) (by decide) (fun K hK => ?_)
          refine Kd.R_append_rows_step (Kd.int .i64) (w0 := w) w.heap.size (by rfl) (.tmp 13) (.tmp 19) 22 3 (.int .i64 0) 8 rfl Try.underlying22 info3 rfl (by decide) (by omega) (.slice Ao6 x4_1.length co6) x4_1 y102 _ _ _ (fun k_ => some k_ ≠ (.slice Ao7 x5_1.length co7 : Value).ownBlock ∧ some k_ ≠ (.slice Q05 y102.length Q06 : Value).ownBlock ∧ some k_ ≠ (v110 : Value).ownBlock) (fun _ => False) rfl rfl ?aO ?aR (fun _ _ h => h) (fun _ h => h.elim) ?aF ?aB ?aS ?aL ?_
          (case aR => exact cX (Kd.R_reads' Q01.out).2.2)
          (case aB => exact hB)
          (case aF => exact (fun k_ hk => ⟨Kd.fresh' (Kd.R_lt (pR Q00)) k_ hk, Kd.fresh' (Kd.R_lt (pR Q01)) k_ hk, Kd.fresh' (Kd.R_lt (pR Q03)) k_ hk⟩))
          (case aO => exact (by (with_reducible repeat (first | apply rA | apply rN | apply rD)); exact Kd.R_mono Q02.out (fun _ hk => ⟨hk.1.1, ⟨hk.1.2, hk.2⟩⟩)))
          (case aS => exact (below_size hB))
          (case aL => have := LMc4.out; omega)
          intro v106 w13 ho hb hg hat
          rw [← Ny105.out] at ho
          replace Q00 := Aside0.mk (Kd.R_after (ok := (fun k_ => some k_ ≠ (.slice Q05 y102.length Q06 : Value).ownBlock ∧ some k_ ≠ (v110 : Value).ownBlock)) (by (with_reducible repeat (first | apply rA | apply rN | apply rD)); exact Kd.R_mono Q00.out (fun _ hk => ⟨⟨hk.1.2, hk.2⟩, hk.1.1⟩)) hg hat)
          replace Q01 := Aside0.mk (Kd.R_after (ok := (fun k_ => some k_ ≠ (.slice Ao7 x5_1.length co7 : Value).ownBlock ∧ some k_ ≠ (v110 : Value).ownBlock)) (by (with_reducible repeat (first | apply rA | apply rN | apply rD)); exact Kd.R_mono Q01.out (fun _ hk => ⟨⟨hk.1.2, hk.2⟩, hk.1.1.2⟩)) hg hat)
          replace Q03 := Aside0.mk (Kd.R_after (ok := (fun k_ => some k_ ≠ (.slice Ao7 x5_1.length co7 : Value).ownBlock ∧ some k_ ≠ (.slice Q05 y102.length Q06 : Value).ownBlock)) (by (with_reducible repeat (first | apply rA | apply rN | apply rD)); exact Kd.R_mono Q03.out (fun _ hk => ⟨⟨hk.1.2, hk.2⟩, hk.1.1.2⟩)) hg hat)
          replace HB := Aside0.mk (hb)
          have Q04 := Aside0.mk (ho)
          clear Q02
          clear ho hb hg hat
          refine hK.out _ _ ⟨((HB.out.cell (World.block_lt_of_cell? w _ hw101_0)).trans hw101_0), ((HB.out.cell (World.block_lt_of_cell? w _ hw101_1)).trans hw101_1), ((HB.out.cell (World.block_lt_of_cell? w _ hw108_0)).trans hw108_0), ((HB.out.cell (World.block_lt_of_cell? w _ hw108_1)).trans hw108_1)⟩ (fun hHeld => ?_)
          clear hK K
          refine norm_ (a' := ?_) ?_ ?_
          rotate_left
          ·show Act.put _ (some 20) _ = _
           simp only [Act.put, List.setIfInBounds_toArray, List.set_cons_zero, List.set_cons_succ, i64_w, i32_w]
           rfl
          exact norm_ (by simp only [putAll, Act.put, List.setIfInBounds_toArray, List.set_cons_zero, List.set_cons_succ]) (hCont (.slice Q05 y102.length Q06, v106, v110) _ ⟨hHeld, (by (with_reducible repeat (first | apply rA | apply rN | apply rD)); exact Kd.R_mono Q01.out (fun _ hk => ⟨hk.2, ⟨hk.1.2, hk.1.1⟩⟩)), (by (with_reducible repeat (first | apply rA | apply rN | apply rD)); exact Kd.R_mono Q04.out (fun _ hk => ⟨hk.2.1, ⟨hk.2.2, hk.1⟩⟩)), (by (with_reducible repeat (first | apply rA | apply rN | apply rD)); exact Kd.R_mono Q03.out (fun _ hk => ⟨hk.1.2, ⟨hk.2, hk.1.1⟩⟩)), (by (with_reducible repeat (first | apply rA | apply rN | apply rD)); exact Kd.R_mono Q00.out (fun _ hk => ⟨hk.1.1, ⟨hk.2, hk.1.2⟩⟩)), hB⟩)
        ·skip
         refine Kd.R_lit_step (Kd.int .i64) _ 3 ?hg (N := 27) ?hd (xs := ([(rd_T79 l0 x6_1).f1] : List Int)) (inner := [.int .i64 ((rd_T79 l0 x6_1).f1)]) (ok := fun _ => True) (okp := fun _ => True) ?hr ?hp (fun _ hk => hk) trivial (Below.refl _ _) (Nat.le_refl _) (by simp) ?_; (case hd => rfl); (case hg => rfl); (case hr => first | (go_simp; done) | (go_simp; rfl)); (case hp => exact (Reps.one (show Kd.M (Kd.int .i64) _ _ _ ((rd_T79 l0 x6_1).f1) [.int .i64 ((rd_T79 l0 x6_1).f1)] from rfl) (Reps.none _ _)))
         intro v110 w9 ho10 hb hg_ hnew_
         clear hg_ hnew_
         (first | rw [← Ny109.out] at ho10 | (simp only [Int.reduceToNat] at ho10; rw [← Ny109.out] at ho10))
         have Q03 := Aside0.mk (Kd.R_lower (Kd.R_new' (Kd.R_new' ho10 (Kd.R_lt (pR Q02))) (Kd.R_lt (pR Q00))) (below_size hB))
         replace Q02 := eR Q02 (Kd.R_base ho10) hb
         replace Q00 := eR Q00 (Kd.R_base ho10) hb
         replace HB := uH HB hb
         clear hb ho10
         refine hK.out _ _ ⟨((HB.out.cell (World.block_lt_of_cell? w _ hw101_0)).trans hw101_0), ((HB.out.cell (World.block_lt_of_cell? w _ hw101_1)).trans hw101_1), ((HB.out.cell (World.block_lt_of_cell? w _ hw108_0)).trans hw108_0), ((HB.out.cell (World.block_lt_of_cell? w _ hw108_1)).trans hw108_1)⟩ (fun hHeld => ?_)
         clear hK K
         refine norm_ (a' := ?_) ?_ ?_
         rotate_left
         ·show Act.put _ (some 27) _ = _
          simp only [Act.put, List.setIfInBounds_toArray, List.set_cons_zero, List.set_cons_succ, i64_w, i32_w]
          rfl
         refine one_ (i := 6) (N := some 19) #[true, true, true, true, true, true, true, false, true, true, true, true, true, true, true, false, false, false] rfl rfl (one_of HT_.out (by kernel_rfl)) (by decide) (fun K hK => ?_)
         refine Kd.R_lit_step (Kd.int .i64) _ 3 ?hg (N := 19) ?hd (xs := ([(rd_T79 l0 x6_1).f0] : List Int)) (inner := [.int .i64 ((rd_T79 l0 x6_1).f0)]) (ok := fun _ => True) (okp := fun _ => True) ?hr ?hp (fun _ hk => hk) trivial (Below.refl _ _) (Nat.le_refl _) (by simp) ?_; (case hd => rfl); (case hg => rfl); (case hr => first | (go_simp; done) | (go_simp; rfl)); (case hp => exact (Reps.one (show Kd.M (Kd.int .i64) _ _ _ ((rd_T79 l0 x6_1).f0) [.int .i64 ((rd_T79 l0 x6_1).f0)] from rfl) (Reps.none _ _)))
         intro v103 w11 ho12 hb hg_ hnew_
         clear hg_ hnew_
         (first | rw [← Ny102.out] at ho12 | (simp only [Int.reduceToNat] at ho12; rw [← Ny102.out] at ho12))
         have Q01 := Aside0.mk (Kd.R_lower (Kd.R_new' (Kd.R_new' (Kd.R_new' ho12 (Kd.R_lt (pR Q02))) (Kd.R_lt (pR Q00))) (Kd.R_lt (pR Q03))) (below_size hB))
         replace Q02 := eR Q02 (Kd.R_base ho12) hb
         replace Q00 := eR Q00 (Kd.R_base ho12) hb
         replace Q03 := eR Q03 (Kd.R_base ho12) hb
         replace HB := uH HB hb
         clear hb ho12
         obtain ⟨Q05, Q06, Q07⟩ := Kd.R_slice Q01.out
         (first | subst Q07 | (injection Q07 with f1_ f2_ f3_; have f4_ := f1_.symm; have f5_ := f3_.symm; clear f1_ f2_ f3_; subst f4_; subst f5_))
         refine hK.out _ _ ⟨((HB.out.cell (World.block_lt_of_cell? w _ hw101_0)).trans hw101_0), ((HB.out.cell (World.block_lt_of_cell? w _ hw101_1)).trans hw101_1), ((HB.out.cell (World.block_lt_of_cell? w _ hw108_0)).trans hw108_0), ((HB.out.cell (World.block_lt_of_cell? w _ hw108_1)).trans hw108_1)⟩ (fun hHeld => ?_)
         clear hK K
         refine norm_ (a' := ?_) ?_ ?_
         rotate_left
         ·show Act.put _ (some 19) _ = _
          simp only [Act.put, List.setIfInBounds_toArray, List.set_cons_zero, List.set_cons_succ, i64_w, i32_w]
          rfl
         refine one_ (i := 7) (N := some 20) #[true, true, true, true, true, true, true, true, true, true, true, true, true, true, true, false, false, false] rfl rfl (one_of HT_.out (by kernel_rfl)) (by decide) (fun K hK => ?_)
         refine Kd.R_append_rows_step (Kd.int .i64) (w0 := w) w.heap.size (by rfl) (.tmp 13) (.tmp 19) 22 3 (.int .i64 0) 8 rfl Try.underlying22 info3 rfl (by decide) (by omega) (.slice Ao6 x4_1.length co6) x4_1 y102 _ _ _ (fun k_ => some k_ ≠ (.slice Ao7 x5_1.length co7 : Value).ownBlock ∧ some k_ ≠ (v110 : Value).ownBlock ∧ some k_ ≠ (.slice Q05 y102.length Q06 : Value).ownBlock) (fun _ => False) rfl rfl ?aO ?aR (fun _ _ h => h) (fun _ h => h.elim) ?aF ?aB ?aS ?aL ?_
         (case aR => exact cX (Kd.R_reads' Q01.out).2.2)
         (case aB => exact hB)
         (case aF => exact (fun k_ hk => ⟨Kd.fresh' (Kd.R_lt (pR Q00)) k_ hk, Kd.fresh' (Kd.R_lt (pR Q03)) k_ hk, Kd.fresh' (Kd.R_lt (pR Q01)) k_ hk⟩))
         (case aO => exact (by (with_reducible repeat (first | apply rA | apply rN | apply rD)); exact Kd.R_mono Q02.out (fun _ hk => ⟨hk.1.1, ⟨hk.1.2, hk.2⟩⟩)))
         (case aS => exact (below_size hB))
         (case aL => have := LMc4.out; omega)
         intro v106 w13 ho hb hg hat
         rw [← Ny105.out] at ho
         replace Q00 := Aside0.mk (Kd.R_after (ok := (fun k_ => some k_ ≠ (v110 : Value).ownBlock ∧ some k_ ≠ (.slice Q05 y102.length Q06 : Value).ownBlock)) (by (with_reducible repeat (first | apply rA | apply rN | apply rD)); exact Kd.R_mono Q00.out (fun _ hk => ⟨⟨hk.1.2, hk.2⟩, hk.1.1⟩)) hg hat)
         replace Q03 := Aside0.mk (Kd.R_after (ok := (fun k_ => some k_ ≠ (.slice Ao7 x5_1.length co7 : Value).ownBlock ∧ some k_ ≠ (.slice Q05 y102.length Q06 : Value).ownBlock)) (by (with_reducible repeat (first | apply rA | apply rN | apply rD)); exact Kd.R_mono Q03.out (fun _ hk => ⟨⟨hk.1.2, hk.2⟩, hk.1.1.2⟩)) hg hat)
         replace Q01 := Aside0.mk (Kd.R_after (ok := (fun k_ => some k_ ≠ (.slice Ao7 x5_1.length co7 : Value).ownBlock ∧ some k_ ≠ (v110 : Value).ownBlock)) (by (with_reducible repeat (first | apply rA | apply rN | apply rD)); exact Kd.R_mono Q01.out (fun _ hk => ⟨⟨hk.1.2, hk.2⟩, hk.1.1.2⟩)) hg hat)
         replace HB := Aside0.mk (hb)
         have Q04 := Aside0.mk (ho)
         clear Q02
         clear ho hb hg hat
         refine hK.out _ _ ⟨((HB.out.cell (World.block_lt_of_cell? w _ hw101_0)).trans hw101_0), ((HB.out.cell (World.block_lt_of_cell? w _ hw101_1)).trans hw101_1), ((HB.out.cell (World.block_lt_of_cell? w _ hw108_0)).trans hw108_0), ((HB.out.cell (World.block_lt_of_cell? w _ hw108_1)).trans hw108_1)⟩ (fun hHeld => ?_)
         clear hK K
         refine norm_ (a' := ?_) ?_ ?_
         rotate_left
         ·show Act.put _ (some 20) _ = _
          simp only [Act.put, List.setIfInBounds_toArray, List.set_cons_zero, List.set_cons_succ, i64_w, i32_w]
          rfl
         exact norm_ (by simp only [putAll, Act.put, List.setIfInBounds_toArray, List.set_cons_zero, List.set_cons_succ]) (hCont (.slice Q05 y102.length Q06, v106, v110) _ ⟨hHeld, (by (with_reducible repeat (first | apply rA | apply rN | apply rD)); exact Kd.R_mono Q01.out (fun _ hk => ⟨hk.2, ⟨hk.1.2, hk.1.1⟩⟩)), (by (with_reducible repeat (first | apply rA | apply rN | apply rD)); exact Kd.R_mono Q04.out (fun _ hk => ⟨hk.2.2, ⟨hk.2.1, hk.1⟩⟩)), (by (with_reducible repeat (first | apply rA | apply rN | apply rD)); exact Kd.R_mono Q03.out (fun _ hk => ⟨hk.1.2, ⟨hk.2, hk.1.1⟩⟩)), (by (with_reducible repeat (first | apply rA | apply rN | apply rD)); exact Kd.R_mono Q00.out (fun _ hk => ⟨hk.1.2, ⟨hk.2, hk.1.1⟩⟩)), hB⟩)
       rintro ⟨v103, v106, v110⟩ w15 ⟨hS_, h0_, h1_, h2_, h3_, h4_⟩
       have n0_ : Aside0 (Kd.R (Kd.int .i64) 3 w15 w.heap.size (fun k_ => some k_ ≠ (v106 : Value).ownBlock ∧ some k_ ≠ (v110 : Value).ownBlock ∧ some k_ ≠ (.slice Ao7 x5_1.length co7 : Value).ownBlock) v103 y102) := ⟨h0_⟩
       have n1_ : Aside0 (Kd.R (Kd.int .i64) 3 w15 w.heap.size (fun k_ => some k_ ≠ (v103 : Value).ownBlock ∧ some k_ ≠ (v110 : Value).ownBlock ∧ some k_ ≠ (.slice Ao7 x5_1.length co7 : Value).ownBlock) v106 y105) := ⟨h1_⟩
       have n2_ : Aside0 (Kd.R (Kd.int .i64) 3 w15 w.heap.size (fun k_ => some k_ ≠ (v103 : Value).ownBlock ∧ some k_ ≠ (v106 : Value).ownBlock ∧ some k_ ≠ (.slice Ao7 x5_1.length co7 : Value).ownBlock) v110 y109) := ⟨h2_⟩
       have n3_ : Aside0 (Kd.R (Kd.int .i64) 3 w15 w.heap.size (fun k_ => some k_ ≠ (v103 : Value).ownBlock ∧ some k_ ≠ (v106 : Value).ownBlock ∧ some k_ ≠ (v110 : Value).ownBlock) (.slice Ao7 x5_1.length co7) x5_1) := ⟨h3_⟩
       have n4_ : Aside0 (Below w.heap.size w w15) := ⟨h4_⟩
       clear Q02
       clear Q00
       clear HB
       clear h0_ h1_ h2_ h3_ h4_
       have Q01 := n0_
       have Q04 := n1_
       have Q03 := n2_
       have Q00 := n3_
       have HB := n4_
       clear n0_ n1_ n2_ n3_ n4_
       have hHeld : w15.cell? (ad101.add ((x6_1).toNat * 2)) = some (.int .i64 ((rd_T79 l0 x6_1).f0)) ∧ w15.cell? ⟨(ad101.add ((x6_1).toNat * 2)).block, (ad101.add ((x6_1).toNat * 2)).off + 1, none⟩ = some (.int .i64 ((rd_T79 l0 x6_1).f1)) ∧ w15.cell? (ad101.add ((x6_1).toNat * 2)) = some (.int .i64 ((rd_T79 l0 x6_1).f0)) ∧ w15.cell? ⟨(ad101.add ((x6_1).toNat * 2)).block, (ad101.add ((x6_1).toNat * 2)).off + 1, none⟩ = some (.int .i64 ((rd_T79 l0 x6_1).f1)) := hS_
       obtain ⟨Q0a, Q0b, Q0d⟩ := Kd.R_slice Q03.out
       (first | subst Q0d | (injection Q0d with f1_ f2_ f3_; have f4_ := f1_.symm; have f5_ := f3_.symm; clear f1_ f2_ f3_; subst f4_; subst f5_))
       refine norm_ (a' := ?_) ?_ ?_
       rotate_left
       ·simp only [putAll, Act.put, List.setIfInBounds_toArray, List.set_cons_zero, List.set_cons_succ]
        rfl
       refine one_ (i := 15) (N := some 28) #[true, true, true, true, true, true, true, true, true, true, true, true, true, true, true, true, false, false] rfl rfl (one_of HT_.out (by kernel_rfl)) (by decide) (fun K hK => ?_)
       refine Kd.R_append_rows_step (Kd.int .i64) (w0 := w) w.heap.size (by rfl) (.tmp 21) (.tmp 27) 22 3 (.int .i64 0) 8 rfl Try.underlying22 info3 rfl (by decide) (by omega) (.slice Ao7 x5_1.length co7) x5_1 y109 _ _ _ (fun k_ => some k_ ≠ (v103 : Value).ownBlock ∧ some k_ ≠ (v106 : Value).ownBlock ∧ some k_ ≠ (.slice Q0a y109.length Q0b : Value).ownBlock) (fun _ => False) rfl rfl ?aO ?aR (fun _ _ h => h) (fun _ h => h.elim) ?aF ?aB ?aS ?aL ?_
       (case aR => exact cX (Kd.R_reads' Q03.out).2.2)
       (case aB => exact hB)
       (case aF => exact (fun k_ hk => ⟨Kd.fresh' (Kd.R_lt (pR Q01)) k_ hk, Kd.fresh' (Kd.R_lt (pR Q04)) k_ hk, Kd.fresh' (Kd.R_lt (pR Q03)) k_ hk⟩))
       (case aO => exact (pR Q00))
       (case aS => exact (below_size hB))
       (case aL => have := LMc5.out; omega)
       intro v113 w16 ho hb hg hat
       rw [← Ny112.out] at ho
       replace Q01 := Aside0.mk (Kd.R_after (ok := (fun k_ => some k_ ≠ (v106 : Value).ownBlock ∧ some k_ ≠ (.slice Q0a y109.length Q0b : Value).ownBlock)) (by (with_reducible repeat (first | apply rA | apply rN | apply rD)); exact Kd.R_mono Q01.out (fun _ hk => ⟨⟨hk.1, hk.2.1⟩, hk.2.2⟩)) hg hat)
       replace Q04 := Aside0.mk (Kd.R_after (ok := (fun k_ => some k_ ≠ (v103 : Value).ownBlock ∧ some k_ ≠ (.slice Q0a y109.length Q0b : Value).ownBlock)) (by (with_reducible repeat (first | apply rA | apply rN | apply rD)); exact Kd.R_mono Q04.out (fun _ hk => ⟨⟨hk.1, hk.2.1⟩, hk.2.2⟩)) hg hat)
       replace Q03 := Aside0.mk (Kd.R_after (ok := (fun k_ => some k_ ≠ (v103 : Value).ownBlock ∧ some k_ ≠ (v106 : Value).ownBlock)) (by (with_reducible repeat (first | apply rA | apply rN | apply rD)); exact Kd.R_mono Q03.out (fun _ hk => ⟨⟨hk.1, hk.2.1⟩, hk.2.2⟩)) hg hat)
       replace HB := Aside0.mk (hb)
       have Q0e := Aside0.mk (ho)
       clear Q00
       clear ho hb hg hat
       refine hK.out _ _ ⟨((HB.out.cell (World.block_lt_of_cell? w _ hw101_0)).trans hw101_0), ((HB.out.cell (World.block_lt_of_cell? w _ hw101_1)).trans hw101_1), ((HB.out.cell (World.block_lt_of_cell? w _ hw108_0)).trans hw108_0), ((HB.out.cell (World.block_lt_of_cell? w _ hw108_1)).trans hw108_1)⟩ (fun hHeld => ?_)
       clear hK K
       refine norm_ (a' := ?_) ?_ ?_
       rotate_left
       ·show Act.put _ (some 28) _ = _
        simp only [Act.put, List.setIfInBounds_toArray, List.set_cons_zero, List.set_cons_succ, i64_w, i32_w]
        rfl
       refine pure_ (i := 16) (N := some 4) (v := ?_) (a' := ?_) #[true, true, true, true, true, true, true, true, true, true, true, true, true, true, true, true, true, false] rfl rfl (any_of HT_.out (by kernel_rfl)) (fun _ _ _ h => h) (Or.inl ⟨by rfl, ?_⟩) ?_ ?_
       rotate_left
       ·intro w'
        go_simp
        with_reducible rfl
       rotate_left
       ·simp only [Act.put, List.setIfInBounds_toArray, List.set_cons_zero, List.set_cons_succ, i64_w, i32_w]
        rfl
       refine pure_ (i := 17) (N := some 5) (v := ?_) (a' := ?_) #[true, true, true, true, true, true, true, true, true, true, true, true, true, true, true, true, true, true] rfl rfl (any_of HT_.out (by kernel_rfl)) (fun _ _ _ h => h) (Or.inl ⟨by rfl, ?_⟩) ?_ ?_
       rotate_left
       ·intro w'
        go_simp
        with_reducible rfl
       rotate_left
       ·simp only [Act.put, List.setIfInBounds_toArray, List.set_cons_zero, List.set_cons_succ, i64_w, i32_w]
        rfl
       refine done_ (done_of HT_.out (by kernel_rfl)) ?_
       try go_wp2
       go_roundg k1
       case measure => have := HK1.out; omega
       case rel => exact ⟨(y105), (y112), (wrap64 (x6_1 + 1)), rS, H', ⟨by have := HK1.out; omega⟩, ⟨by (with_reducible repeat (first | apply rA | apply rN | apply rD)); exact Kd.R_mono Q04.out (fun _ hk => hk.2)⟩, ⟨by (with_reducible repeat (first | apply rA | apply rN | apply rD)); exact Kd.R_mono Q0e.out (fun _ hk => hk.2.1)⟩, ⟨pH HB⟩⟩
      ·rw [if_neg c5] at H
       exact absurd H (by simp)
     ·rw [if_neg c4] at H
      exact absurd H (by simp)
    ·rw [if_neg c3] at H
     exact absurd H (by simp)
   ·rw [if_neg c2] at H
    have c2b0 : decide (x6_1 < (l0.length : Int)) = false := decide_eq_false c2
    clear c2
    simp only [Option.some.injEq, Prod.mk.injEq] at H
    obtain ⟨rfl, rfl⟩ := H
    go_wp2
    go_ret2
    exact ⟨_, _, by first | rfl | (simp [errW_none, errW_some] <;> rfl) | (simp [*, errW_none, errW_some] <;> rfl), by (with_reducible repeat (first | apply rA | apply rN | apply rD)); exact Q02.out, by (with_reducible repeat (first | apply rA | apply rN | apply rD)); exact Q00.out, by repeat (first | (with_reducible first | exact HB.out | apply wA | apply wN | apply wD) | exact HB.out)⟩
end Go.Proofs.Ytillofiphkmjjaa.X
