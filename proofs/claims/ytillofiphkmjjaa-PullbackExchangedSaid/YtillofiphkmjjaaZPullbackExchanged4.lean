/- A part of the proof that the law PullbackExchanged returns true at every input: contracts of the functions that it calls, and lemmas. -/
import Derived.Test.YtillofiphkmjjaaZPullbackExchanged3
/- morphism.Injective and Surjective (47, 48), walked by hand. -/
namespace Go.Proofs.Ytillofiphkmjjaa.X
open Go.RowKit Go.Proofs.YtillofiphkmjjaaW.PrintWords Go.Proofs.YtillofiphkmjjaaW.PrintLast Go.Proofs.YtillofiphkmjjaaW.PrintMore
set_option linter.unusedVariables false
set_option linter.unusedSimpArgs false
def T47 : Bool × List (List Nat × List Nat) := (true, [([], []), ([], []), ([], []), ([0, 1, 2], [0, 1, 2]), ([3], [3]), ([4, 3], [4]), ([5], [5]), ([6, 5], [5, 6]), ([7, 5, 5], [5, 7]), ([5], [5]), ([9, 5], [5, 9]), ([10, 5], [5, 10]), ([8, 11, 5], [5, 8, 11]), ([5, 12], [5, 12]), ([13, 8], [13]), ([14], [14]), ([15, 14], [14, 15]), ([16, 14, 14], [14, 16]), ([14], [14]), ([18, 14], [14, 18]), ([19, 14], [14, 19]), ([17, 20, 14], [14, 17, 20]), ([14, 21], [14, 21]), ([22, 17, 0, 1, 2, 3, 4, 5, 6, 7, 8, 9, 10, 11, 12, 13, 14, 15, 16, 17, 18, 19, 20, 21, 22], [22])])
theorem tab47 : rtab .any (opsOf Try.f47 1) = T47 := by kernel_rfl
def J47 (W0 : World) (B3 B4 B5 : Nat) (A0 : Option Addr) (c0 : Nat) (a0 : List Int) (A1 : Option Addr) (c1 : Nat) (a1 : List S94) (A2 : Option Addr) (c2 : Nat) (b0 : List Int) (A3 : Option Addr) (c3 : Nat) (b1 : List S94) (A4 : Option Addr) (c4 : Nat) (n : List Int) (A5 : Option Addr) (c5 : Nat) (m : List Int) (g1 g2 g3 : Bool) (l : List Bool) (a : Act) (w' : World) : Prop :=
 ∃ (y0 y1 y2 y3 y4 y5 y6 y7 y8 y9 y10 y11 y12 y13 y14 y15 y16 y17 y18 y19 y20 y21 y22 y23 : Bool), l = [y0, y1, y2, y3, y4, y5, y6, y7, y8, y9, y10, y11, y12, y13, y14, y15, y16, y17, y18, y19, y20, y21, y22, y23] ∧ a = ⟨#[.agg #[.slice A0 a0.length c0, .slice A1 a1.length c1], .agg #[.slice A2 b0.length c2, .slice A3 b1.length c3], .agg #[.slice A4 n.length c4, .slice A5 m.length c5], .pointer (some ⟨B3, 0, none⟩), .pointer (some ⟨B4, 0, none⟩), .pointer (some ⟨B5, 0, none⟩), (cond y23 (.bool (g1 && g2 && g3)) (.bool false)), (cond y0 (.agg #[.slice A0 a0.length c0, .slice A1 a1.length c1]) (undef)), (cond y1 (.agg #[.slice A2 b0.length c2, .slice A3 b1.length c3]) (undef)), (cond y2 (.agg #[.slice A4 n.length c4, .slice A5 m.length c5]) (undef)), (cond y3 (.int .i64 (mvalid a0 a1 b0 b1 n m)) (undef)), (cond y4 (.bool g1) (undef)), (cond y5 (.bool g1) (undef)), (cond y6 (cond g1 (.pointer (some ⟨B5, 0, none⟩)) undef) (undef)), (cond y7 (cond g1 (.slice A4 n.length c4) undef) (undef)), (cond y8 (cond g1 (.int .i64 (nd n)) undef) (undef)), (cond y9 (cond g1 (.pointer (some ⟨B5, 0, none⟩)) undef) (undef)), (cond y10 (cond g1 (.slice A4 n.length c4) undef) (undef)), (cond y11 (cond g1 (.int .i64 (n.length : Int)) undef) (undef)), (cond y12 (cond g1 (.bool g2) undef) (undef)), (cond y13 (.bool (g1 && g2)) (undef)), (cond y14 (.bool (g1 && g2)) (undef)), (cond y15 (cond (g1 && g2) (.pointer (some ⟨B5, 1, none⟩)) undef) (undef)), (cond y16 (cond (g1 && g2) (.slice A5 m.length c5) undef) (undef)), (cond y17 (cond (g1 && g2) (.int .i64 (nd m)) undef) (undef)), (cond y18 (cond (g1 && g2) (.pointer (some ⟨B5, 1, none⟩)) undef) (undef)), (cond y19 (cond (g1 && g2) (.slice A5 m.length c5) undef) (undef)), (cond y20 (cond (g1 && g2) (.int .i64 (m.length : Int)) undef) (undef)), (cond y21 (cond (g1 && g2) (.bool g3) undef) (undef)), (cond y22 (.bool (g1 && g2 && g3)) (undef))], []⟩ ∧ Since W0 w'
set_option maxRecDepth 100000 in
set_option maxHeartbeats 4000000 in
theorem J47_step (W0 : World) (B3 B4 B5 : Nat) (A0 : Option Addr) (c0 : Nat) (a0 : List Int) (A1 : Option Addr) (c1 : Nat) (a1 : List S94) (A2 : Option Addr) (c2 : Nat) (b0 : List Int) (A3 : Option Addr) (c3 : Nat) (b1 : List S94) (A4 : Option Addr) (c4 : Nat) (n : List Int) (A5 : Option Addr) (c5 : Nat) (m : List Int) (g1 g2 g3 : Bool) (BX : Box2 W0 B3 25 (.slice A0 a0.length c0) (.slice A1 a1.length c1)) (BY : Box2 W0 B4 25 (.slice A2 b0.length c2) (.slice A3 b1.length c3)) (BZ : Box2 W0 B5 27 (.slice A4 n.length c4) (.slice A5 m.length c5))
  (R0 : Row (Kd.int .i64) W0 A0 c0 a0) (R1 : Row k94 W0 A1 c1 a1) (R2 : Row (Kd.int .i64) W0 A2 c2 b0) (R3 : Row k94 W0 A3 c3 b1) (R4 : Row (Kd.int .i64) W0 A4 c4 n) (R5 : Row (Kd.int .i64) W0 A5 c5 m)
  (h1 : decide ((mvalid a0 a1 b0 b1 n m) = 0) = g1) (h2 : g1 = true → decide (nd n = (n.length : Int)) = g2) (h3 : (g1 && g2) = true → decide (nd m = (m.length : Int)) = g3) (hn : g1 = true → n.length ≤ 1000000) (hm : g1 = true → m.length ≤ 1000000)
  {Q_ : Exit → Act → World → Prop} : ∀ l a w' i, J47 W0 B3 B4 B5 A0 c0 a0 A1 c1 a1 A2 c2 b0 A3 c3 b1 A4 c4 n A5 c5 m g1 g2 g3 l a w' → l.length = (opsOf Try.f47 1).size → readyAt T47.2 l i = true → i < T47.2.length → wpOp Try.prog (opsOf Try.f47 1) Q_ i (fun a' w'' => J47 W0 B3 B4 B5 A0 c0 a0 A1 c1 a1 A2 c2 b0 A3 c3 b1 A4 c4 n A5 c5 m g1 g2 g3 (l.set i true) a' w'') a w' := by
 rintro l a w' i ⟨y0, y1, y2, y3, y4, y5, y6, y7, y8, y9, y10, y11, y12, y13, y14, y15, y16, y17, y18, y19, y20, y21, y22, y23, rfl, rfl, sb⟩ _ hr hi
 have hu25 := Try.underlying25
 have hu27 := Try.underlying27
 replace hi : i < 24 := hi
 have hcase : i = 0 ∨ i = 1 ∨ i = 2 ∨ i = 3 ∨ i = 4 ∨ i = 5 ∨ i = 6 ∨ i = 7 ∨ i = 8 ∨ i = 9 ∨ i = 10 ∨ i = 11 ∨ i = 12 ∨ i = 13 ∨ i = 14 ∨ i = 15 ∨ i = 16 ∨ i = 17 ∨ i = 18 ∨ i = 19 ∨ i = 20 ∨ i = 21 ∨ i = 22 ∨ i = 23 := by omega
 rcases hcase with rfl | rfl | rfl | rfl | rfl | rfl | rfl | rfl | rfl | rfl | rfl | rfl | rfl | rfl | rfl | rfl | rfl | rfl | rfl | rfl | rfl | rfl | rfl | rfl
 ·-- 0
  obtain rfl : y0 = false := need_not hr
  clear hr
  have hx0 := (BX.below sb.get).c0
  have hx1 := (BX.below sb.get).c1
  refine wpOp_step (i := 0) (o := { dst := some 7, op := Op.load 25 (Operand.tmp 3), type := 25, pos := "morphism.go:93", after := #[], guard := none }) (by rfl) (fun K hK => ?_)
  refine event_step (v := .agg #[.slice A0 a0.length c0, .slice A1 a1.length c1]) (w1 := w') rfl ?_ ?_
  ·first | (go_simp; done) | (go_simp; rfl)
  refine hK _ _ ⟨_, _, _, _, _, _, _, _, _, _, _, _, _, _, _, _, _, _, _, _, _, _, _, _, rfl, rfl, sb⟩
 ·-- 1
  obtain rfl : y1 = false := need_not hr
  clear hr
  have hx0 := (BY.below sb.get).c0
  have hx1 := (BY.below sb.get).c1
  refine wpOp_step (i := 1) (o := { dst := some 8, op := Op.load 25 (Operand.tmp 4), type := 25, pos := "morphism.go:93", after := #[], guard := none }) (by rfl) (fun K hK => ?_)
  refine event_step (v := .agg #[.slice A2 b0.length c2, .slice A3 b1.length c3]) (w1 := w') rfl ?_ ?_
  ·first | (go_simp; done) | (go_simp; rfl)
  refine hK _ _ ⟨_, _, _, _, _, _, _, _, _, _, _, _, _, _, _, _, _, _, _, _, _, _, _, _, rfl, rfl, sb⟩
 ·-- 2
  obtain rfl : y2 = false := need_not hr
  clear hr
  have hx0 := (BZ.below sb.get).c0
  have hx1 := (BZ.below sb.get).c1
  refine wpOp_step (i := 2) (o := { dst := some 9, op := Op.load 27 (Operand.tmp 5), type := 27, pos := "morphism.go:93", after := #[], guard := none }) (by rfl) (fun K hK => ?_)
  refine event_step (v := .agg #[.slice A4 n.length c4, .slice A5 m.length c5]) (w1 := w') rfl ?_ ?_
  ·first | (go_simp; done) | (go_simp; rfl)
  refine hK _ _ ⟨_, _, _, _, _, _, _, _, _, _, _, _, _, _, _, _, _, _, _, _, _, _, _, _, rfl, rfl, sb⟩
 ·-- 3
  obtain rfl : y3 = false := need_not hr
  obtain rfl : y0 = true := need (j := 0) hr rfl (by decide)
  obtain rfl : y1 = true := need (j := 1) hr rfl (by decide)
  obtain rfl : y2 = true := need (j := 2) hr rfl (by decide)
  clear hr
  refine wpOp_step (i := 3) (o := { dst := some 10, op := Op.call { callee := Callee.value (Operand.func 42), args := #[Operand.tmp 7, Operand.tmp 8, Operand.tmp 9], argTypes := #[25, 25, 27] }, type := 34, pos := "morphism.go:93", after := #[aD 0, aD 1, aD 2], guard := none }) (by rfl) (fun K hK => ?_)
  refine goes_ Try.func42 (by kernel_rfl) rfl #[.agg #[.slice A0 a0.length c0, .slice A1 a1.length c1], .agg #[.slice A2 b0.length c2, .slice A3 b1.length c3], .agg #[.slice A4 n.length c4, .slice A5 m.length c5]] (by rfl) rfl rfl (by (try simp only [List.map_toArray, List.map_cons, List.map_nil]); first | done | rfl) ?_
  refine (morphism_Valid.calls _ _ a0 _ _ a1 _ _ b0 _ _ b1 _ _ n _ _ m (mvalid a0 a1 b0 b1 n m) _ (R0.below sb.get).at_ R0.cap (R1.below sb.get).at_ R1.cap (R2.below sb.get).at_ R2.cap (R3.below sb.get).at_ R3.cap (R4.below sb.get).at_ R4.cap (R5.below sb.get).at_ R5.cap rfl).mono ?_
  rintro e w1 ⟨rfl, hb⟩
  refine ⟨_, rfl, ?_⟩
  refine hK _ _ ⟨_, _, _, _, _, _, _, _, _, _, _, _, _, _, _, _, _, _, _, _, _, _, _, _, rfl, rfl, sb.step hb⟩
 ·-- 4
  obtain rfl : y4 = false := need_not hr
  obtain rfl : y3 = true := need (j := 3) hr rfl (by decide)
  clear hr
  refine wpOp_step (i := 4) (o := { dst := some 11, op := Op.binOp BinOp.eql 34 (Operand.tmp 10) (Operand.const (Value.int IntKind.i64 0)) 34, type := 4, pos := "morphism.go:93", after := #[aD 3], guard := none }) (by rfl) (fun K hK => ?_)
  have hb1 : ((mvalid a0 a1 b0 b1 n m) == 0) = g1 := h1
  refine event_step (v := .bool g1) (w1 := w') rfl ?_ ?_
  ·first | (go_simp; done) | (go_simp; rfl)
  refine hK _ _ ⟨_, _, _, _, _, _, _, _, _, _, _, _, _, _, _, _, _, _, _, _, _, _, _, _, rfl, rfl, sb⟩
 ·-- 5
  obtain rfl : y5 = false := need_not hr
  obtain rfl : y4 = true := need (j := 4) hr rfl (by decide)
  clear hr
  refine wpOp_step (i := 5) (o := { dst := some 12, op := Op.move (Operand.tmp 11), type := 4, pos := "morphism.go:93", after := #[aD 4, { on := 3, ground := Ground.chain }], guard := none }) (by rfl) (fun K hK => ?_)
  refine event_step (v := .bool g1) (w1 := w') rfl ?_ ?_
  ·first | (go_simp; done) | (go_simp; rfl)
  refine hK _ _ ⟨_, _, _, _, _, _, _, _, _, _, _, _, _, _, _, _, _, _, _, _, _, _, _, _, rfl, rfl, sb⟩
 ·-- 6
  obtain rfl : y6 = false := need_not hr
  obtain rfl : y5 = true := need (j := 5) hr rfl (by decide)
  clear hr
  refine wpOp_step (i := 6) (o := { dst := some 13, op := Op.fieldAddr 27 (Operand.tmp 5) 0, type := 0, pos := "morphism.go:93", after := #[aG 5], guard := some (5, true) }) (by rfl) (fun K hK => ?_)
  cases g1 with
  | false =>
   refine off_ (N := some 13) rfl ?_
   refine hK _ _ ⟨_, _, _, _, _, _, _, _, _, _, _, _, _, _, _, _, _, _, _, _, _, _, _, _, rfl, rfl, sb⟩
  | true =>
   refine event_step (v := .pointer (some ⟨B5, 0, none⟩)) (w1 := w') rfl ?_ ?_
   ·first | (go_simp; done) | (go_simp; rfl)
   refine hK _ _ ⟨_, _, _, _, _, _, _, _, _, _, _, _, _, _, _, _, _, _, _, _, _, _, _, _, rfl, rfl, sb⟩
 ·-- 7
  obtain rfl : y7 = false := need_not hr
  obtain rfl : y5 = true := need (j := 5) hr rfl (by decide)
  obtain rfl : y6 = true := need (j := 6) hr rfl (by decide)
  clear hr
  have hx0 := (BZ.below sb.get).c0
  have hx1 := (BZ.below sb.get).c1
  refine wpOp_step (i := 7) (o := { dst := some 14, op := Op.load 22 (Operand.tmp 13), type := 22, pos := "morphism.go:93", after := #[aD 6, aG 5], guard := some (5, true) }) (by rfl) (fun K hK => ?_)
  cases g1 with
  | false =>
   refine off_ (N := some 14) rfl ?_
   refine hK _ _ ⟨_, _, _, _, _, _, _, _, _, _, _, _, _, _, _, _, _, _, _, _, _, _, _, _, rfl, rfl, sb⟩
  | true =>
   refine event_step (v := .slice A4 n.length c4) (w1 := w') rfl ?_ ?_
   ·first | (go_simp; done) | (go_simp; rfl)
   refine hK _ _ ⟨_, _, _, _, _, _, _, _, _, _, _, _, _, _, _, _, _, _, _, _, _, _, _, _, rfl, rfl, sb⟩
 ·-- 8
  obtain rfl : y8 = false := need_not hr
  obtain rfl : y5 = true := need (j := 5) hr rfl (by decide)
  obtain rfl : y7 = true := need (j := 7) hr rfl (by decide)
  clear hr
  refine wpOp_step (i := 8) (o := { dst := some 15, op := Op.call { callee := Callee.value (Operand.func 75), args := #[Operand.tmp 14], argTypes := #[22] }, type := 3, pos := "morphism.go:93", after := #[aD 7, { on := 5, ground := Ground.chain }, aG 5], guard := some (5, true) }) (by rfl) (fun K hK => ?_)
  cases g1 with
  | false =>
   refine off_ (N := some 15) rfl ?_
   refine hK _ _ ⟨_, _, _, _, _, _, _, _, _, _, _, _, _, _, _, _, _, _, _, _, _, _, _, _, rfl, rfl, sb⟩
  | true =>
   refine goes_ Try.func75 (by kernel_rfl) rfl #[.slice A4 n.length c4] (by rfl) rfl rfl (by (try simp only [List.map_toArray, List.map_cons, List.map_nil]); first | done | rfl) ?_
   refine (images_calls _ _ n _ (R4.below sb.get).at_ R4.cap (hn rfl)).mono ?_
   rintro e w1 ⟨rfl, hb⟩
   refine ⟨_, rfl, ?_⟩
   refine hK _ _ ⟨_, _, _, _, _, _, _, _, _, _, _, _, _, _, _, _, _, _, _, _, _, _, _, _, rfl, rfl, sb.step hb⟩
 ·-- 9
  obtain rfl : y9 = false := need_not hr
  obtain rfl : y5 = true := need (j := 5) hr rfl (by decide)
  clear hr
  refine wpOp_step (i := 9) (o := { dst := some 16, op := Op.fieldAddr 27 (Operand.tmp 5) 0, type := 0, pos := "morphism.go:93", after := #[aG 5], guard := some (5, true) }) (by rfl) (fun K hK => ?_)
  cases g1 with
  | false =>
   refine off_ (N := some 16) rfl ?_
   refine hK _ _ ⟨_, _, _, _, _, _, _, _, _, _, _, _, _, _, _, _, _, _, _, _, _, _, _, _, rfl, rfl, sb⟩
  | true =>
   refine event_step (v := .pointer (some ⟨B5, 0, none⟩)) (w1 := w') rfl ?_ ?_
   ·first | (go_simp; done) | (go_simp; rfl)
   refine hK _ _ ⟨_, _, _, _, _, _, _, _, _, _, _, _, _, _, _, _, _, _, _, _, _, _, _, _, rfl, rfl, sb⟩
 ·-- 10
  obtain rfl : y10 = false := need_not hr
  obtain rfl : y5 = true := need (j := 5) hr rfl (by decide)
  obtain rfl : y9 = true := need (j := 9) hr rfl (by decide)
  clear hr
  have hx0 := (BZ.below sb.get).c0
  have hx1 := (BZ.below sb.get).c1
  refine wpOp_step (i := 10) (o := { dst := some 17, op := Op.load 22 (Operand.tmp 16), type := 22, pos := "morphism.go:93", after := #[aD 9, aG 5], guard := some (5, true) }) (by rfl) (fun K hK => ?_)
  cases g1 with
  | false =>
   refine off_ (N := some 17) rfl ?_
   refine hK _ _ ⟨_, _, _, _, _, _, _, _, _, _, _, _, _, _, _, _, _, _, _, _, _, _, _, _, rfl, rfl, sb⟩
  | true =>
   refine event_step (v := .slice A4 n.length c4) (w1 := w') rfl ?_ ?_
   ·first | (go_simp; done) | (go_simp; rfl)
   refine hK _ _ ⟨_, _, _, _, _, _, _, _, _, _, _, _, _, _, _, _, _, _, _, _, _, _, _, _, rfl, rfl, sb⟩
 ·-- 11
  obtain rfl : y11 = false := need_not hr
  obtain rfl : y5 = true := need (j := 5) hr rfl (by decide)
  obtain rfl : y10 = true := need (j := 10) hr rfl (by decide)
  clear hr
  refine wpOp_step (i := 11) (o := { dst := some 18, op := Op.call { callee := Callee.builtin Builtin.len, args := #[Operand.tmp 17], argTypes := #[22] }, type := 3, pos := "morphism.go:93", after := #[aD 10, aG 5], guard := some (5, true) }) (by rfl) (fun K hK => ?_)
  cases g1 with
  | false =>
   refine off_ (N := some 18) rfl ?_
   refine hK _ _ ⟨_, _, _, _, _, _, _, _, _, _, _, _, _, _, _, _, _, _, _, _, _, _, _, _, rfl, rfl, sb⟩
  | true =>
   refine event_step (v := .int .i64 (n.length : Int)) (w1 := w') rfl ?_ ?_
   ·first | (go_simp; done) | (go_simp; rfl)
   refine hK _ _ ⟨_, _, _, _, _, _, _, _, _, _, _, _, _, _, _, _, _, _, _, _, _, _, _, _, rfl, rfl, sb⟩
 ·-- 12
  obtain rfl : y12 = false := need_not hr
  obtain rfl : y5 = true := need (j := 5) hr rfl (by decide)
  obtain rfl : y8 = true := need (j := 8) hr rfl (by decide)
  obtain rfl : y11 = true := need (j := 11) hr rfl (by decide)
  clear hr
  refine wpOp_step (i := 12) (o := { dst := some 19, op := Op.binOp BinOp.eql 3 (Operand.tmp 15) (Operand.tmp 18) 3, type := 4, pos := "morphism.go:93", after := #[aD 8, aD 11, aG 5], guard := some (5, true) }) (by rfl) (fun K hK => ?_)
  cases g1 with
  | false =>
   refine off_ (N := some 19) rfl ?_
   refine hK _ _ ⟨_, _, _, _, _, _, _, _, _, _, _, _, _, _, _, _, _, _, _, _, _, _, _, _, rfl, rfl, sb⟩
  | true =>
   have hd2 := h2 rfl
   have hb2 : (nd n == (n.length : Int)) = g2 := hd2
   refine event_step (v := .bool g2) (w1 := w') rfl ?_ ?_
   ·first | (go_simp; done) | (go_simp; rfl)
   refine hK _ _ ⟨_, _, _, _, _, _, _, _, _, _, _, _, _, _, _, _, _, _, _, _, _, _, _, _, rfl, rfl, sb⟩
 ·-- 13
  obtain rfl : y13 = false := need_not hr
  obtain rfl : y5 = true := need (j := 5) hr rfl (by decide)
  obtain rfl : y12 = true := need (j := 12) hr rfl (by decide)
  clear hr
  refine wpOp_step (i := 13) (o := { dst := some 20, op := Op.pick (Operand.tmp 12) (Operand.tmp 19) (Operand.const (Value.bool false)), type := 4, pos := "morphism.go:93", after := #[aD 5, aD 12], guard := none }) (by rfl) (fun K hK => ?_)
  cases g1 with
  | false =>
   refine event_step (v := .bool (false && g2)) (w1 := w') rfl ?_ ?_
   ·first | (go_simp; done) | (go_simp; rfl)
   refine hK _ _ ⟨_, _, _, _, _, _, _, _, _, _, _, _, _, _, _, _, _, _, _, _, _, _, _, _, rfl, rfl, sb⟩
  | true =>
   refine event_step (v := .bool (true && g2)) (w1 := w') rfl ?_ ?_
   ·first | (go_simp; done) | (go_simp; rfl)
   refine hK _ _ ⟨_, _, _, _, _, _, _, _, _, _, _, _, _, _, _, _, _, _, _, _, _, _, _, _, rfl, rfl, sb⟩
 ·-- 14
  obtain rfl : y14 = false := need_not hr
  obtain rfl : y13 = true := need (j := 13) hr rfl (by decide)
  clear hr
  refine wpOp_step (i := 14) (o := { dst := some 21, op := Op.move (Operand.tmp 20), type := 4, pos := "morphism.go:93", after := #[aD 13, { on := 8, ground := Ground.chain }], guard := none }) (by rfl) (fun K hK => ?_)
  refine event_step (v := .bool (g1 && g2)) (w1 := w') rfl ?_ ?_
  ·first | (go_simp; done) | (go_simp; rfl)
  refine hK _ _ ⟨_, _, _, _, _, _, _, _, _, _, _, _, _, _, _, _, _, _, _, _, _, _, _, _, rfl, rfl, sb⟩
 ·-- 15
  obtain rfl : y15 = false := need_not hr
  obtain rfl : y14 = true := need (j := 14) hr rfl (by decide)
  clear hr
  refine wpOp_step (i := 15) (o := { dst := some 22, op := Op.fieldAddr 27 (Operand.tmp 5) 1, type := 0, pos := "morphism.go:93", after := #[aG 14], guard := some (14, true) }) (by rfl) (fun K hK => ?_)
  cases g1 with
  | false =>
   refine off_ (N := some 22) rfl ?_
   refine hK _ _ ⟨_, _, _, _, _, _, _, _, _, _, _, _, _, _, _, _, _, _, _, _, _, _, _, _, rfl, rfl, sb⟩
  | true =>
   cases g2 with
   | false =>
    refine off_ (N := some 22) rfl ?_
    refine hK _ _ ⟨_, _, _, _, _, _, _, _, _, _, _, _, _, _, _, _, _, _, _, _, _, _, _, _, rfl, rfl, sb⟩
   | true =>
    refine event_step (v := .pointer (some ⟨B5, 1, none⟩)) (w1 := w') rfl ?_ ?_
    ·first | (go_simp; done) | (go_simp; rfl)
    refine hK _ _ ⟨_, _, _, _, _, _, _, _, _, _, _, _, _, _, _, _, _, _, _, _, _, _, _, _, rfl, rfl, sb⟩
 ·-- 16
  obtain rfl : y16 = false := need_not hr
  obtain rfl : y14 = true := need (j := 14) hr rfl (by decide)
  obtain rfl : y15 = true := need (j := 15) hr rfl (by decide)
  clear hr
  have hx0 := (BZ.below sb.get).c0
  have hx1 := (BZ.below sb.get).c1
  refine wpOp_step (i := 16) (o := { dst := some 23, op := Op.load 22 (Operand.tmp 22), type := 22, pos := "morphism.go:93", after := #[aD 15, aG 14], guard := some (14, true) }) (by rfl) (fun K hK => ?_)
  cases g1 with
  | false =>
   refine off_ (N := some 23) rfl ?_
   refine hK _ _ ⟨_, _, _, _, _, _, _, _, _, _, _, _, _, _, _, _, _, _, _, _, _, _, _, _, rfl, rfl, sb⟩
  | true =>
   cases g2 with
   | false =>
    refine off_ (N := some 23) rfl ?_
    refine hK _ _ ⟨_, _, _, _, _, _, _, _, _, _, _, _, _, _, _, _, _, _, _, _, _, _, _, _, rfl, rfl, sb⟩
   | true =>
    refine event_step (v := .slice A5 m.length c5) (w1 := w') rfl ?_ ?_
    ·first | (go_simp; done) | (go_simp; rfl)
    refine hK _ _ ⟨_, _, _, _, _, _, _, _, _, _, _, _, _, _, _, _, _, _, _, _, _, _, _, _, rfl, rfl, sb⟩
 ·-- 17
  obtain rfl : y17 = false := need_not hr
  obtain rfl : y14 = true := need (j := 14) hr rfl (by decide)
  obtain rfl : y16 = true := need (j := 16) hr rfl (by decide)
  clear hr
  refine wpOp_step (i := 17) (o := { dst := some 24, op := Op.call { callee := Callee.value (Operand.func 75), args := #[Operand.tmp 23], argTypes := #[22] }, type := 3, pos := "morphism.go:93", after := #[aD 16, { on := 14, ground := Ground.chain }, aG 14], guard := some (14, true) }) (by rfl) (fun K hK => ?_)
  cases g1 with
  | false =>
   refine off_ (N := some 24) rfl ?_
   refine hK _ _ ⟨_, _, _, _, _, _, _, _, _, _, _, _, _, _, _, _, _, _, _, _, _, _, _, _, rfl, rfl, sb⟩
  | true =>
   cases g2 with
   | false =>
    refine off_ (N := some 24) rfl ?_
    refine hK _ _ ⟨_, _, _, _, _, _, _, _, _, _, _, _, _, _, _, _, _, _, _, _, _, _, _, _, rfl, rfl, sb⟩
   | true =>
    refine goes_ Try.func75 (by kernel_rfl) rfl #[.slice A5 m.length c5] (by rfl) rfl rfl (by (try simp only [List.map_toArray, List.map_cons, List.map_nil]); first | done | rfl) ?_
    refine (images_calls _ _ m _ (R5.below sb.get).at_ R5.cap (hm rfl)).mono ?_
    rintro e w1 ⟨rfl, hb⟩
    refine ⟨_, rfl, ?_⟩
    refine hK _ _ ⟨_, _, _, _, _, _, _, _, _, _, _, _, _, _, _, _, _, _, _, _, _, _, _, _, rfl, rfl, sb.step hb⟩
 ·-- 18
  obtain rfl : y18 = false := need_not hr
  obtain rfl : y14 = true := need (j := 14) hr rfl (by decide)
  clear hr
  refine wpOp_step (i := 18) (o := { dst := some 25, op := Op.fieldAddr 27 (Operand.tmp 5) 1, type := 0, pos := "morphism.go:93", after := #[aG 14], guard := some (14, true) }) (by rfl) (fun K hK => ?_)
  cases g1 with
  | false =>
   refine off_ (N := some 25) rfl ?_
   refine hK _ _ ⟨_, _, _, _, _, _, _, _, _, _, _, _, _, _, _, _, _, _, _, _, _, _, _, _, rfl, rfl, sb⟩
  | true =>
   cases g2 with
   | false =>
    refine off_ (N := some 25) rfl ?_
    refine hK _ _ ⟨_, _, _, _, _, _, _, _, _, _, _, _, _, _, _, _, _, _, _, _, _, _, _, _, rfl, rfl, sb⟩
   | true =>
    refine event_step (v := .pointer (some ⟨B5, 1, none⟩)) (w1 := w') rfl ?_ ?_
    ·first | (go_simp; done) | (go_simp; rfl)
    refine hK _ _ ⟨_, _, _, _, _, _, _, _, _, _, _, _, _, _, _, _, _, _, _, _, _, _, _, _, rfl, rfl, sb⟩
 ·-- 19
  obtain rfl : y19 = false := need_not hr
  obtain rfl : y14 = true := need (j := 14) hr rfl (by decide)
  obtain rfl : y18 = true := need (j := 18) hr rfl (by decide)
  clear hr
  have hx0 := (BZ.below sb.get).c0
  have hx1 := (BZ.below sb.get).c1
  refine wpOp_step (i := 19) (o := { dst := some 26, op := Op.load 22 (Operand.tmp 25), type := 22, pos := "morphism.go:93", after := #[aD 18, aG 14], guard := some (14, true) }) (by rfl) (fun K hK => ?_)
  cases g1 with
  | false =>
   refine off_ (N := some 26) rfl ?_
   refine hK _ _ ⟨_, _, _, _, _, _, _, _, _, _, _, _, _, _, _, _, _, _, _, _, _, _, _, _, rfl, rfl, sb⟩
  | true =>
   cases g2 with
   | false =>
    refine off_ (N := some 26) rfl ?_
    refine hK _ _ ⟨_, _, _, _, _, _, _, _, _, _, _, _, _, _, _, _, _, _, _, _, _, _, _, _, rfl, rfl, sb⟩
   | true =>
    refine event_step (v := .slice A5 m.length c5) (w1 := w') rfl ?_ ?_
    ·first | (go_simp; done) | (go_simp; rfl)
    refine hK _ _ ⟨_, _, _, _, _, _, _, _, _, _, _, _, _, _, _, _, _, _, _, _, _, _, _, _, rfl, rfl, sb⟩
 ·-- 20
  obtain rfl : y20 = false := need_not hr
  obtain rfl : y14 = true := need (j := 14) hr rfl (by decide)
  obtain rfl : y19 = true := need (j := 19) hr rfl (by decide)
  clear hr
  refine wpOp_step (i := 20) (o := { dst := some 27, op := Op.call { callee := Callee.builtin Builtin.len, args := #[Operand.tmp 26], argTypes := #[22] }, type := 3, pos := "morphism.go:93", after := #[aD 19, aG 14], guard := some (14, true) }) (by rfl) (fun K hK => ?_)
  cases g1 with
  | false =>
   refine off_ (N := some 27) rfl ?_
   refine hK _ _ ⟨_, _, _, _, _, _, _, _, _, _, _, _, _, _, _, _, _, _, _, _, _, _, _, _, rfl, rfl, sb⟩
  | true =>
   cases g2 with
   | false =>
    refine off_ (N := some 27) rfl ?_
    refine hK _ _ ⟨_, _, _, _, _, _, _, _, _, _, _, _, _, _, _, _, _, _, _, _, _, _, _, _, rfl, rfl, sb⟩
   | true =>
    refine event_step (v := .int .i64 (m.length : Int)) (w1 := w') rfl ?_ ?_
    ·first | (go_simp; done) | (go_simp; rfl)
    refine hK _ _ ⟨_, _, _, _, _, _, _, _, _, _, _, _, _, _, _, _, _, _, _, _, _, _, _, _, rfl, rfl, sb⟩
 ·-- 21
  obtain rfl : y21 = false := need_not hr
  obtain rfl : y14 = true := need (j := 14) hr rfl (by decide)
  obtain rfl : y17 = true := need (j := 17) hr rfl (by decide)
  obtain rfl : y20 = true := need (j := 20) hr rfl (by decide)
  clear hr
  refine wpOp_step (i := 21) (o := { dst := some 28, op := Op.binOp BinOp.eql 3 (Operand.tmp 24) (Operand.tmp 27) 3, type := 4, pos := "morphism.go:93", after := #[aD 17, aD 20, aG 14], guard := some (14, true) }) (by rfl) (fun K hK => ?_)
  cases g1 with
  | false =>
   refine off_ (N := some 28) rfl ?_
   refine hK _ _ ⟨_, _, _, _, _, _, _, _, _, _, _, _, _, _, _, _, _, _, _, _, _, _, _, _, rfl, rfl, sb⟩
  | true =>
   cases g2 with
   | false =>
    refine off_ (N := some 28) rfl ?_
    refine hK _ _ ⟨_, _, _, _, _, _, _, _, _, _, _, _, _, _, _, _, _, _, _, _, _, _, _, _, rfl, rfl, sb⟩
   | true =>
    have hd3 := h3 rfl
    have hb3 : (nd m == (m.length : Int)) = g3 := hd3
    refine event_step (v := .bool g3) (w1 := w') rfl ?_ ?_
    ·first | (go_simp; done) | (go_simp; rfl)
    refine hK _ _ ⟨_, _, _, _, _, _, _, _, _, _, _, _, _, _, _, _, _, _, _, _, _, _, _, _, rfl, rfl, sb⟩
 ·-- 22
  obtain rfl : y22 = false := need_not hr
  obtain rfl : y14 = true := need (j := 14) hr rfl (by decide)
  obtain rfl : y21 = true := need (j := 21) hr rfl (by decide)
  clear hr
  refine wpOp_step (i := 22) (o := { dst := some 29, op := Op.pick (Operand.tmp 21) (Operand.tmp 28) (Operand.const (Value.bool false)), type := 4, pos := "morphism.go:93", after := #[aD 14, aD 21], guard := none }) (by rfl) (fun K hK => ?_)
  cases g1 with
  | false =>
   refine event_step (v := .bool (false && g2 && g3)) (w1 := w') rfl ?_ ?_
   ·first | (go_simp; done) | (go_simp; rfl)
   refine hK _ _ ⟨_, _, _, _, _, _, _, _, _, _, _, _, _, _, _, _, _, _, _, _, _, _, _, _, rfl, rfl, sb⟩
  | true =>
   cases g2 with
   | false =>
    refine event_step (v := .bool (true && false && g3)) (w1 := w') rfl ?_ ?_
    ·first | (go_simp; done) | (go_simp; rfl)
    refine hK _ _ ⟨_, _, _, _, _, _, _, _, _, _, _, _, _, _, _, _, _, _, _, _, _, _, _, _, rfl, rfl, sb⟩
   | true =>
    refine event_step (v := .bool (true && true && g3)) (w1 := w') rfl ?_ ?_
    ·first | (go_simp; done) | (go_simp; rfl)
    refine hK _ _ ⟨_, _, _, _, _, _, _, _, _, _, _, _, _, _, _, _, _, _, _, _, _, _, _, _, rfl, rfl, sb⟩
 ·-- 23
  obtain rfl : y23 = false := need_not hr
  obtain rfl : y22 = true := need (j := 22) hr rfl (by decide)
  clear hr
  refine wpOp_step (i := 23) (o := { dst := some 6, op := Op.assign (Operand.tmp 29), type := 4, pos := "morphism.go:93", after := #[aD 22, { on := 17, ground := Ground.chain }, aP 0, aP 1, aP 2, aP 3, aP 4, aP 5, aP 6, aP 7, aP 8, aP 9, aP 10, aP 11, aP 12, aP 13, aP 14, aP 15, aP 16, aP 17, aP 18, aP 19, aP 20, aP 21, aP 22], guard := none }) (by rfl) (fun K hK => ?_)
  refine event_step (v := .bool (g1 && g2 && g3)) (w1 := w') rfl ?_ ?_
  ·first | (go_simp; done) | (go_simp; rfl)
  refine hK _ _ ⟨_, _, _, _, _, _, _, _, _, _, _, _, _, _, _, _, _, _, _, _, _, _, _, _, rfl, rfl, sb⟩
set_option maxHeartbeats 4000000 in
set_option maxRecDepth 100000 in
theorem walk47 (A0 : Option Addr) (c0 : Nat) (a0 : List Int) (A1 : Option Addr) (c1 : Nat) (a1 : List S94) (A2 : Option Addr) (c2 : Nat) (b0 : List Int) (A3 : Option Addr) (c3 : Nat) (b1 : List S94) (A4 : Option Addr) (c4 : Nat) (n : List Int) (A5 : Option Addr) (c5 : Nat) (m : List Int) (w : World) (R0 : Row (Kd.int .i64) w A0 c0 a0) (R1 : Row k94 w A1 c1 a1) (R2 : Row (Kd.int .i64) w A2 c2 b0) (R3 : Row k94 w A3 c3 b1) (R4 : Row (Kd.int .i64) w A4 c4 n) (R5 : Row (Kd.int .i64) w A5 c5 m) (g1 g2 g3 : Bool)
  (h1 : decide ((mvalid a0 a1 b0 b1 n m) = 0) = g1) (h2 : g1 = true → decide (nd n = (n.length : Int)) = g2) (h3 : (g1 && g2) = true → decide (nd m = (m.length : Int)) = g3) (hn : g1 = true → n.length ≤ 1000000) (hm : g1 = true → m.length ≤ 1000000) :
  Calls Try.prog 47 #[.agg #[.slice A0 a0.length c0, .slice A1 a1.length c1], .agg #[.slice A2 b0.length c2, .slice A3 b1.length c3], .agg #[.slice A4 n.length c4, .slice A5 m.length c5]] w fun e w' => e = .returned (.bool (g1 && g2 && g3)) ∧ Below w.heap.size w w' := by
 have SB := Since.refl w
 have hu25 := Try.underlying25
 have hu27 := Try.underlying27
 go_enter Try.func47, Try.ntmps47
 go_upto_region 1 with fail
 obtain ⟨BX, BY, BZ, hb⟩ := tri_new w (.slice A0 a0.length c0) (.slice A1 a1.length c1) 25 (.slice A2 b0.length c2) (.slice A3 b1.length c3) 25 (.slice A4 n.length c4) (.slice A5 m.length c5) 27
 replace R0 := R0.below hb
 replace R1 := R1.below hb
 replace R2 := R2.below hb
 replace R3 := R3.below hb
 replace R4 := R4.below hb
 replace R5 := R5.below hb
 replace SB := SB.step hb
 clear hb
 generalize hw : (((w.alloc (.cells #[.slice A0 a0.length c0, .slice A1 a1.length c1] 25)).alloc (.cells #[.slice A2 b0.length c2, .slice A3 b1.length c3] 25)).alloc (.cells #[.slice A4 n.length c4, .slice A5 m.length c5] 27)) = w0 at *
 clear hw
 refine drawn_ (J47 w0 w.heap.size (w.heap.size + 1) (w.heap.size + 2) A0 c0 a0 A1 c1 a1 A2 c2 b0 A3 c3 b1 A4 c4 n A5 c5 m g1 g2 g3) T47 tab47 (by kernel_rfl) ?_ (J47_step w0 w.heap.size (w.heap.size + 1) (w.heap.size + 2) A0 c0 a0 A1 c1 a1 A2 c2 b0 A3 c3 b1 A4 c4 n A5 c5 m g1 g2 g3 BX BY BZ R0 R1 R2 R3 R4 R5 h1 h2 h3 hn hm) ?_
 ·exact ⟨false, false, false, false, false, false, false, false, false, false, false, false, false, false, false, false, false, false, false, false, false, false, false, false, rfl, rfl, ⟨below_drew1 (Below.refl _ _)⟩⟩
 rintro l a wd ⟨y0, y1, y2, y3, y4, y5, y6, y7, y8, y9, y10, y11, y12, y13, y14, y15, y16, y17, y18, y19, y20, y21, y22, y23, rfl, rfl, sb⟩ _ hr
 obtain rfl : y0 = true := all_done hr 0 rfl rfl
 obtain rfl : y1 = true := all_done hr 1 rfl rfl
 obtain rfl : y2 = true := all_done hr 2 rfl rfl
 obtain rfl : y3 = true := all_done hr 3 rfl rfl
 obtain rfl : y4 = true := all_done hr 4 rfl rfl
 obtain rfl : y5 = true := all_done hr 5 rfl rfl
 obtain rfl : y6 = true := all_done hr 6 rfl rfl
 obtain rfl : y7 = true := all_done hr 7 rfl rfl
 obtain rfl : y8 = true := all_done hr 8 rfl rfl
 obtain rfl : y9 = true := all_done hr 9 rfl rfl
 obtain rfl : y10 = true := all_done hr 10 rfl rfl
 obtain rfl : y11 = true := all_done hr 11 rfl rfl
 obtain rfl : y12 = true := all_done hr 12 rfl rfl
 obtain rfl : y13 = true := all_done hr 13 rfl rfl
 obtain rfl : y14 = true := all_done hr 14 rfl rfl
 obtain rfl : y15 = true := all_done hr 15 rfl rfl
 obtain rfl : y16 = true := all_done hr 16 rfl rfl
 obtain rfl : y17 = true := all_done hr 17 rfl rfl
 obtain rfl : y18 = true := all_done hr 18 rfl rfl
 obtain rfl : y19 = true := all_done hr 19 rfl rfl
 obtain rfl : y20 = true := all_done hr 20 rfl rfl
 obtain rfl : y21 = true := all_done hr 21 rfl rfl
 obtain rfl : y22 = true := all_done hr 22 rfl rfl
 obtain rfl : y23 = true := all_done hr 23 rfl rfl
 clear hr
 simp only [cond_true]
 go_wp2_with fail
 go_ret
 exact ⟨rfl, below_step SB.get sb.get⟩
theorem tab48 : rtab .any (opsOf Try.f48 1) = T47 := by kernel_rfl
def J48 (W0 : World) (B3 B4 B5 : Nat) (A0 : Option Addr) (c0 : Nat) (a0 : List Int) (A1 : Option Addr) (c1 : Nat) (a1 : List S94) (A2 : Option Addr) (c2 : Nat) (b0 : List Int) (A3 : Option Addr) (c3 : Nat) (b1 : List S94) (A4 : Option Addr) (c4 : Nat) (n : List Int) (A5 : Option Addr) (c5 : Nat) (m : List Int) (g1 g2 g3 : Bool) (l : List Bool) (a : Act) (w' : World) : Prop :=
 ∃ (y0 y1 y2 y3 y4 y5 y6 y7 y8 y9 y10 y11 y12 y13 y14 y15 y16 y17 y18 y19 y20 y21 y22 y23 : Bool), l = [y0, y1, y2, y3, y4, y5, y6, y7, y8, y9, y10, y11, y12, y13, y14, y15, y16, y17, y18, y19, y20, y21, y22, y23] ∧ a = ⟨#[.agg #[.slice A0 a0.length c0, .slice A1 a1.length c1], .agg #[.slice A2 b0.length c2, .slice A3 b1.length c3], .agg #[.slice A4 n.length c4, .slice A5 m.length c5], .pointer (some ⟨B3, 0, none⟩), .pointer (some ⟨B4, 0, none⟩), .pointer (some ⟨B5, 0, none⟩), (cond y23 (.bool (g1 && g2 && g3)) (.bool false)), (cond y0 (.agg #[.slice A0 a0.length c0, .slice A1 a1.length c1]) (undef)), (cond y1 (.agg #[.slice A2 b0.length c2, .slice A3 b1.length c3]) (undef)), (cond y2 (.agg #[.slice A4 n.length c4, .slice A5 m.length c5]) (undef)), (cond y3 (.int .i64 (mvalid a0 a1 b0 b1 n m)) (undef)), (cond y4 (.bool g1) (undef)), (cond y5 (.bool g1) (undef)), (cond y6 (cond g1 (.pointer (some ⟨B5, 0, none⟩)) undef) (undef)), (cond y7 (cond g1 (.slice A4 n.length c4) undef) (undef)), (cond y8 (cond g1 (.int .i64 (nd n)) undef) (undef)), (cond y9 (cond g1 (.pointer (some ⟨B4, 0, none⟩)) undef) (undef)), (cond y10 (cond g1 (.slice A2 b0.length c2) undef) (undef)), (cond y11 (cond g1 (.int .i64 (b0.length : Int)) undef) (undef)), (cond y12 (cond g1 (.bool g2) undef) (undef)), (cond y13 (.bool (g1 && g2)) (undef)), (cond y14 (.bool (g1 && g2)) (undef)), (cond y15 (cond (g1 && g2) (.pointer (some ⟨B5, 1, none⟩)) undef) (undef)), (cond y16 (cond (g1 && g2) (.slice A5 m.length c5) undef) (undef)), (cond y17 (cond (g1 && g2) (.int .i64 (nd m)) undef) (undef)), (cond y18 (cond (g1 && g2) (.pointer (some ⟨B4, 1, none⟩)) undef) (undef)), (cond y19 (cond (g1 && g2) (.slice A3 b1.length c3) undef) (undef)), (cond y20 (cond (g1 && g2) (.int .i64 (b1.length : Int)) undef) (undef)), (cond y21 (cond (g1 && g2) (.bool g3) undef) (undef)), (cond y22 (.bool (g1 && g2 && g3)) (undef))], []⟩ ∧ Since W0 w'
set_option maxRecDepth 100000 in
set_option maxHeartbeats 4000000 in
theorem J48_step (W0 : World) (B3 B4 B5 : Nat) (A0 : Option Addr) (c0 : Nat) (a0 : List Int) (A1 : Option Addr) (c1 : Nat) (a1 : List S94) (A2 : Option Addr) (c2 : Nat) (b0 : List Int) (A3 : Option Addr) (c3 : Nat) (b1 : List S94) (A4 : Option Addr) (c4 : Nat) (n : List Int) (A5 : Option Addr) (c5 : Nat) (m : List Int) (g1 g2 g3 : Bool) (BX : Box2 W0 B3 25 (.slice A0 a0.length c0) (.slice A1 a1.length c1)) (BY : Box2 W0 B4 25 (.slice A2 b0.length c2) (.slice A3 b1.length c3)) (BZ : Box2 W0 B5 27 (.slice A4 n.length c4) (.slice A5 m.length c5))
  (R0 : Row (Kd.int .i64) W0 A0 c0 a0) (R1 : Row k94 W0 A1 c1 a1) (R2 : Row (Kd.int .i64) W0 A2 c2 b0) (R3 : Row k94 W0 A3 c3 b1) (R4 : Row (Kd.int .i64) W0 A4 c4 n) (R5 : Row (Kd.int .i64) W0 A5 c5 m)
  (h1 : decide ((mvalid a0 a1 b0 b1 n m) = 0) = g1) (h2 : g1 = true → decide (nd n = (b0.length : Int)) = g2) (h3 : (g1 && g2) = true → decide (nd m = (b1.length : Int)) = g3) (hn : g1 = true → n.length ≤ 1000000) (hm : g1 = true → m.length ≤ 1000000)
  {Q_ : Exit → Act → World → Prop} : ∀ l a w' i, J48 W0 B3 B4 B5 A0 c0 a0 A1 c1 a1 A2 c2 b0 A3 c3 b1 A4 c4 n A5 c5 m g1 g2 g3 l a w' → l.length = (opsOf Try.f48 1).size → readyAt T47.2 l i = true → i < T47.2.length → wpOp Try.prog (opsOf Try.f48 1) Q_ i (fun a' w'' => J48 W0 B3 B4 B5 A0 c0 a0 A1 c1 a1 A2 c2 b0 A3 c3 b1 A4 c4 n A5 c5 m g1 g2 g3 (l.set i true) a' w'') a w' := by
 rintro l a w' i ⟨y0, y1, y2, y3, y4, y5, y6, y7, y8, y9, y10, y11, y12, y13, y14, y15, y16, y17, y18, y19, y20, y21, y22, y23, rfl, rfl, sb⟩ _ hr hi
 have hu25 := Try.underlying25
 have hu27 := Try.underlying27
 replace hi : i < 24 := hi
 have hcase : i = 0 ∨ i = 1 ∨ i = 2 ∨ i = 3 ∨ i = 4 ∨ i = 5 ∨ i = 6 ∨ i = 7 ∨ i = 8 ∨ i = 9 ∨ i = 10 ∨ i = 11 ∨ i = 12 ∨ i = 13 ∨ i = 14 ∨ i = 15 ∨ i = 16 ∨ i = 17 ∨ i = 18 ∨ i = 19 ∨ i = 20 ∨ i = 21 ∨ i = 22 ∨ i = 23 := by omega
 rcases hcase with rfl | rfl | rfl | rfl | rfl | rfl | rfl | rfl | rfl | rfl | rfl | rfl | rfl | rfl | rfl | rfl | rfl | rfl | rfl | rfl | rfl | rfl | rfl | rfl
 ·-- 0
  obtain rfl : y0 = false := need_not hr
  clear hr
  have hx0 := (BX.below sb.get).c0
  have hx1 := (BX.below sb.get).c1
  refine wpOp_step (i := 0) (o := { dst := some 7, op := Op.load 25 (Operand.tmp 3), type := 25, pos := "morphism.go:98", after := #[], guard := none }) (by rfl) (fun K hK => ?_)
  refine event_step (v := .agg #[.slice A0 a0.length c0, .slice A1 a1.length c1]) (w1 := w') rfl ?_ ?_
  ·first | (go_simp; done) | (go_simp; rfl)
  refine hK _ _ ⟨_, _, _, _, _, _, _, _, _, _, _, _, _, _, _, _, _, _, _, _, _, _, _, _, rfl, rfl, sb⟩
 ·-- 1
  obtain rfl : y1 = false := need_not hr
  clear hr
  have hx0 := (BY.below sb.get).c0
  have hx1 := (BY.below sb.get).c1
  refine wpOp_step (i := 1) (o := { dst := some 8, op := Op.load 25 (Operand.tmp 4), type := 25, pos := "morphism.go:98", after := #[], guard := none }) (by rfl) (fun K hK => ?_)
  refine event_step (v := .agg #[.slice A2 b0.length c2, .slice A3 b1.length c3]) (w1 := w') rfl ?_ ?_
  ·first | (go_simp; done) | (go_simp; rfl)
  refine hK _ _ ⟨_, _, _, _, _, _, _, _, _, _, _, _, _, _, _, _, _, _, _, _, _, _, _, _, rfl, rfl, sb⟩
 ·-- 2
  obtain rfl : y2 = false := need_not hr
  clear hr
  have hx0 := (BZ.below sb.get).c0
  have hx1 := (BZ.below sb.get).c1
  refine wpOp_step (i := 2) (o := { dst := some 9, op := Op.load 27 (Operand.tmp 5), type := 27, pos := "morphism.go:98", after := #[], guard := none }) (by rfl) (fun K hK => ?_)
  refine event_step (v := .agg #[.slice A4 n.length c4, .slice A5 m.length c5]) (w1 := w') rfl ?_ ?_
  ·first | (go_simp; done) | (go_simp; rfl)
  refine hK _ _ ⟨_, _, _, _, _, _, _, _, _, _, _, _, _, _, _, _, _, _, _, _, _, _, _, _, rfl, rfl, sb⟩
 ·-- 3
  obtain rfl : y3 = false := need_not hr
  obtain rfl : y0 = true := need (j := 0) hr rfl (by decide)
  obtain rfl : y1 = true := need (j := 1) hr rfl (by decide)
  obtain rfl : y2 = true := need (j := 2) hr rfl (by decide)
  clear hr
  refine wpOp_step (i := 3) (o := { dst := some 10, op := Op.call { callee := Callee.value (Operand.func 42), args := #[Operand.tmp 7, Operand.tmp 8, Operand.tmp 9], argTypes := #[25, 25, 27] }, type := 34, pos := "morphism.go:98", after := #[aD 0, aD 1, aD 2], guard := none }) (by rfl) (fun K hK => ?_)
  refine goes_ Try.func42 (by kernel_rfl) rfl #[.agg #[.slice A0 a0.length c0, .slice A1 a1.length c1], .agg #[.slice A2 b0.length c2, .slice A3 b1.length c3], .agg #[.slice A4 n.length c4, .slice A5 m.length c5]] (by rfl) rfl rfl (by (try simp only [List.map_toArray, List.map_cons, List.map_nil]); first | done | rfl) ?_
  refine (morphism_Valid.calls _ _ a0 _ _ a1 _ _ b0 _ _ b1 _ _ n _ _ m (mvalid a0 a1 b0 b1 n m) _ (R0.below sb.get).at_ R0.cap (R1.below sb.get).at_ R1.cap (R2.below sb.get).at_ R2.cap (R3.below sb.get).at_ R3.cap (R4.below sb.get).at_ R4.cap (R5.below sb.get).at_ R5.cap rfl).mono ?_
  rintro e w1 ⟨rfl, hb⟩
  refine ⟨_, rfl, ?_⟩
  refine hK _ _ ⟨_, _, _, _, _, _, _, _, _, _, _, _, _, _, _, _, _, _, _, _, _, _, _, _, rfl, rfl, sb.step hb⟩
 ·-- 4
  obtain rfl : y4 = false := need_not hr
  obtain rfl : y3 = true := need (j := 3) hr rfl (by decide)
  clear hr
  refine wpOp_step (i := 4) (o := { dst := some 11, op := Op.binOp BinOp.eql 34 (Operand.tmp 10) (Operand.const (Value.int IntKind.i64 0)) 34, type := 4, pos := "morphism.go:98", after := #[aD 3], guard := none }) (by rfl) (fun K hK => ?_)
  have hb1 : ((mvalid a0 a1 b0 b1 n m) == 0) = g1 := h1
  refine event_step (v := .bool g1) (w1 := w') rfl ?_ ?_
  ·first | (go_simp; done) | (go_simp; rfl)
  refine hK _ _ ⟨_, _, _, _, _, _, _, _, _, _, _, _, _, _, _, _, _, _, _, _, _, _, _, _, rfl, rfl, sb⟩
 ·-- 5
  obtain rfl : y5 = false := need_not hr
  obtain rfl : y4 = true := need (j := 4) hr rfl (by decide)
  clear hr
  refine wpOp_step (i := 5) (o := { dst := some 12, op := Op.move (Operand.tmp 11), type := 4, pos := "morphism.go:98", after := #[aD 4, { on := 3, ground := Ground.chain }], guard := none }) (by rfl) (fun K hK => ?_)
  refine event_step (v := .bool g1) (w1 := w') rfl ?_ ?_
  ·first | (go_simp; done) | (go_simp; rfl)
  refine hK _ _ ⟨_, _, _, _, _, _, _, _, _, _, _, _, _, _, _, _, _, _, _, _, _, _, _, _, rfl, rfl, sb⟩
 ·-- 6
  obtain rfl : y6 = false := need_not hr
  obtain rfl : y5 = true := need (j := 5) hr rfl (by decide)
  clear hr
  refine wpOp_step (i := 6) (o := { dst := some 13, op := Op.fieldAddr 27 (Operand.tmp 5) 0, type := 0, pos := "morphism.go:98", after := #[aG 5], guard := some (5, true) }) (by rfl) (fun K hK => ?_)
  cases g1 with
  | false =>
   refine off_ (N := some 13) rfl ?_
   refine hK _ _ ⟨_, _, _, _, _, _, _, _, _, _, _, _, _, _, _, _, _, _, _, _, _, _, _, _, rfl, rfl, sb⟩
  | true =>
   refine event_step (v := .pointer (some ⟨B5, 0, none⟩)) (w1 := w') rfl ?_ ?_
   ·first | (go_simp; done) | (go_simp; rfl)
   refine hK _ _ ⟨_, _, _, _, _, _, _, _, _, _, _, _, _, _, _, _, _, _, _, _, _, _, _, _, rfl, rfl, sb⟩
 ·-- 7
  obtain rfl : y7 = false := need_not hr
  obtain rfl : y5 = true := need (j := 5) hr rfl (by decide)
  obtain rfl : y6 = true := need (j := 6) hr rfl (by decide)
  clear hr
  have hx0 := (BZ.below sb.get).c0
  have hx1 := (BZ.below sb.get).c1
  refine wpOp_step (i := 7) (o := { dst := some 14, op := Op.load 22 (Operand.tmp 13), type := 22, pos := "morphism.go:98", after := #[aD 6, aG 5], guard := some (5, true) }) (by rfl) (fun K hK => ?_)
  cases g1 with
  | false =>
   refine off_ (N := some 14) rfl ?_
   refine hK _ _ ⟨_, _, _, _, _, _, _, _, _, _, _, _, _, _, _, _, _, _, _, _, _, _, _, _, rfl, rfl, sb⟩
  | true =>
   refine event_step (v := .slice A4 n.length c4) (w1 := w') rfl ?_ ?_
   ·first | (go_simp; done) | (go_simp; rfl)
   refine hK _ _ ⟨_, _, _, _, _, _, _, _, _, _, _, _, _, _, _, _, _, _, _, _, _, _, _, _, rfl, rfl, sb⟩
 ·-- 8
  obtain rfl : y8 = false := need_not hr
  obtain rfl : y5 = true := need (j := 5) hr rfl (by decide)
  obtain rfl : y7 = true := need (j := 7) hr rfl (by decide)
  clear hr
  refine wpOp_step (i := 8) (o := { dst := some 15, op := Op.call { callee := Callee.value (Operand.func 75), args := #[Operand.tmp 14], argTypes := #[22] }, type := 3, pos := "morphism.go:98", after := #[aD 7, { on := 5, ground := Ground.chain }, aG 5], guard := some (5, true) }) (by rfl) (fun K hK => ?_)
  cases g1 with
  | false =>
   refine off_ (N := some 15) rfl ?_
   refine hK _ _ ⟨_, _, _, _, _, _, _, _, _, _, _, _, _, _, _, _, _, _, _, _, _, _, _, _, rfl, rfl, sb⟩
  | true =>
   refine goes_ Try.func75 (by kernel_rfl) rfl #[.slice A4 n.length c4] (by rfl) rfl rfl (by (try simp only [List.map_toArray, List.map_cons, List.map_nil]); first | done | rfl) ?_
   refine (images_calls _ _ n _ (R4.below sb.get).at_ R4.cap (hn rfl)).mono ?_
   rintro e w1 ⟨rfl, hb⟩
   refine ⟨_, rfl, ?_⟩
   refine hK _ _ ⟨_, _, _, _, _, _, _, _, _, _, _, _, _, _, _, _, _, _, _, _, _, _, _, _, rfl, rfl, sb.step hb⟩
 ·-- 9
  obtain rfl : y9 = false := need_not hr
  obtain rfl : y5 = true := need (j := 5) hr rfl (by decide)
  clear hr
  refine wpOp_step (i := 9) (o := { dst := some 16, op := Op.fieldAddr 25 (Operand.tmp 4) 0, type := 0, pos := "morphism.go:98", after := #[aG 5], guard := some (5, true) }) (by rfl) (fun K hK => ?_)
  cases g1 with
  | false =>
   refine off_ (N := some 16) rfl ?_
   refine hK _ _ ⟨_, _, _, _, _, _, _, _, _, _, _, _, _, _, _, _, _, _, _, _, _, _, _, _, rfl, rfl, sb⟩
  | true =>
   refine event_step (v := .pointer (some ⟨B4, 0, none⟩)) (w1 := w') rfl ?_ ?_
   ·first | (go_simp; done) | (go_simp; rfl)
   refine hK _ _ ⟨_, _, _, _, _, _, _, _, _, _, _, _, _, _, _, _, _, _, _, _, _, _, _, _, rfl, rfl, sb⟩
 ·-- 10
  obtain rfl : y10 = false := need_not hr
  obtain rfl : y5 = true := need (j := 5) hr rfl (by decide)
  obtain rfl : y9 = true := need (j := 9) hr rfl (by decide)
  clear hr
  have hx0 := (BY.below sb.get).c0
  have hx1 := (BY.below sb.get).c1
  refine wpOp_step (i := 10) (o := { dst := some 17, op := Op.load 22 (Operand.tmp 16), type := 22, pos := "morphism.go:98", after := #[aD 9, aG 5], guard := some (5, true) }) (by rfl) (fun K hK => ?_)
  cases g1 with
  | false =>
   refine off_ (N := some 17) rfl ?_
   refine hK _ _ ⟨_, _, _, _, _, _, _, _, _, _, _, _, _, _, _, _, _, _, _, _, _, _, _, _, rfl, rfl, sb⟩
  | true =>
   refine event_step (v := .slice A2 b0.length c2) (w1 := w') rfl ?_ ?_
   ·first | (go_simp; done) | (go_simp; rfl)
   refine hK _ _ ⟨_, _, _, _, _, _, _, _, _, _, _, _, _, _, _, _, _, _, _, _, _, _, _, _, rfl, rfl, sb⟩
 ·-- 11
  obtain rfl : y11 = false := need_not hr
  obtain rfl : y5 = true := need (j := 5) hr rfl (by decide)
  obtain rfl : y10 = true := need (j := 10) hr rfl (by decide)
  clear hr
  refine wpOp_step (i := 11) (o := { dst := some 18, op := Op.call { callee := Callee.builtin Builtin.len, args := #[Operand.tmp 17], argTypes := #[22] }, type := 3, pos := "morphism.go:98", after := #[aD 10, aG 5], guard := some (5, true) }) (by rfl) (fun K hK => ?_)
  cases g1 with
  | false =>
   refine off_ (N := some 18) rfl ?_
   refine hK _ _ ⟨_, _, _, _, _, _, _, _, _, _, _, _, _, _, _, _, _, _, _, _, _, _, _, _, rfl, rfl, sb⟩
  | true =>
   refine event_step (v := .int .i64 (b0.length : Int)) (w1 := w') rfl ?_ ?_
   ·first | (go_simp; done) | (go_simp; rfl)
   refine hK _ _ ⟨_, _, _, _, _, _, _, _, _, _, _, _, _, _, _, _, _, _, _, _, _, _, _, _, rfl, rfl, sb⟩
 ·-- 12
  obtain rfl : y12 = false := need_not hr
  obtain rfl : y5 = true := need (j := 5) hr rfl (by decide)
  obtain rfl : y8 = true := need (j := 8) hr rfl (by decide)
  obtain rfl : y11 = true := need (j := 11) hr rfl (by decide)
  clear hr
  refine wpOp_step (i := 12) (o := { dst := some 19, op := Op.binOp BinOp.eql 3 (Operand.tmp 15) (Operand.tmp 18) 3, type := 4, pos := "morphism.go:98", after := #[aD 8, aD 11, aG 5], guard := some (5, true) }) (by rfl) (fun K hK => ?_)
  cases g1 with
  | false =>
   refine off_ (N := some 19) rfl ?_
   refine hK _ _ ⟨_, _, _, _, _, _, _, _, _, _, _, _, _, _, _, _, _, _, _, _, _, _, _, _, rfl, rfl, sb⟩
  | true =>
   have hd2 := h2 rfl
   have hb2 : (nd n == (b0.length : Int)) = g2 := hd2
   refine event_step (v := .bool g2) (w1 := w') rfl ?_ ?_
   ·first | (go_simp; done) | (go_simp; rfl)
   refine hK _ _ ⟨_, _, _, _, _, _, _, _, _, _, _, _, _, _, _, _, _, _, _, _, _, _, _, _, rfl, rfl, sb⟩
 ·-- 13
  obtain rfl : y13 = false := need_not hr
  obtain rfl : y5 = true := need (j := 5) hr rfl (by decide)
  obtain rfl : y12 = true := need (j := 12) hr rfl (by decide)
  clear hr
  refine wpOp_step (i := 13) (o := { dst := some 20, op := Op.pick (Operand.tmp 12) (Operand.tmp 19) (Operand.const (Value.bool false)), type := 4, pos := "morphism.go:98", after := #[aD 5, aD 12], guard := none }) (by rfl) (fun K hK => ?_)
  cases g1 with
  | false =>
   refine event_step (v := .bool (false && g2)) (w1 := w') rfl ?_ ?_
   ·first | (go_simp; done) | (go_simp; rfl)
   refine hK _ _ ⟨_, _, _, _, _, _, _, _, _, _, _, _, _, _, _, _, _, _, _, _, _, _, _, _, rfl, rfl, sb⟩
  | true =>
   refine event_step (v := .bool (true && g2)) (w1 := w') rfl ?_ ?_
   ·first | (go_simp; done) | (go_simp; rfl)
   refine hK _ _ ⟨_, _, _, _, _, _, _, _, _, _, _, _, _, _, _, _, _, _, _, _, _, _, _, _, rfl, rfl, sb⟩
 ·-- 14
  obtain rfl : y14 = false := need_not hr
  obtain rfl : y13 = true := need (j := 13) hr rfl (by decide)
  clear hr
  refine wpOp_step (i := 14) (o := { dst := some 21, op := Op.move (Operand.tmp 20), type := 4, pos := "morphism.go:98", after := #[aD 13, { on := 8, ground := Ground.chain }], guard := none }) (by rfl) (fun K hK => ?_)
  refine event_step (v := .bool (g1 && g2)) (w1 := w') rfl ?_ ?_
  ·first | (go_simp; done) | (go_simp; rfl)
  refine hK _ _ ⟨_, _, _, _, _, _, _, _, _, _, _, _, _, _, _, _, _, _, _, _, _, _, _, _, rfl, rfl, sb⟩
 ·-- 15
  obtain rfl : y15 = false := need_not hr
  obtain rfl : y14 = true := need (j := 14) hr rfl (by decide)
  clear hr
  refine wpOp_step (i := 15) (o := { dst := some 22, op := Op.fieldAddr 27 (Operand.tmp 5) 1, type := 0, pos := "morphism.go:98", after := #[aG 14], guard := some (14, true) }) (by rfl) (fun K hK => ?_)
  cases g1 with
  | false =>
   refine off_ (N := some 22) rfl ?_
   refine hK _ _ ⟨_, _, _, _, _, _, _, _, _, _, _, _, _, _, _, _, _, _, _, _, _, _, _, _, rfl, rfl, sb⟩
  | true =>
   cases g2 with
   | false =>
    refine off_ (N := some 22) rfl ?_
    refine hK _ _ ⟨_, _, _, _, _, _, _, _, _, _, _, _, _, _, _, _, _, _, _, _, _, _, _, _, rfl, rfl, sb⟩
   | true =>
    refine event_step (v := .pointer (some ⟨B5, 1, none⟩)) (w1 := w') rfl ?_ ?_
    ·first | (go_simp; done) | (go_simp; rfl)
    refine hK _ _ ⟨_, _, _, _, _, _, _, _, _, _, _, _, _, _, _, _, _, _, _, _, _, _, _, _, rfl, rfl, sb⟩
 ·-- 16
  obtain rfl : y16 = false := need_not hr
  obtain rfl : y14 = true := need (j := 14) hr rfl (by decide)
  obtain rfl : y15 = true := need (j := 15) hr rfl (by decide)
  clear hr
  have hx0 := (BZ.below sb.get).c0
  have hx1 := (BZ.below sb.get).c1
  refine wpOp_step (i := 16) (o := { dst := some 23, op := Op.load 22 (Operand.tmp 22), type := 22, pos := "morphism.go:98", after := #[aD 15, aG 14], guard := some (14, true) }) (by rfl) (fun K hK => ?_)
  cases g1 with
  | false =>
   refine off_ (N := some 23) rfl ?_
   refine hK _ _ ⟨_, _, _, _, _, _, _, _, _, _, _, _, _, _, _, _, _, _, _, _, _, _, _, _, rfl, rfl, sb⟩
  | true =>
   cases g2 with
   | false =>
    refine off_ (N := some 23) rfl ?_
    refine hK _ _ ⟨_, _, _, _, _, _, _, _, _, _, _, _, _, _, _, _, _, _, _, _, _, _, _, _, rfl, rfl, sb⟩
   | true =>
    refine event_step (v := .slice A5 m.length c5) (w1 := w') rfl ?_ ?_
    ·first | (go_simp; done) | (go_simp; rfl)
    refine hK _ _ ⟨_, _, _, _, _, _, _, _, _, _, _, _, _, _, _, _, _, _, _, _, _, _, _, _, rfl, rfl, sb⟩
 ·-- 17
  obtain rfl : y17 = false := need_not hr
  obtain rfl : y14 = true := need (j := 14) hr rfl (by decide)
  obtain rfl : y16 = true := need (j := 16) hr rfl (by decide)
  clear hr
  refine wpOp_step (i := 17) (o := { dst := some 24, op := Op.call { callee := Callee.value (Operand.func 75), args := #[Operand.tmp 23], argTypes := #[22] }, type := 3, pos := "morphism.go:98", after := #[aD 16, { on := 14, ground := Ground.chain }, aG 14], guard := some (14, true) }) (by rfl) (fun K hK => ?_)
  cases g1 with
  | false =>
   refine off_ (N := some 24) rfl ?_
   refine hK _ _ ⟨_, _, _, _, _, _, _, _, _, _, _, _, _, _, _, _, _, _, _, _, _, _, _, _, rfl, rfl, sb⟩
  | true =>
   cases g2 with
   | false =>
    refine off_ (N := some 24) rfl ?_
    refine hK _ _ ⟨_, _, _, _, _, _, _, _, _, _, _, _, _, _, _, _, _, _, _, _, _, _, _, _, rfl, rfl, sb⟩
   | true =>
    refine goes_ Try.func75 (by kernel_rfl) rfl #[.slice A5 m.length c5] (by rfl) rfl rfl (by (try simp only [List.map_toArray, List.map_cons, List.map_nil]); first | done | rfl) ?_
    refine (images_calls _ _ m _ (R5.below sb.get).at_ R5.cap (hm rfl)).mono ?_
    rintro e w1 ⟨rfl, hb⟩
    refine ⟨_, rfl, ?_⟩
    refine hK _ _ ⟨_, _, _, _, _, _, _, _, _, _, _, _, _, _, _, _, _, _, _, _, _, _, _, _, rfl, rfl, sb.step hb⟩
 ·-- 18
  obtain rfl : y18 = false := need_not hr
  obtain rfl : y14 = true := need (j := 14) hr rfl (by decide)
  clear hr
  refine wpOp_step (i := 18) (o := { dst := some 25, op := Op.fieldAddr 25 (Operand.tmp 4) 1, type := 0, pos := "morphism.go:98", after := #[aG 14], guard := some (14, true) }) (by rfl) (fun K hK => ?_)
  cases g1 with
  | false =>
   refine off_ (N := some 25) rfl ?_
   refine hK _ _ ⟨_, _, _, _, _, _, _, _, _, _, _, _, _, _, _, _, _, _, _, _, _, _, _, _, rfl, rfl, sb⟩
  | true =>
   cases g2 with
   | false =>
    refine off_ (N := some 25) rfl ?_
    refine hK _ _ ⟨_, _, _, _, _, _, _, _, _, _, _, _, _, _, _, _, _, _, _, _, _, _, _, _, rfl, rfl, sb⟩
   | true =>
    refine event_step (v := .pointer (some ⟨B4, 1, none⟩)) (w1 := w') rfl ?_ ?_
    ·first | (go_simp; done) | (go_simp; rfl)
    refine hK _ _ ⟨_, _, _, _, _, _, _, _, _, _, _, _, _, _, _, _, _, _, _, _, _, _, _, _, rfl, rfl, sb⟩
 ·-- 19
  obtain rfl : y19 = false := need_not hr
  obtain rfl : y14 = true := need (j := 14) hr rfl (by decide)
  obtain rfl : y18 = true := need (j := 18) hr rfl (by decide)
  clear hr
  have hx0 := (BY.below sb.get).c0
  have hx1 := (BY.below sb.get).c1
  refine wpOp_step (i := 19) (o := { dst := some 26, op := Op.load 23 (Operand.tmp 25), type := 23, pos := "morphism.go:98", after := #[aD 18, aG 14], guard := some (14, true) }) (by rfl) (fun K hK => ?_)
  cases g1 with
  | false =>
   refine off_ (N := some 26) rfl ?_
   refine hK _ _ ⟨_, _, _, _, _, _, _, _, _, _, _, _, _, _, _, _, _, _, _, _, _, _, _, _, rfl, rfl, sb⟩
  | true =>
   cases g2 with
   | false =>
    refine off_ (N := some 26) rfl ?_
    refine hK _ _ ⟨_, _, _, _, _, _, _, _, _, _, _, _, _, _, _, _, _, _, _, _, _, _, _, _, rfl, rfl, sb⟩
   | true =>
    refine event_step (v := .slice A3 b1.length c3) (w1 := w') rfl ?_ ?_
    ·first | (go_simp; done) | (go_simp; rfl)
    refine hK _ _ ⟨_, _, _, _, _, _, _, _, _, _, _, _, _, _, _, _, _, _, _, _, _, _, _, _, rfl, rfl, sb⟩
 ·-- 20
  obtain rfl : y20 = false := need_not hr
  obtain rfl : y14 = true := need (j := 14) hr rfl (by decide)
  obtain rfl : y19 = true := need (j := 19) hr rfl (by decide)
  clear hr
  refine wpOp_step (i := 20) (o := { dst := some 27, op := Op.call { callee := Callee.builtin Builtin.len, args := #[Operand.tmp 26], argTypes := #[23] }, type := 3, pos := "morphism.go:98", after := #[aD 19, aG 14], guard := some (14, true) }) (by rfl) (fun K hK => ?_)
  cases g1 with
  | false =>
   refine off_ (N := some 27) rfl ?_
   refine hK _ _ ⟨_, _, _, _, _, _, _, _, _, _, _, _, _, _, _, _, _, _, _, _, _, _, _, _, rfl, rfl, sb⟩
  | true =>
   cases g2 with
   | false =>
    refine off_ (N := some 27) rfl ?_
    refine hK _ _ ⟨_, _, _, _, _, _, _, _, _, _, _, _, _, _, _, _, _, _, _, _, _, _, _, _, rfl, rfl, sb⟩
   | true =>
    refine event_step (v := .int .i64 (b1.length : Int)) (w1 := w') rfl ?_ ?_
    ·first | (go_simp; done) | (go_simp; rfl)
    refine hK _ _ ⟨_, _, _, _, _, _, _, _, _, _, _, _, _, _, _, _, _, _, _, _, _, _, _, _, rfl, rfl, sb⟩
 ·-- 21
  obtain rfl : y21 = false := need_not hr
  obtain rfl : y14 = true := need (j := 14) hr rfl (by decide)
  obtain rfl : y17 = true := need (j := 17) hr rfl (by decide)
  obtain rfl : y20 = true := need (j := 20) hr rfl (by decide)
  clear hr
  refine wpOp_step (i := 21) (o := { dst := some 28, op := Op.binOp BinOp.eql 3 (Operand.tmp 24) (Operand.tmp 27) 3, type := 4, pos := "morphism.go:98", after := #[aD 17, aD 20, aG 14], guard := some (14, true) }) (by rfl) (fun K hK => ?_)
  cases g1 with
  | false =>
   refine off_ (N := some 28) rfl ?_
   refine hK _ _ ⟨_, _, _, _, _, _, _, _, _, _, _, _, _, _, _, _, _, _, _, _, _, _, _, _, rfl, rfl, sb⟩
  | true =>
   cases g2 with
   | false =>
    refine off_ (N := some 28) rfl ?_
    refine hK _ _ ⟨_, _, _, _, _, _, _, _, _, _, _, _, _, _, _, _, _, _, _, _, _, _, _, _, rfl, rfl, sb⟩
   | true =>
    have hd3 := h3 rfl
    have hb3 : (nd m == (b1.length : Int)) = g3 := hd3
    refine event_step (v := .bool g3) (w1 := w') rfl ?_ ?_
    ·first | (go_simp; done) | (go_simp; rfl)
    refine hK _ _ ⟨_, _, _, _, _, _, _, _, _, _, _, _, _, _, _, _, _, _, _, _, _, _, _, _, rfl, rfl, sb⟩
 ·-- 22
  obtain rfl : y22 = false := need_not hr
  obtain rfl : y14 = true := need (j := 14) hr rfl (by decide)
  obtain rfl : y21 = true := need (j := 21) hr rfl (by decide)
  clear hr
  refine wpOp_step (i := 22) (o := { dst := some 29, op := Op.pick (Operand.tmp 21) (Operand.tmp 28) (Operand.const (Value.bool false)), type := 4, pos := "morphism.go:98", after := #[aD 14, aD 21], guard := none }) (by rfl) (fun K hK => ?_)
  cases g1 with
  | false =>
   refine event_step (v := .bool (false && g2 && g3)) (w1 := w') rfl ?_ ?_
   ·first | (go_simp; done) | (go_simp; rfl)
   refine hK _ _ ⟨_, _, _, _, _, _, _, _, _, _, _, _, _, _, _, _, _, _, _, _, _, _, _, _, rfl, rfl, sb⟩
  | true =>
   cases g2 with
   | false =>
    refine event_step (v := .bool (true && false && g3)) (w1 := w') rfl ?_ ?_
    ·first | (go_simp; done) | (go_simp; rfl)
    refine hK _ _ ⟨_, _, _, _, _, _, _, _, _, _, _, _, _, _, _, _, _, _, _, _, _, _, _, _, rfl, rfl, sb⟩
   | true =>
    refine event_step (v := .bool (true && true && g3)) (w1 := w') rfl ?_ ?_
    ·first | (go_simp; done) | (go_simp; rfl)
    refine hK _ _ ⟨_, _, _, _, _, _, _, _, _, _, _, _, _, _, _, _, _, _, _, _, _, _, _, _, rfl, rfl, sb⟩
 ·-- 23
  obtain rfl : y23 = false := need_not hr
  obtain rfl : y22 = true := need (j := 22) hr rfl (by decide)
  clear hr
  refine wpOp_step (i := 23) (o := { dst := some 6, op := Op.assign (Operand.tmp 29), type := 4, pos := "morphism.go:98", after := #[aD 22, { on := 17, ground := Ground.chain }, aP 0, aP 1, aP 2, aP 3, aP 4, aP 5, aP 6, aP 7, aP 8, aP 9, aP 10, aP 11, aP 12, aP 13, aP 14, aP 15, aP 16, aP 17, aP 18, aP 19, aP 20, aP 21, aP 22], guard := none }) (by rfl) (fun K hK => ?_)
  refine event_step (v := .bool (g1 && g2 && g3)) (w1 := w') rfl ?_ ?_
  ·first | (go_simp; done) | (go_simp; rfl)
  refine hK _ _ ⟨_, _, _, _, _, _, _, _, _, _, _, _, _, _, _, _, _, _, _, _, _, _, _, _, rfl, rfl, sb⟩
set_option maxHeartbeats 4000000 in
set_option maxRecDepth 100000 in
theorem walk48 (A0 : Option Addr) (c0 : Nat) (a0 : List Int) (A1 : Option Addr) (c1 : Nat) (a1 : List S94) (A2 : Option Addr) (c2 : Nat) (b0 : List Int) (A3 : Option Addr) (c3 : Nat) (b1 : List S94) (A4 : Option Addr) (c4 : Nat) (n : List Int) (A5 : Option Addr) (c5 : Nat) (m : List Int) (w : World) (R0 : Row (Kd.int .i64) w A0 c0 a0) (R1 : Row k94 w A1 c1 a1) (R2 : Row (Kd.int .i64) w A2 c2 b0) (R3 : Row k94 w A3 c3 b1) (R4 : Row (Kd.int .i64) w A4 c4 n) (R5 : Row (Kd.int .i64) w A5 c5 m) (g1 g2 g3 : Bool)
  (h1 : decide ((mvalid a0 a1 b0 b1 n m) = 0) = g1) (h2 : g1 = true → decide (nd n = (b0.length : Int)) = g2) (h3 : (g1 && g2) = true → decide (nd m = (b1.length : Int)) = g3) (hn : g1 = true → n.length ≤ 1000000) (hm : g1 = true → m.length ≤ 1000000) :
  Calls Try.prog 48 #[.agg #[.slice A0 a0.length c0, .slice A1 a1.length c1], .agg #[.slice A2 b0.length c2, .slice A3 b1.length c3], .agg #[.slice A4 n.length c4, .slice A5 m.length c5]] w fun e w' => e = .returned (.bool (g1 && g2 && g3)) ∧ Below w.heap.size w w' := by
 have SB := Since.refl w
 have hu25 := Try.underlying25
 have hu27 := Try.underlying27
 go_enter Try.func48, Try.ntmps48
 go_upto_region 1 with fail
 obtain ⟨BX, BY, BZ, hb⟩ := tri_new w (.slice A0 a0.length c0) (.slice A1 a1.length c1) 25 (.slice A2 b0.length c2) (.slice A3 b1.length c3) 25 (.slice A4 n.length c4) (.slice A5 m.length c5) 27
 replace R0 := R0.below hb
 replace R1 := R1.below hb
 replace R2 := R2.below hb
 replace R3 := R3.below hb
 replace R4 := R4.below hb
 replace R5 := R5.below hb
 replace SB := SB.step hb
 clear hb
 generalize hw : (((w.alloc (.cells #[.slice A0 a0.length c0, .slice A1 a1.length c1] 25)).alloc (.cells #[.slice A2 b0.length c2, .slice A3 b1.length c3] 25)).alloc (.cells #[.slice A4 n.length c4, .slice A5 m.length c5] 27)) = w0 at *
 clear hw
 refine drawn_ (J48 w0 w.heap.size (w.heap.size + 1) (w.heap.size + 2) A0 c0 a0 A1 c1 a1 A2 c2 b0 A3 c3 b1 A4 c4 n A5 c5 m g1 g2 g3) T47 tab48 (by kernel_rfl) ?_ (J48_step w0 w.heap.size (w.heap.size + 1) (w.heap.size + 2) A0 c0 a0 A1 c1 a1 A2 c2 b0 A3 c3 b1 A4 c4 n A5 c5 m g1 g2 g3 BX BY BZ R0 R1 R2 R3 R4 R5 h1 h2 h3 hn hm) ?_
 ·exact ⟨false, false, false, false, false, false, false, false, false, false, false, false, false, false, false, false, false, false, false, false, false, false, false, false, rfl, rfl, ⟨below_drew1 (Below.refl _ _)⟩⟩
 rintro l a wd ⟨y0, y1, y2, y3, y4, y5, y6, y7, y8, y9, y10, y11, y12, y13, y14, y15, y16, y17, y18, y19, y20, y21, y22, y23, rfl, rfl, sb⟩ _ hr
 obtain rfl : y0 = true := all_done hr 0 rfl rfl
 obtain rfl : y1 = true := all_done hr 1 rfl rfl
 obtain rfl : y2 = true := all_done hr 2 rfl rfl
 obtain rfl : y3 = true := all_done hr 3 rfl rfl
 obtain rfl : y4 = true := all_done hr 4 rfl rfl
 obtain rfl : y5 = true := all_done hr 5 rfl rfl
 obtain rfl : y6 = true := all_done hr 6 rfl rfl
 obtain rfl : y7 = true := all_done hr 7 rfl rfl
 obtain rfl : y8 = true := all_done hr 8 rfl rfl
 obtain rfl : y9 = true := all_done hr 9 rfl rfl
 obtain rfl : y10 = true := all_done hr 10 rfl rfl
 obtain rfl : y11 = true := all_done hr 11 rfl rfl
 obtain rfl : y12 = true := all_done hr 12 rfl rfl
 obtain rfl : y13 = true := all_done hr 13 rfl rfl
 obtain rfl : y14 = true := all_done hr 14 rfl rfl
 obtain rfl : y15 = true := all_done hr 15 rfl rfl
 obtain rfl : y16 = true := all_done hr 16 rfl rfl
 obtain rfl : y17 = true := all_done hr 17 rfl rfl
 obtain rfl : y18 = true := all_done hr 18 rfl rfl
 obtain rfl : y19 = true := all_done hr 19 rfl rfl
 obtain rfl : y20 = true := all_done hr 20 rfl rfl
 obtain rfl : y21 = true := all_done hr 21 rfl rfl
 obtain rfl : y22 = true := all_done hr 22 rfl rfl
 obtain rfl : y23 = true := all_done hr 23 rfl rfl
 clear hr
 simp only [cond_true]
 go_wp2_with fail
 go_ret
 exact ⟨rfl, below_step SB.get sb.get⟩
set_option maxHeartbeats 4000000 in
set_option maxRecDepth 100000 in
theorem Check_a (k : Nat) (A0 : Option Addr) (c0 : Nat) (x0 : List Int) (A1 : Option Addr) (c1 : Nat) (x1 : List S94) (A2 : Option Addr) (c2 : Nat) (x2 : List Int) (A3 : Option Addr) (c3 : Nat) (x3 : List S94) (A4 : Option Addr) (c4 : Nat) (x4 : List Int) (A5 : Option Addr) (c5 : Nat) (x5 : List S94) (A6 : Option Addr) (c6 : Nat) (x6 : List Int) (A7 : Option Addr) (c7 : Nat) (x7 : List Int) (A8 : Option Addr) (c8 : Nat) (x8 : List Int) (A9 : Option Addr) (c9 : Nat) (x9 : List Int) (A10 : Option Addr) (c10 : Nat) (x10 : List Int) (A11 : Option Addr) (c11 : Nat) (x11 : List S94) (A12 : Option Addr) (c12 : Nat) (x12 : List Int) (A13 : Option Addr) (c13 : Nat) (x13 : List Int) (A14 : Option Addr) (c14 : Nat) (x14 : List Int) (A15 : Option Addr) (c15 : Nat) (x15 : List Int) (w : World)
  (R0 : Row (Kd.int .i64) w A0 c0 x0) (R1 : Row k94 w A1 c1 x1) (R2 : Row (Kd.int .i64) w A2 c2 x2) (R3 : Row k94 w A3 c3 x3) (R4 : Row (Kd.int .i64) w A4 c4 x4) (R5 : Row k94 w A5 c5 x5) (R6 : Row (Kd.int .i64) w A6 c6 x6) (R7 : Row (Kd.int .i64) w A7 c7 x7) (R8 : Row (Kd.int .i64) w A8 c8 x8) (R9 : Row (Kd.int .i64) w A9 c9 x9) (R10 : Row (Kd.int .i64) w A10 c10 x10) (R11 : Row k94 w A11 c11 x11) (R12 : Row (Kd.int .i64) w A12 c12 x12) (R13 : Row (Kd.int .i64) w A13 c13 x13) (R14 : Row (Kd.int .i64) w A14 c14 x14) (R15 : Row (Kd.int .i64) w A15 c15 x15)
  (m0 m1 : List Int) (er : Int) (hM : medF k x0 x1 x2 x3 x4 x5 x6 x7 x8 x9 x10 x11 x12 x13 x14 x15 = some (m0, m1, er)) (her : er ≠ 0) :
  Calls Try.prog 16 #[.agg #[.slice A0 x0.length c0, .slice A1 x1.length c1, .slice A2 x2.length c2, .slice A3 x3.length c3, .slice A4 x4.length c4, .slice A5 x5.length c5, .slice A6 x6.length c6, .slice A7 x7.length c7, .slice A8 x8.length c8, .slice A9 x9.length c9], .agg #[.slice A10 x10.length c10, .slice A11 x11.length c11], .agg #[.slice A12 x12.length c12, .slice A13 x13.length c13], .agg #[.slice A14 x14.length c14, .slice A15 x15.length c15]] w fun e w' => e = .returned (.bool false) ∧ Below w.heap.size w w' := by
 have hM_ := Aside0.mk hM
 have her_ := Aside0.mk her
 clear hM her
 have hu25 := Try.underlying25
 have hu27 := Try.underlying27
 have hu29 := Try.underlying29
 have hu81 := Try.underlying81
 have SB := Since.refl w
 have RS := cR R0 (cR R1 (cR R2 (cR R3 (cR R4 (cR R5 (cR R6 (cR R7 (cR R8 (cR R9 (cR R10 (cR R11 (cR R12 (cR R13 (cR R14 (cR R15 (cE SB))))))))))))))))
 clear SB R0 R1 R2 R3 R4 R5 R6 R7 R8 R9 R10 R11 R12 R13 R14 R15
 go_enter Try.func16, Try.ntmps16
 go_upto_region 1 with fail
 obtain ⟨w1, hv, BS, BX, BH, BK, hb⟩ := nw4 w 29 #[.slice A0 x0.length c0, .slice A1 x1.length c1, .slice A2 x2.length c2, .slice A3 x3.length c3, .slice A4 x4.length c4, .slice A5 x5.length c5, .slice A6 x6.length c6, .slice A7 x7.length c7, .slice A8 x8.length c8, .slice A9 x9.length c9] 25 #[.slice A10 x10.length c10, .slice A11 x11.length c11] 27 #[.slice A12 x12.length c12, .slice A13 x13.length c13] 27 #[.slice A14 x14.length c14, .slice A15 x15.length c15]
 rw [← hv]
 clear hv
 replace RS := mo hb RS
 clear hb
 replace RS := cK BS (cK BX (cK BH (cK BK (RS))))
 clear BS BX BH BK
 rcases (id RS) with ⟨⟨BS⟩, ⟨⟨BX⟩, ⟨⟨BH⟩, ⟨⟨BK⟩, -⟩⟩⟩⟩
 obtain ⟨_, _, _, _, _, _, _, _, _, _⟩ := BS.q10
 obtain ⟨_, _⟩ := BX.q2
 obtain ⟨_, _⟩ := BH.q2
 obtain ⟨_, _⟩ := BK.q2
 go_wp2_with fail
 rcases (id RS) with ⟨-, ⟨-, ⟨-, ⟨-, ⟨⟨R0⟩, ⟨⟨R1⟩, ⟨⟨R2⟩, ⟨⟨R3⟩, ⟨⟨R4⟩, ⟨⟨R5⟩, ⟨⟨R6⟩, ⟨⟨R7⟩, ⟨⟨R8⟩, ⟨⟨R9⟩, ⟨⟨R10⟩, ⟨⟨R11⟩, ⟨⟨R12⟩, ⟨⟨R13⟩, ⟨⟨R14⟩, ⟨⟨R15⟩, -⟩⟩⟩⟩⟩⟩⟩⟩⟩⟩⟩⟩⟩⟩⟩⟩⟩⟩⟩⟩
 refine (Med_calls k _ _ x0 _ _ x1 _ _ x2 _ _ x3 _ _ x4 _ _ x5 _ _ x6 _ _ x7 _ _ x8 _ _ x9 _ _ x10 _ _ x11 _ _ x12 _ _ x13 _ _ x14 _ _ x15 _ R0 R1 R2 R3 R4 R5 R6 R7 R8 R9 R10 R11 R12 R13 R14 R15 m0 m1 er hM_.out).mono ?_
 rintro e w2 ⟨z0, z1, rfl, q0, q1, hb⟩
 clear R0 R1 R2 R3 R4 R5 R6 R7 R8 R9 R10 R11 R12 R13 R14 R15
 replace hb := bS (w := w1) hb
 replace RS := mo hb RS
 clear hb
 obtain ⟨N0, n0, rfl, M0⟩ := q0.get
 obtain ⟨N1, n1, rfl, M1⟩ := q1.get
 replace RS := cR M0 (cR M1 (RS))
 clear M0 M1
 have hz : (er != 0) = true := bne_iff_ne.mpr her_.out
 go_wp2_with fail
 go_ret
 rcases (id RS) with ⟨-, ⟨-, ⟨-, ⟨-, ⟨-, ⟨-, ⟨-, ⟨-, ⟨-, ⟨-, ⟨-, ⟨-, ⟨-, ⟨-, ⟨-, ⟨-, ⟨-, ⟨-, ⟨-, ⟨-, ⟨-, ⟨-, ⟨SB⟩⟩⟩⟩⟩⟩⟩⟩⟩⟩⟩⟩⟩⟩⟩⟩⟩⟩⟩⟩⟩⟩⟩
 exact ⟨rfl, (SB.step (by repeat (first | exact Below.refl _ _ | apply below_alloc | apply pw_below_drewN))).get⟩
set_option maxHeartbeats 4000000 in
set_option maxRecDepth 100000 in
theorem Check_b (k : Nat) (A0 : Option Addr) (c0 : Nat) (x0 : List Int) (A1 : Option Addr) (c1 : Nat) (x1 : List S94) (A2 : Option Addr) (c2 : Nat) (x2 : List Int) (A3 : Option Addr) (c3 : Nat) (x3 : List S94) (A4 : Option Addr) (c4 : Nat) (x4 : List Int) (A5 : Option Addr) (c5 : Nat) (x5 : List S94) (A6 : Option Addr) (c6 : Nat) (x6 : List Int) (A7 : Option Addr) (c7 : Nat) (x7 : List Int) (A8 : Option Addr) (c8 : Nat) (x8 : List Int) (A9 : Option Addr) (c9 : Nat) (x9 : List Int) (A10 : Option Addr) (c10 : Nat) (x10 : List Int) (A11 : Option Addr) (c11 : Nat) (x11 : List S94) (A12 : Option Addr) (c12 : Nat) (x12 : List Int) (A13 : Option Addr) (c13 : Nat) (x13 : List Int) (A14 : Option Addr) (c14 : Nat) (x14 : List Int) (A15 : Option Addr) (c15 : Nat) (x15 : List Int) (w : World)
  (R0 : Row (Kd.int .i64) w A0 c0 x0) (R1 : Row k94 w A1 c1 x1) (R2 : Row (Kd.int .i64) w A2 c2 x2) (R3 : Row k94 w A3 c3 x3) (R4 : Row (Kd.int .i64) w A4 c4 x4) (R5 : Row k94 w A5 c5 x5) (R6 : Row (Kd.int .i64) w A6 c6 x6) (R7 : Row (Kd.int .i64) w A7 c7 x7) (R8 : Row (Kd.int .i64) w A8 c8 x8) (R9 : Row (Kd.int .i64) w A9 c9 x9) (R10 : Row (Kd.int .i64) w A10 c10 x10) (R11 : Row k94 w A11 c11 x11) (R12 : Row (Kd.int .i64) w A12 c12 x12) (R13 : Row (Kd.int .i64) w A13 c13 x13) (R14 : Row (Kd.int .i64) w A14 c14 x14) (R15 : Row (Kd.int .i64) w A15 c15 x15)
  (m0 m1 : List Int) (P Q : List S79) (n : List Int) (m : List S94) (g1 g2 g3 f2 f3 : Bool) (hM : medF k x0 x1 x2 x3 x4 x5 x6 x7 x8 x9 x10 x11 x12 x13 x14 x15 = some (m0, m1, 0)) (hO : pullback_of.f k x0 x1 x2 x3 x4 x5 x6 x7 x8 x9 = some (P, Q, n, m, 0))
  (h1 : decide (mvalid x10 x11 n m m0 m1 = 0) = g1) (h2 : g1 = true → decide (nd m0 = (m0.length : Int)) = g2) (h3 : (g1 && g2) = true → decide (nd m1 = (m1.length : Int)) = g3) (k1 : decide (mvalid x10 x11 n m m0 m1 = 0) = g1) (k2 : g1 = true → decide (nd m0 = (n.length : Int)) = f2) (k3 : (g1 && f2) = true → decide (nd m1 = (m.length : Int)) = f3) (hl : (g1 = true → m0.length ≤ 1000000) ∧ (g1 = true → m1.length ≤ 1000000)) (r : Bool) (hr : ((g1 && g2 && g3) && (g1 && f2 && f3)) = r) :
  Calls Try.prog 16 #[.agg #[.slice A0 x0.length c0, .slice A1 x1.length c1, .slice A2 x2.length c2, .slice A3 x3.length c3, .slice A4 x4.length c4, .slice A5 x5.length c5, .slice A6 x6.length c6, .slice A7 x7.length c7, .slice A8 x8.length c8, .slice A9 x9.length c9], .agg #[.slice A10 x10.length c10, .slice A11 x11.length c11], .agg #[.slice A12 x12.length c12, .slice A13 x13.length c13], .agg #[.slice A14 x14.length c14, .slice A15 x15.length c15]] w fun e w' => e = .returned (.bool r) ∧ Below w.heap.size w w' := by
 have hM_ := Aside0.mk hM
 have hO_ := Aside0.mk hO
 have h1_ := Aside0.mk h1
 have h2_ := Aside0.mk h2
 have h3_ := Aside0.mk h3
 have k1_ := Aside0.mk k1
 have k2_ := Aside0.mk k2
 have k3_ := Aside0.mk k3
 have hl_ := Aside0.mk hl
 have hr_ := Aside0.mk hr
 clear hM hO h1 h2 h3 k1 k2 k3 hl hr
 have hu25 := Try.underlying25
 have hu27 := Try.underlying27
 have hu29 := Try.underlying29
 have hu81 := Try.underlying81
 have SB := Since.refl w
 have RS := cR R0 (cR R1 (cR R2 (cR R3 (cR R4 (cR R5 (cR R6 (cR R7 (cR R8 (cR R9 (cR R10 (cR R11 (cR R12 (cR R13 (cR R14 (cR R15 (cE SB))))))))))))))))
 clear SB R0 R1 R2 R3 R4 R5 R6 R7 R8 R9 R10 R11 R12 R13 R14 R15
 go_enter Try.func16, Try.ntmps16
 go_upto_region 1 with fail
 obtain ⟨w1, hv, BS, BX, BH, BK, hb⟩ := nw4 w 29 #[.slice A0 x0.length c0, .slice A1 x1.length c1, .slice A2 x2.length c2, .slice A3 x3.length c3, .slice A4 x4.length c4, .slice A5 x5.length c5, .slice A6 x6.length c6, .slice A7 x7.length c7, .slice A8 x8.length c8, .slice A9 x9.length c9] 25 #[.slice A10 x10.length c10, .slice A11 x11.length c11] 27 #[.slice A12 x12.length c12, .slice A13 x13.length c13] 27 #[.slice A14 x14.length c14, .slice A15 x15.length c15]
 rw [← hv]
 clear hv
 replace RS := mo hb RS
 clear hb
 replace RS := cK BS (cK BX (cK BH (cK BK (RS))))
 clear BS BX BH BK
 rcases (id RS) with ⟨⟨BS⟩, ⟨⟨BX⟩, ⟨⟨BH⟩, ⟨⟨BK⟩, -⟩⟩⟩⟩
 obtain ⟨_, _, _, _, _, _, _, _, _, _⟩ := BS.q10
 obtain ⟨_, _⟩ := BX.q2
 obtain ⟨_, _⟩ := BH.q2
 obtain ⟨_, _⟩ := BK.q2
 go_wp2_with fail
 rcases (id RS) with ⟨-, ⟨-, ⟨-, ⟨-, ⟨⟨R0⟩, ⟨⟨R1⟩, ⟨⟨R2⟩, ⟨⟨R3⟩, ⟨⟨R4⟩, ⟨⟨R5⟩, ⟨⟨R6⟩, ⟨⟨R7⟩, ⟨⟨R8⟩, ⟨⟨R9⟩, ⟨⟨R10⟩, ⟨⟨R11⟩, ⟨⟨R12⟩, ⟨⟨R13⟩, ⟨⟨R14⟩, ⟨⟨R15⟩, -⟩⟩⟩⟩⟩⟩⟩⟩⟩⟩⟩⟩⟩⟩⟩⟩⟩⟩⟩⟩
 refine (Med_calls k _ _ x0 _ _ x1 _ _ x2 _ _ x3 _ _ x4 _ _ x5 _ _ x6 _ _ x7 _ _ x8 _ _ x9 _ _ x10 _ _ x11 _ _ x12 _ _ x13 _ _ x14 _ _ x15 _ R0 R1 R2 R3 R4 R5 R6 R7 R8 R9 R10 R11 R12 R13 R14 R15 m0 m1 0 hM_.out).mono ?_
 rintro e w2 ⟨z0, z1, rfl, q0, q1, hb⟩
 clear R0 R1 R2 R3 R4 R5 R6 R7 R8 R9 R10 R11 R12 R13 R14 R15
 replace hb := bS (w := w1) hb
 replace RS := mo hb RS
 clear hb
 obtain ⟨N0, n0, rfl, M0⟩ := q0.get
 obtain ⟨N1, n1, rfl, M1⟩ := q1.get
 replace RS := cR M0 (cR M1 (RS))
 clear M0 M1
 go_upto_region 4 with fail
 obtain ⟨w3, hv, BM, hb⟩ := nw1 w2 27 #[.slice N0 m0.length n0, .slice N1 m1.length n1]
 rw [← hv]
 clear hv
 replace RS := mo hb RS
 clear hb
 replace RS := cK BM (RS)
 clear BM
 rcases (id RS) with ⟨⟨BM⟩, ⟨-, ⟨-, ⟨⟨BS⟩, ⟨⟨BX⟩, ⟨⟨BH⟩, ⟨⟨BK⟩, -⟩⟩⟩⟩⟩⟩⟩
 obtain ⟨_, _⟩ := BM.q2
 obtain ⟨_, _, _, _, _, _, _, _, _, _⟩ := BS.q10
 obtain ⟨_, _⟩ := BX.q2
 obtain ⟨_, _⟩ := BH.q2
 obtain ⟨_, _⟩ := BK.q2
 go_wp2_with fail
 rcases (id RS) with ⟨-, ⟨-, ⟨-, ⟨-, ⟨-, ⟨-, ⟨-, ⟨⟨R0⟩, ⟨⟨R1⟩, ⟨⟨R2⟩, ⟨⟨R3⟩, ⟨⟨R4⟩, ⟨⟨R5⟩, ⟨⟨R6⟩, ⟨⟨R7⟩, ⟨⟨R8⟩, ⟨⟨R9⟩, -⟩⟩⟩⟩⟩⟩⟩⟩⟩⟩⟩⟩⟩⟩⟩⟩⟩
 refine (pullback_of.calls k _ _ x0 _ _ x1 _ _ x2 _ _ x3 _ _ x4 _ _ x5 _ _ x6 _ _ x7 _ _ x8 _ _ x9 P Q n m 0 _ R0.at_ R0.cap R1.at_ R1.cap R2.at_ R2.cap R3.at_ R3.cap R4.at_ R4.cap R5.at_ R5.cap R6.at_ R6.cap R7.at_ R7.cap R8.at_ R8.cap R9.at_ R9.cap hO_.out).mono ?_
 rintro e w4 ⟨y0, y1, y2, y3, rfl, q0, q1, q2, q3, hb⟩
 clear R0 R1 R2 R3 R4 R5 R6 R7 R8 R9
 replace hb := bS (w := w3) hb
 replace RS := mo hb RS
 clear hb
 obtain ⟨P0, p0, rfl, Q0⟩ := Row.of_R q0
 clear q0
 obtain ⟨P1, p1, rfl, Q1⟩ := Row.of_R q1
 clear q1
 obtain ⟨P2, p2, rfl, Q2⟩ := Row.of_R q2
 clear q2
 obtain ⟨P3, p3, rfl, Q3⟩ := Row.of_R q3
 clear q3
 replace RS := cR Q0 (cR Q1 (cR Q2 (cR Q3 (RS))))
 clear Q0 Q1 Q2 Q3
 go_upto_region 5 with fail
 obtain ⟨w5, hv, B6, hb⟩ := nw1 w4 81 #[.slice P0 P.length p0, .slice P1 Q.length p1, .slice P2 n.length p2, .slice P3 m.length p3]
 rw [← hv]
 clear hv
 replace RS := mo hb RS
 clear hb
 replace RS := cK B6 (RS)
 clear B6
 rcases (id RS) with ⟨⟨B6⟩, ⟨-, ⟨-, ⟨-, ⟨-, ⟨⟨BM⟩, ⟨-, ⟨-, ⟨⟨BS⟩, ⟨⟨BX⟩, ⟨⟨BH⟩, ⟨⟨BK⟩, -⟩⟩⟩⟩⟩⟩⟩⟩⟩⟩⟩⟩
 obtain ⟨_, _, _, _⟩ := B6.q4
 obtain ⟨_, _⟩ := BM.q2
 obtain ⟨_, _, _, _, _, _, _, _, _, _⟩ := BS.q10
 obtain ⟨_, _⟩ := BX.q2
 obtain ⟨_, _⟩ := BH.q2
 obtain ⟨_, _⟩ := BK.q2
 go_wp2_with fail
 rcases (id RS) with ⟨-, ⟨-, ⟨-, ⟨⟨Q2⟩, ⟨⟨Q3⟩, ⟨-, ⟨⟨M0⟩, ⟨⟨M1⟩, ⟨-, ⟨-, ⟨-, ⟨-, ⟨-, ⟨-, ⟨-, ⟨-, ⟨-, ⟨-, ⟨-, ⟨-, ⟨-, ⟨-, ⟨⟨R10⟩, ⟨⟨R11⟩, -⟩⟩⟩⟩⟩⟩⟩⟩⟩⟩⟩⟩⟩⟩⟩⟩⟩⟩⟩⟩⟩⟩⟩⟩
 refine (walk47 _ _ x10 _ _ x11 _ _ n _ _ m _ _ m0 _ _ m1 _ R10 R11 Q2 Q3 M0 M1 g1 g2 g3 h1_.out h2_.out h3_.out hl_.out.1 hl_.out.2).mono ?_
 rintro e w6 ⟨rfl, hb⟩
 clear R10 R11 Q2 Q3 M0 M1
 replace hb := bS (w := w5) hb
 replace RS := mo hb RS
 clear hb
 rcases (id RS) with ⟨⟨B6⟩, ⟨-, ⟨-, ⟨-, ⟨-, ⟨⟨BM⟩, ⟨-, ⟨-, ⟨-, ⟨⟨BX⟩, -⟩⟩⟩⟩⟩⟩⟩⟩⟩⟩
 obtain ⟨_, _, _, _⟩ := B6.q4
 obtain ⟨_, _⟩ := BM.q2
 obtain ⟨_, _⟩ := BX.q2
 cases hg : (g1 && g2 && g3) with
 | false =>
  go_wp2_with fail
  go_ret
  exact ⟨by have := hr_.out; rw [hg] at this; rw [← this]; rfl, RS.r.r.r.r.r.r.r.r.r.r.r.r.r.r.r.r.r.r.r.r.r.r.r.r.r.r.r.r.r.get⟩
 | true =>
 go_wp2_with fail
 rcases (id RS) with ⟨-, ⟨-, ⟨-, ⟨⟨Q2⟩, ⟨⟨Q3⟩, ⟨-, ⟨⟨M0⟩, ⟨⟨M1⟩, ⟨-, ⟨-, ⟨-, ⟨-, ⟨-, ⟨-, ⟨-, ⟨-, ⟨-, ⟨-, ⟨-, ⟨-, ⟨-, ⟨-, ⟨⟨R10⟩, ⟨⟨R11⟩, -⟩⟩⟩⟩⟩⟩⟩⟩⟩⟩⟩⟩⟩⟩⟩⟩⟩⟩⟩⟩⟩⟩⟩⟩
 refine (walk48 _ _ x10 _ _ x11 _ _ n _ _ m _ _ m0 _ _ m1 _ R10 R11 Q2 Q3 M0 M1 g1 f2 f3 k1_.out k2_.out k3_.out hl_.out.1 hl_.out.2).mono ?_
 rintro e w7 ⟨rfl, hb⟩
 clear R10 R11 Q2 Q3 M0 M1
 replace hb := bS (w := w6) hb
 replace RS := mo hb RS
 clear hb
 generalize hg2 : (g1 && f2 && f3) = gg
 go_wp2_with fail
 try go_wp2_with fail
 go_ret
 exact ⟨by have := hr_.out; rw [hg, hg2] at this; rw [← this]; rfl, RS.r.r.r.r.r.r.r.r.r.r.r.r.r.r.r.r.r.r.r.r.r.r.r.r.r.r.r.r.r.get⟩
section
variable {P : Program} {ops : Array Oper} {Q : Exit → Act → World → Prop} {md : Region.Mode} {S : World → Prop} {ds : List Nat}
/-- 0: alone it may come up now, S behind it. 1: it yields in every world. 2: it yields where S holds. Else: alone it may come up, nothing behind it. -/
def wpPlan (P : Program) (ops : Array Oper) (Q : Exit → Act → World → Prop) (S : World → Prop) (E : Act → World → Prop) : List (Nat × Nat × Option Tmp) → Act → World → Prop
  | [], a, w => E a w
  | (i, k, N) :: r, a, w => match ops[i]? with
    | none => False
    | some o => o.dst = N ∧ match k with
      | 0 => ∀ K : Act → World → Prop, Shut (∀ a' w', S w' → (S w' → wpPlan P ops Q S E r a' w') → K a' w') → if Region.wanted o (yielded ops a.tmps) = true then Oper.wp P o a w K Q else K (a.put N undef) w
      | 1 => ∃ v, Yields P ops o v a ∧ wpPlan P ops Q S E r (a.put N v) w
      | 2 => S w ∧ ∃ v, YieldsIf P ops S o v a ∧ wpPlan P ops Q S E r (a.put N v) w
      | _ => ∀ K : Act → World → Prop, Shut (∀ a' w', wpPlan P ops Q S E r a' w' → K a' w') → if Region.wanted o (yielded ops a.tmps) = true then Oper.wp P o a w K Q else K (a.put N undef) w
def setAll : List Bool → List (Nat × Nat × Option Tmp) → List Bool
  | l, [] => l
  | l, (i, _, _) :: r => setAll (l.set i true) r
/-- B: what each operation waits for, as bits. -/
def planT (T : Bool × List (List Nat × List Nat)) (B : List Nat) (ds : List Nat) : List Bool → List (Nat × Nat × Option Tmp) → Bool
  | _, [] => true
  | l, (i, k, _) :: r => (match k with
    | 0 => (readyT T.2 l == [i]) && !ds.contains i
    | 1 => T.1 && freeT T.2 l i && readyAt T.2 l i
    | 2 => T.1 && freeT T.2 l i && readyAt T.2 l i && closedT T.2 l && lastW T.2 B l ds i
    | _ => (readyT T.2 l == [i]) && ds.contains i) && planT T B ds (l.set i true) r
theorem set_nil (l : List Bool) (i : Nat) : (l.toArray.setIfInBounds i true) = (l.set i true).toArray := by simp
theorem plan_sound {E : Act → World → Prop} {T : Bool × List (List Nat × List Nat)} {B : List Nat} {n : Nat} (hT : rtab md ops = T) (hB : waitsOk T.2 B = true) (hQ : ∀ c a d v w, Q (.panic c) (a.put d v) w → Q (.panic c) a w) :
    ∀ (idx : List (Nat × Nat × Option Tmp)) (l : List Bool) (a : Act) (w : World), planT T B ds l idx = true → (∀ a w, E a w → wpAnyLast P md ops Q S ds n (setAll l idx).toArray a w) → wpPlan P ops Q S E idx a w → wpAnyLast P md ops Q S ds (n + idx.length) l.toArray a w := by
  intro idx
  induction idx with
  | nil =>
    intro l a w _ hE h
    exact hE a w h
  | cons x r ih =>
    obtain ⟨i, k, N⟩ := x
    intro l a w hc hE h
    simp only [planT, Bool.and_eq_true] at hc
    obtain ⟨hc, hr⟩ := hc
    have ih' := fun a w => ih (l.set i true) a w hr hE
    rw [← set_nil] at ih'
    unfold wpPlan at h
    rw [List.length_cons, ← Nat.add_assoc]
    cases ho : ops[i]? with
    | none => rw [ho] at h; exact h.elim
    | some o =>
      rw [ho] at h
      simp only at h
      obtain ⟨hN, h⟩ := h
      match k, hc, h with
      | 0, hc, h =>
        simp only [Bool.and_eq_true] at hc
        exact one_ (l.toArray.setIfInBounds i true) ho hN (one_of hT (by rw [hc.1, Array.toList_setIfInBounds]; simp)) (by simpa using hc.2) (fun K hK => h K (fun a1 w1 hS hP => hK.out a1 w1 hS (fun h1 => ih' _ _ (hP h1))))
      | 1, hc, h =>
        simp only [Bool.and_eq_true] at hc
        obtain ⟨v, hy, h⟩ := h
        exact pure_ (l.toArray.setIfInBounds i true) ho hN (any_of hT (by simp only [anyT, Bool.and_eq_true]; exact ⟨⟨⟨hc.1.1, hc.1.2⟩, hc.2⟩, by simp⟩)) (fun c a w => hQ c a _ _ w) hy rfl (ih' _ _ h)
      | 2, hc, h =>
        simp only [Bool.and_eq_true] at hc
        obtain ⟨hS, v, hy, h⟩ := h
        exact take_ (l.toArray.setIfInBounds i true) ho hN (take_ofW hT hB (by simp only [takeW, Bool.and_eq_true]; exact ⟨⟨⟨⟨⟨hc.1.1.1.1, hc.1.1.1.2⟩, hc.1.1.2⟩, hc.1.2⟩, hc.2⟩, by simp⟩)) (fun c a w => hQ c a _ _ w) hy hS rfl (ih' _ _ h)
      | k + 3, hc, h =>
        simp only [Bool.and_eq_true] at hc
        exact last_ (l.toArray.setIfInBounds i true) ho hN (one_of hT (by rw [hc.1, Array.toList_setIfInBounds]; simp)) (by simpa using hc.2) (fun K hK => h K (fun a1 w1 hP => hK.out a1 w1 (ih' _ _ hP)))
/-- The region, by a plan of all its operations. -/
theorem plan_ {id : Nat} {a : Act} {w : World} (S : World → Prop) (ds : List Nat) (idx : List (Nat × Nat × Option Tmp)) (T : Bool × List (List Nat × List Nat)) (B : List Nat) (hT : rtab .any ops = T) (hB : waitsOk T.2 B = true) (hm : P.follows .mixedOrders = true) (hn : (ops.size == idx.length) = true)
    (hc : planT T B ds (List.replicate idx.length false) idx = true) (he : (readyT T.2 (setAll (List.replicate idx.length false) idx) == []) = true) (hQ : ∀ c a d v w, Q (.panic c) (a.put d v) w → Q (.panic c) a w) (h : wpPlan P ops Q S (Q .normal) idx a w.drew) : (Code.region id ops true).wp P Q a w := by
  refine wp_region_last (S := S) (ds := ds) hm ?_
  rw [beq_iff_eq] at hn
  rw [hn]
  have := plan_sound (P := P) (S := S) (ds := ds) (n := 0) hT hB hQ idx (List.replicate idx.length false) a w.drew hc (fun a w h => done_ (done_of hT (by simpa using he)) h) h
  simpa using this
/-- The region's first operations by a plan. -/
theorem plan_pre {id : Nat} {a : Act} {w : World} (S : World → Prop) (ds : List Nat) (idx : List (Nat × Nat × Option Tmp)) (n : Nat) (T : Bool × List (List Nat × List Nat)) (B : List Nat) (hT : rtab .any ops = T) (hB : waitsOk T.2 B = true) (hm : P.follows .mixedOrders = true) (hn : (ops.size == n + idx.length) = true)
    (hc : planT T B ds (List.replicate (n + idx.length) false) idx = true) (hQ : ∀ c a d v w, Q (.panic c) (a.put d v) w → Q (.panic c) a w) (h : wpPlan P ops Q S (fun a w => wpAnyLast P .any ops Q S ds n (setAll (List.replicate (n + idx.length) false) idx).toArray a w) idx a w.drew) : (Code.region id ops true).wp P Q a w := by
  refine wp_region_last (S := S) (ds := ds) hm ?_
  rw [beq_iff_eq] at hn
  rw [hn]
  have := plan_sound (P := P) (S := S) (ds := ds) (n := n) hT hB hQ idx (List.replicate (n + idx.length) false) a w.drew hc (fun a w h => h) h
  simpa using this
/-- Its last ones. -/
theorem plan_post {a : Act} {w : World} {l : List Bool} {n : Nat} (idx : List (Nat × Nat × Option Tmp)) (T : Bool × List (List Nat × List Nat)) (B : List Nat) (hT : rtab md ops = T) (hB : waitsOk T.2 B = true) (hn : (n == idx.length) = true)
    (hc : planT T B ds l idx = true) (he : (readyT T.2 (setAll l idx) == []) = true) (hQ : ∀ c a d v w, Q (.panic c) (a.put d v) w → Q (.panic c) a w) (h : wpPlan P ops Q S (Q .normal) idx a w) : wpAnyLast P md ops Q S ds n l.toArray a w := by
  rw [beq_iff_eq] at hn
  rw [hn]
  have := plan_sound (P := P) (S := S) (ds := ds) (n := 0) hT hB hQ idx l a w hc (fun a w h => done_ (done_of hT (by simpa using he)) h) h
  simpa using this
section
variable {E : Act → World → Prop}
theorem pl1 {i : Nat} {N : Option Tmp} {o : Oper} {v : Value} {r : List (Nat × Nat × Option Tmp)} {a : Act} {w : World} (ho : ops[i]? = some o) (hN : o.dst = N) (hy : Yields P ops o v a) {a' : Act} (ha : a.put N v = a') (h : wpPlan P ops Q S E r a' w) : wpPlan P ops Q S E ((i, 1, N) :: r) a w := by
  subst ha
  unfold wpPlan
  rw [ho]
  exact ⟨hN, v, hy, h⟩
theorem pl2 {i : Nat} {N : Option Tmp} {o : Oper} {v : Value} {r : List (Nat × Nat × Option Tmp)} {a : Act} {w : World} (ho : ops[i]? = some o) (hN : o.dst = N) (hS : S w) (hy : YieldsIf P ops S o v a) {a' : Act} (ha : a.put N v = a') (h : wpPlan P ops Q S E r a' w) : wpPlan P ops Q S E ((i, 2, N) :: r) a w := by
  subst ha
  unfold wpPlan
  rw [ho]
  exact ⟨hN, hS, v, hy, h⟩
theorem pl0 {i : Nat} {o : Oper} {N : Option Tmp} {r : List (Nat × Nat × Option Tmp)} {a : Act} {w : World} (ho : ops[i]? = some o) (hN : o.dst = N)
    (h : ∀ K : Act → World → Prop, Shut (∀ a' w', S w' → (S w' → wpPlan P ops Q S E r a' w') → K a' w') → if Region.wanted o (yielded ops a.tmps) = true then Oper.wp P o a w K Q else K (a.put N undef) w) : wpPlan P ops Q S E ((i, 0, N) :: r) a w := by
  unfold wpPlan
  rw [ho]
  exact ⟨hN, h⟩
theorem pl3 {i : Nat} {o : Oper} {N : Option Tmp} {r : List (Nat × Nat × Option Tmp)} {a : Act} {w : World} (ho : ops[i]? = some o) (hN : o.dst = N)
    (h : ∀ K : Act → World → Prop, Shut (∀ a' w', wpPlan P ops Q S E r a' w' → K a' w') → if Region.wanted o (yielded ops a.tmps) = true then Oper.wp P o a w K Q else K (a.put N undef) w) : wpPlan P ops Q S E ((i, 3, N) :: r) a w := by
  unfold wpPlan
  rw [ho]
  exact ⟨hN, h⟩
theorem plN {r : List (Nat × Nat × Option Tmp)} {a a' : Act} {w : World} (ha : a = a') (h : wpPlan P ops Q S E r a' w) : wpPlan P ops Q S E r a w := by
  subst ha
  exact h
theorem pl_end {a : Act} {w : World} (h : E a w) : wpPlan P ops Q S E [] a w := h
end
end
theorem Since.c {W W' : World} {a : Addr} {v : Value} (h : Since W W') (hc : W.cell? a = some v) : W'.cell? a = some v := (Below.cell h.get (World.block_lt_of_cell? _ _ hc)).trans hc
theorem Blk.row94 {W : World} {g : Nat} {x : S94} (h : Blk W g 94 #[.int .i64 x.f0, .int .i64 x.f1, .int .i64 x.f2]) : Row k94 W (some ⟨g, 0, none⟩) 1 [x] := by
  refine ⟨Nat.le_refl _, rfl, by simp, fun _ => ⟨_, rfl, fun j p hj => ?_⟩⟩
  have ad : ∀ k : Nat, (⟨g, 0, none⟩ : Addr).add k = ⟨g, k, none⟩ := by intro k; unfold Addr.add; split <;> simp_all
  match j with
  | 0 =>
    obtain rfl : x = p := by simpa using hj
    refine ⟨[.int .i64 x.f0, .int .i64 x.f1, .int .i64 x.f2], rfl, k94_mk W x, fun i u hu => ?_⟩
    rw [show k94.sz = 3 from rfl, ad, h.c]
    match i with
    | 0 => simpa using hu
    | 1 => simpa using hu
    | 2 => simpa using hu
    | i + 3 => simp at hu
  | j + 1 => simp at hj
/-- None of these cells is a number. -/
def NoInt (cs : List Value) : Prop := ∀ u ∈ cs, ∀ n, u ≠ .int .i64 n
theorem noInt_nil : NoInt [] := fun _ h => by cases h
theorem noInt_cons (A : Option Addr) (n c : Nat) {cs : List Value} (h : NoInt cs) : NoInt (.slice A n c :: cs) := fun u hu => by
  rcases List.mem_cons.mp hu with rfl | hu
  · exact sl_ne _ _ _
  · exact h u hu
theorem noInt_set {cs : List Value} (h : NoInt cs) {v : Value} (hv : ∀ n, v ≠ .int .i64 n) (j : Nat) : NoInt (cs.set j v) := fun u hu => by
  rcases List.mem_or_eq_of_mem_set hu with hu | rfl
  · exact h u hu
  · exact hv
theorem Vr.farB {α : Type} {d : Kd α} (hd : Flat d) {W : World} {u : Value} {l : List α} (h : Vr d W u l) {g t : Nat} {cs : Array Value} (hb : Blk W g t cs) (hn : NoInt cs.toList) (j : Nat) (v : Value) : Vr d (W.setCell ⟨g, j, none⟩ v) u l := by
  obtain ⟨A, c, e, r⟩ := h.get
  refine ⟨A, c, e, r.cap, r.at_.1, r.at_.2.1, fun hn' => ?_⟩
  obtain ⟨ad, e, hc⟩ := r.at_.2.2 hn'
  refine ⟨ad, e, fun i p hp => ?_⟩
  obtain ⟨cs', h1, h2, h3⟩ := hc i p hp
  obtain ⟨f1, f2⟩ := hd _ _ _ h2
  refine ⟨cs', h1, f1 _, fun k u hu => ?_⟩
  have h4 := h3 k u hu
  rw [cell_far ?_]
  · exact h4
  · intro hg
    have hm := cell_in h4 (by rw [show (ad.add (i * d.sz + k)).block = g from hg]; exact hb.get)
    obtain ⟨n, rfl⟩ := f2 u (List.mem_of_getElem? hu)
    exact hn _ hm n rfl
/-- What holds of a world and stays where a variable without numbers is written. -/
class Fa (P : World → Prop) : Prop where
  fa : ∀ {W : World} {g t : Nat} {cs : Array Value}, Blk W g t cs → NoInt cs.toList → ∀ (j : Nat) (v : Value), P W → P (W.setCell ⟨g, j, none⟩ v)
structure VrW {α : Type} (d : Kd α) (v : Value) (l : List α) (W : World) : Prop where
  r : Vr d W v l
instance {α : Type} {d : Kd α} {v : Value} {l : List α} : Mo (VrW d v l) := ⟨fun hb h => ⟨h.r.below hb⟩⟩
instance {v : Value} {l : List Int} : Fa (VrW (Kd.int .i64) v l) := ⟨fun hb hn j u h => ⟨h.r.farB flat_int hb hn j u⟩⟩
instance {v : Value} {l : List S94} : Fa (VrW k94 v l) := ⟨fun hb hn j u h => ⟨h.r.farB flat38 hb hn j u⟩⟩
instance {v : Value} {l : List S79} : Fa (VrW k79 v l) := ⟨fun hb hn j u h => ⟨h.r.farB flat79 hb hn j u⟩⟩
instance {P Q : World → Prop} [Fa P] [Fa Q] : Fa (Two P Q) := ⟨fun hb hn j v h => ⟨Fa.fa hb hn j v h.l, Fa.fa hb hn j v h.r⟩⟩
structure TrueW (W : World) : Prop where
  r : True
instance : Mo TrueW := ⟨fun _ _ => ⟨trivial⟩⟩
instance : Fa TrueW := ⟨fun _ _ _ _ _ => ⟨trivial⟩⟩
theorem cV {α : Type} {d : Kd α} {v : Value} {l : List α} {W : World} {Q : World → Prop} (x : Vr d W v l) (y : Q W) : Two (VrW d v l) Q W := ⟨⟨x⟩, y⟩
/-- Slices. -/
def Slc : List Value → Prop
  | [] => True
  | v :: r => (∃ A n c, v = .slice A n c) ∧ Slc r
theorem Slc.no : ∀ {vs : List Value}, Slc vs → NoInt vs
  | [], _ => noInt_nil
  | v :: r, h => fun u hu => by
    rcases List.mem_cons.mp hu with rfl | hu
    · obtain ⟨⟨A, n, c, rfl⟩, _⟩ := h
      exact sl_ne _ _ _
    · exact Slc.no h.2 u hu
theorem Slc.one : ∀ {vs : List Value}, Slc vs → ∀ u ∈ vs, u.oneCell' = true
  | [], _ => fun _ h => by cases h
  | v :: r, h => fun u hu => by
    rcases List.mem_cons.mp hu with rfl | hu
    · obtain ⟨⟨A, n, c, rfl⟩, _⟩ := h
      rfl
    · exact Slc.one h.2 u hu
def fillL (cs : List Value) : Nat → List Value → List Value
  | _, [] => cs
  | j, v :: r => fillL (cs.set j v) (j + 1) r
theorem fill_all {P : World → Prop} [Fa P] {w W : World} {g t : Nat} {cs : List Value} (h : P W) (hb : Blk W g t cs.toArray) (hn : NoInt cs) (hs : Since w W) (hg : w.heap.size ≤ g) :
    ∀ (vs : List Value) (j : Nat), NoInt vs → P (W.setCells g j vs) ∧ Blk (W.setCells g j vs) g t (fillL cs j vs).toArray ∧ Since w (W.setCells g j vs) := by
  intro vs
  induction vs generalizing W cs with
  | nil => intro j _; exact ⟨h, hb, hs⟩
  | cons v r ih =>
    intro j hv
    have h1 : NoInt (cs.set j v) := noInt_set hn (hv v List.mem_cons_self) j
    exact ih (Fa.fa hb (by simpa using hn) j v h) ⟨blk_put hb.get j v (by simp)⟩ h1 (hs.put hg v) (j + 1) (fun u hu => hv u (List.mem_cons_of_mem _ hu))
theorem there_of {W : World} {g t : Nat} {cs : List Value} (hb : Blk W g t cs.toArray) {j n : Nat} (h : j + n ≤ cs.length) : W.there g j n := fun k hk => by
  refine ⟨?_, blk_frozen hb.get _⟩
  rw [hb.c]
  simp
  omega
/-- Slices are stored into variable g, from cell j on. -/
theorem wpl_store {P : Program} {ops : Array Oper} {rest : List Oper} {op : Oper} {a : Act} {w W : World} {Q : Exit → Act → World → Prop} {F : World → Prop} [Fa F] (hgd : op.guard = none) (hN : op.dst = none) (ty : TypeId) (x y : Operand) (ho : op.op = .store ty x y)
    (g j t : Nat) (cs vs : List Value) (hx : a.eval x = .pointer (some ⟨g, j, none⟩)) (hy : a.eval y = .agg vs.toArray) (hi : (P.info? ty).map (·.size) = some vs.length) (hv : Slc vs) (hb : Blk W g t cs.toArray) (hc : Slc cs) (hl : j + vs.length ≤ cs.length) (hF : F W) (hs : Since w W) (hg : w.heap.size ≤ g)
    (h : ∀ W', F W' → Blk W' g t (fillL cs j vs).toArray → Since w W' → wpList P ops Q rest a W') : wpList P ops Q (op :: rest) a W := by
  refine wpList_store_mid hgd ty x y ho g j vs.toArray hx hy (there_of hb hl) (by simpa using hi) (by simpa using hv.one) ?_
  rw [hN]
  obtain ⟨h1, h2, h3⟩ := fill_all hF hb hc.no hs hg vs j hv.no
  exact h _ h1 h2 h3
/-- Two values are not rows of one block. -/
def Ap (u v : Value) : Prop := ∀ k, u.ownBlock = some k → v.ownBlock ≠ some k
theorem Ap.symm {u v : Value} (h : Ap u v) : Ap v u := fun k h1 h2 => h k h2 h1
theorem ap_nil (v : Value) (n c : Nat) : Ap (.slice none n c) v := fun k h => by simp [Value.ownBlock] at h
theorem ap_grown {α : Type} {d : Kd α} {e base : Nat} {ok : Nat → Prop} {W : World} {c u v1 : Value} {xs : List α} (h : Ap c u) (hu : Kd.R d e W base ok u xs) (hat : v1.ownBlock = c.ownBlock ∨ ∃ b, v1.ownBlock = some b ∧ W.heap.size ≤ b) : Ap v1 u := by
  intro k h1 h2
  rcases hat with e | ⟨b, e, hb⟩
  · exact h k (e ▸ h1) h2
  · rw [e] at h1
    cases h1
    have := Kd.R_lt hu _ h2
    omega
theorem ap_ne {c u : Value} (h : Ap c u) : ∀ k, c.ownBlock = some k → some k ≠ u.ownBlock := fun k h1 h2 => h k h1 h2.symm
/-- Variables g (a graph) and m (a morphism): b.. what they hold, c.. the rows as they grow, l.. what these rows read as. -/
structure Ov (W1 : World) (g m : Nat) (bN bE bM bF cN cE cM cF : Value) (lN : List Int) (lE : List S94) (lM lF : List Int) (W : World) : Prop where
  sb : Since W1 W
  bg : Box2 W g 25 bN bE
  bm : Box2 W m 27 bM bF
  hg : W1.heap.size ≤ g
  hm : W1.heap.size ≤ m
  oN : Kd.R (Kd.int .i64) 3 W W1.heap.size (fun _ => True) cN lN
  oE : Kd.R k94 94 W W1.heap.size (fun _ => True) cE lE
  oM : Kd.R (Kd.int .i64) 3 W W1.heap.size (fun _ => True) cM lM
  oF : Kd.R (Kd.int .i64) 3 W W1.heap.size (fun _ => True) cF lF
  aNM : Ap cN cM
  aNF : Ap cN cF
  aMF : Ap cM cF
section
variable {W1 W W' : World} {g m : Nat} {bN bE bM bF cN cE cM cF v1 : Value} {lN lM lF : List Int} {lE : List S94}
theorem Ov.below (h : Ov W1 g m bN bE bM bF cN cE cM cF lN lE lM lF W) (hb : Below W.heap.size W W') : Ov W1 g m bN bE bM bF cN cE cM cF lN lE lM lF W' :=
  ⟨h.sb.step hb, h.bg.below hb, h.bm.below hb, h.hg, h.hm, Kd.R_below h.oN hb, Kd.R_below h.oE hb, Kd.R_below h.oM hb, Kd.R_below h.oF hb, h.aNM, h.aNF, h.aMF⟩
theorem Ov.appN {l' : List Int} (h : Ov W1 g m bN bE bM bF cN cE cM cF lN lE lM lF W) (ho : Kd.R (Kd.int .i64) 3 W' W1.heap.size (fun _ => True) v1 l') (hb : Below W1.heap.size W1 W') (hg : W.grownBy W' cN.ownBlock) (hat : v1.ownBlock = cN.ownBlock ∨ ∃ b, v1.ownBlock = some b ∧ W.heap.size ≤ b) : Ov W1 g m bN bE bM bF v1 cE cM cF l' lE lM lF W' :=
  ⟨⟨hb⟩, ⟨blk_grown h.bg.get hg (Kd.R_ne h.oN h.bg.get (by decide))⟩, ⟨blk_grown h.bm.get hg (Kd.R_ne h.oN h.bm.get (by decide))⟩, h.hg, h.hm, ho, Kd.R_over h.oE h.oN (by decide) hg, Kd.R_grown2 h.oM rfl hg (ap_ne h.aNM), Kd.R_grown2 h.oF rfl hg (ap_ne h.aNF), ap_grown h.aNM h.oM hat, ap_grown h.aNF h.oF hat, h.aMF⟩
theorem Ov.appM {l' : List Int} (h : Ov W1 g m bN bE bM bF cN cE cM cF lN lE lM lF W) (ho : Kd.R (Kd.int .i64) 3 W' W1.heap.size (fun _ => True) v1 l') (hb : Below W1.heap.size W1 W') (hg : W.grownBy W' cM.ownBlock) (hat : v1.ownBlock = cM.ownBlock ∨ ∃ b, v1.ownBlock = some b ∧ W.heap.size ≤ b) : Ov W1 g m bN bE bM bF cN cE v1 cF lN lE l' lF W' :=
  ⟨⟨hb⟩, ⟨blk_grown h.bg.get hg (Kd.R_ne h.oM h.bg.get (by decide))⟩, ⟨blk_grown h.bm.get hg (Kd.R_ne h.oM h.bm.get (by decide))⟩, h.hg, h.hm, Kd.R_grown2 h.oN rfl hg (ap_ne h.aNM.symm), Kd.R_over h.oE h.oM (by decide) hg, ho, Kd.R_grown2 h.oF rfl hg (ap_ne h.aMF), (ap_grown h.aNM.symm h.oN hat).symm, h.aNF, ap_grown h.aMF h.oF hat⟩
theorem Ov.appF {l' : List Int} (h : Ov W1 g m bN bE bM bF cN cE cM cF lN lE lM lF W) (ho : Kd.R (Kd.int .i64) 3 W' W1.heap.size (fun _ => True) v1 l') (hb : Below W1.heap.size W1 W') (hg : W.grownBy W' cF.ownBlock) (hat : v1.ownBlock = cF.ownBlock ∨ ∃ b, v1.ownBlock = some b ∧ W.heap.size ≤ b) : Ov W1 g m bN bE bM bF cN cE cM v1 lN lE lM l' W' :=
  ⟨⟨hb⟩, ⟨blk_grown h.bg.get hg (Kd.R_ne h.oF h.bg.get (by decide))⟩, ⟨blk_grown h.bm.get hg (Kd.R_ne h.oF h.bm.get (by decide))⟩, h.hg, h.hm, Kd.R_grown2 h.oN rfl hg (ap_ne h.aNF.symm), Kd.R_over h.oE h.oF (by decide) hg, Kd.R_grown2 h.oM rfl hg (ap_ne h.aMF.symm), ho, h.aNM, (ap_grown h.aNF.symm h.oN hat).symm, (ap_grown h.aMF.symm h.oM hat).symm⟩
theorem Ov.appE {l' : List S94} (h : Ov W1 g m bN bE bM bF cN cE cM cF lN lE lM lF W) (ho : Kd.R k94 94 W' W1.heap.size (fun _ => True) v1 l') (hb : Below W1.heap.size W1 W') (hg : W.grownBy W' cE.ownBlock) : Ov W1 g m bN bE bM bF cN v1 cM cF lN l' lM lF W' :=
  ⟨⟨hb⟩, ⟨blk_grown h.bg.get hg (Kd.R_ne h.oE h.bg.get (by decide))⟩, ⟨blk_grown h.bm.get hg (Kd.R_ne h.oE h.bm.get (by decide))⟩, h.hg, h.hm, Kd.R_over h.oN h.oE (by decide) hg, ho, Kd.R_over h.oM h.oE (by decide) hg, Kd.R_over h.oF h.oE (by decide) hg, h.aNM, h.aNF, h.aMF⟩
theorem Ov.ne (h : Ov W1 g m bN bE bM bF cN cE cM cF lN lE lM lF W) : m ≠ g := blk_ne h.bm.get h.bg.get (by decide)
theorem Ov.put0 (h : Ov W1 g m bN bE bM bF cN cE cM cF lN lE lM lF W) (v : Value) : Ov W1 g m v bE bM bF cN cE cM cF lN lE lM lF (W.setCell ⟨g, 0, none⟩ v) :=
  ⟨h.sb.put h.hg v, h.bg.put0 v, h.bm.far (p := ⟨g, 0, none⟩) h.ne v, h.hg, h.hm, Kd.R_set h.oN h.bg.get (by decide) 0 v, Kd.R_set h.oE h.bg.get (by decide) 0 v, Kd.R_set h.oM h.bg.get (by decide) 0 v, Kd.R_set h.oF h.bg.get (by decide) 0 v, h.aNM, h.aNF, h.aMF⟩
theorem Ov.put1 (h : Ov W1 g m bN bE bM bF cN cE cM cF lN lE lM lF W) (v : Value) : Ov W1 g m bN v bM bF cN cE cM cF lN lE lM lF (W.setCell ⟨g, 1, none⟩ v) :=
  ⟨h.sb.put h.hg v, h.bg.put1 v, h.bm.far (p := ⟨g, 1, none⟩) h.ne v, h.hg, h.hm, Kd.R_set h.oN h.bg.get (by decide) 1 v, Kd.R_set h.oE h.bg.get (by decide) 1 v, Kd.R_set h.oM h.bg.get (by decide) 1 v, Kd.R_set h.oF h.bg.get (by decide) 1 v, h.aNM, h.aNF, h.aMF⟩
theorem Ov.put2 (h : Ov W1 g m bN bE bM bF cN cE cM cF lN lE lM lF W) (v : Value) : Ov W1 g m bN bE v bF cN cE cM cF lN lE lM lF (W.setCell ⟨m, 0, none⟩ v) :=
  ⟨h.sb.put h.hm v, h.bg.far (p := ⟨m, 0, none⟩) h.ne.symm v, h.bm.put0 v, h.hg, h.hm, Kd.R_set h.oN h.bm.get (by decide) 0 v, Kd.R_set h.oE h.bm.get (by decide) 0 v, Kd.R_set h.oM h.bm.get (by decide) 0 v, Kd.R_set h.oF h.bm.get (by decide) 0 v, h.aNM, h.aNF, h.aMF⟩
theorem Ov.put3 (h : Ov W1 g m bN bE bM bF cN cE cM cF lN lE lM lF W) (v : Value) : Ov W1 g m bN bE bM v cN cE cM cF lN lE lM lF (W.setCell ⟨m, 1, none⟩ v) :=
  ⟨h.sb.put h.hm v, h.bg.far (p := ⟨m, 1, none⟩) h.ne.symm v, h.bm.put1 v, h.hg, h.hm, Kd.R_set h.oN h.bm.get (by decide) 1 v, Kd.R_set h.oE h.bm.get (by decide) 1 v, Kd.R_set h.oM h.bm.get (by decide) 1 v, Kd.R_set h.oF h.bm.get (by decide) 1 v, h.aNM, h.aNF, h.aMF⟩
end
end Go.Proofs.Ytillofiphkmjjaa.X

namespace Go.Proofs.Ytillofiphkmjjaa.X
open Go.RowKit Go.Proofs.YtillofiphkmjjaaW.PrintWords Go.Proofs.YtillofiphkmjjaaW.PrintLast Go.Proofs.YtillofiphkmjjaaW.PrintMore
open Go.Proofs.YtillofiphkmjjaaW.PrintWords renaming blk_drewN → bN, blk_drew → bD, blk_alloc → bA, below_alloc → wA, pw_below_drewN → wN, below_drew1 → wD, blk_below → bB, below_step → wS, blk_at → bT, blk_grown → bG
open Go.Proofs.YtillofiphkmjjaaW.PrintWords.Kd renaming R_alloc → rA, R_drewN → rN, R_drew → rD, R_below → rB, R_grown → rG, C_below → cB, C_alloc → cA, C_drewN → cN, C_drew → cD
attribute [local go_sem] max2_int min2_int max_two min_two max_three min_three max_four min_four
set_option linter.unusedVariables false
set_option linter.unusedSimpArgs false
/-! ### scarfjointref11_over: function 54 -/
def scarfjointref11_over.l0 : Nat → List Int → Int → List Int → Int → Option (List Int)
 | 0, _, _, _, _ => none
 | k + 1, x0, x1, x5, x6 => if x6 < (x0.length : Int) then (if 0 ≤ x6 then (if (rd x0 x6) = x1 then (if x5.length < 17592186044416 then (scarfjointref11_over.l0 k x0 x1 (x5 ++ [x6]) (wrap64 (x6 + 1))) else (none)) else (scarfjointref11_over.l0 k x0 x1 x5 (wrap64 (x6 + 1)))) else (none)) else (some x5)
def scarfjointref11_over.f (k : Nat) (l0 : List Int) (a1 : Int) : Option (List Int) := scarfjointref11_over.l0 k l0 a1 ([] : List Int) 0
theorem scarfjointref11_over.mono_l : ∀ k, (∀ y0 y1 y2 y3, LeO (scarfjointref11_over.l0 k y0 y1 y2 y3) (scarfjointref11_over.l0 (k + 1) y0 y1 y2 y3))
 | 0 => fun _ _ _ _ r h => by simp [scarfjointref11_over.l0] at h
 | k + 1 => by
  have ih0 := scarfjointref11_over.mono_l k
  ·intro y0 y1 y2 y3
   unfold scarfjointref11_over.l0
   repeat' first
   | (with_reducible exact ih0 _ _ _ _)
   | (with_reducible exact LeO.refl _)
   | (with_reducible exact LeO.none _)
   | (with_reducible refine LeO.ite ?_ ?_)
   | (with_reducible refine LeO.bind ?_ (fun _ => ?_))
   | exact ih0 _ _ _ _
   | exact LeO.none _
   | refine LeO.ite ?_ ?_
   | refine LeO.bind ?_ (fun _ => ?_)
theorem scarfjointref11_over.mono : ∀ a0 a1 k, LeO (scarfjointref11_over.f k a0 a1) (scarfjointref11_over.f (k + 1) a0 a1) := by
 intro a0 a1 k
 have ih0 := scarfjointref11_over.mono_l k
 unfold scarfjointref11_over.f
 repeat' first
   | (with_reducible exact ih0 _ _ _ _)
   | (with_reducible exact LeO.refl _)
   | (with_reducible exact LeO.none _)
   | (with_reducible refine LeO.ite ?_ ?_)
   | (with_reducible refine LeO.bind ?_ (fun _ => ?_))
   | exact ih0 _ _ _ _
   | exact LeO.none _
   | refine LeO.ite ?_ ?_
   | refine LeO.bind ?_ (fun _ => ?_)
set_option maxHeartbeats 8000000 in
set_option maxRecDepth 100000 in
theorem scarfjointref11_over.calls (k : Nat) (A0 : Option Addr) (c0 : Nat) (l0 : List Int) (a1 : Int) (r : List Int) (w : World) (hr0 : Kd.C (Kd.int .i64) w A0 l0.length l0) (hc0 : l0.length ≤ c0) (h : scarfjointref11_over.f k l0 a1 = some r) :
  Calls Try.prog 54 #[.slice A0 l0.length c0, .int .i64 a1] w fun e w' => ∃ v0_ : Value, e = .returned (v0_) ∧ Kd.R (Kd.int .i64) 3 w' w.heap.size (fun _ => True) v0_ r ∧ Below w.heap.size w w' := by
 have HR0 := Aside0.mk hr0
 have HC0 := Aside0.mk hc0
 clear hr0 hc0
 have HB := Aside0.mk (Below.refl w.heap.size w)
 have H : (scarfjointref11_over.l0 k l0 a1 ([] : List Int) 0) = some r := h
 clear h
 have H' := Aside0.mk H
 clear H
 go_enter Try.func54, Try.ntmps54
 go_wp2
 go_loopg [5, 6] k (fun kq v5 v6 w' => ∃ (x5_1 : List Int) (x6_1 : Int), v6 = .int .i64 x6_1 ∧ Aside0 (scarfjointref11_over.l0 kq l0 a1 x5_1 x6_1 = some r) ∧ Aside0 (kq ≤ k) ∧ Aside0 (Kd.R (Kd.int .i64) 3 w' w.heap.size (fun _ => True) v5 x5_1) ∧ Aside0 (Below w.heap.size w w'))
 case atStart => exact ⟨(([] : List Int)), (0), rS, H', ⟨Nat.le_refl _⟩, ⟨by first | exact Kd.R_nil _ _ _ _ _ | exact Kd.N_nil _ _ _ _ _ | exact Kd.V_nil _ _ _ _ _ | exact Kd.Q_nil _ _ _ _ _ | exact Kd.S_nil _ _ _ _ _⟩, ⟨pH HB⟩⟩
 case round =>
  clear H'
  try clear p2
  obtain ⟨x5_1, x6_1, rfl, HA, HK1, Q00, HB⟩ := hrel
  cases gk with
  | zero => exact absurd HA.out (by simp [scarfjointref11_over.l0])
  | succ k1 =>
   have H := HA.out
   clear HA
   simp only [scarfjointref11_over.l0] at H
   by_cases c3 : x6_1 < (l0.length : Int)
   ·rw [if_pos c3] at H
    have c3b0 : decide (x6_1 < (l0.length : Int)) = true := decide_eq_true c3
    clear c3
    by_cases c4 : 0 ≤ x6_1
    ·rw [if_pos c4] at H
     have c4b0 : decide (0 ≤ x6_1) = true := decide_eq_true c4
     clear c4
     by_cases c5 : (rd l0 x6_1) = a1
     ·rw [if_pos c5] at H
      have c5b0 : ((rd l0 x6_1) == a1) = true := beq_iff_eq.mpr c5
      have c5b1 : ((rd l0 x6_1) != a1) = false := bne_eq_false_iff_eq.mpr c5
      clear c5
      by_cases c6 : x5_1.length < 17592186044416
      ·rw [if_pos c6] at H
       have LMc6 := Aside0.mk c6
       clear c6
       obtain ⟨y102, hy102⟩ : ∃ y_ : List Int, y_ = (x5_1 ++ [x6_1]) := ⟨_, rfl⟩
       replace H : (scarfjointref11_over.l0 k1 l0 a1 y102 (wrap64 (x6_1 + 1))) = some r := by first | (rw [hy102]; with_reducible exact H) | (have H2_ := (Option.bind_some _ _).symm.trans H; rw [hy102]; with_reducible exact H2_) | (have H2_ := (Option.bind_some _ _).symm.trans H; with_reducible exact H2_) | with_reducible exact H | (rw [hy102]; exact H) | exact H
       have Ny102 := Aside0.mk hy102
       clear hy102
       have H' := Aside0.mk H
       clear H
       have p101 : 0 ≤ (x6_1 : Int) := oT
       have q101 : x6_1 < (l0.length : Int) := oT
       obtain ⟨ad101, e101, hx101_0⟩ := Kd.at_int HR0.out x6_1 p101 q101
       cases e101
       replace hx101_0 := (HB.out.cell (World.block_lt_of_cell? w _ hx101_0)).trans hx101_0
       replace p101 := eq_true p101
       replace q101 := eq_true q101
       go_wp2_with (first | ((with_reducible refine gate_builtin (b := .append) (xs := #[.tmp 19, .tmp 21]) rfl ?_); at_builtin; refine Kd.R_append (Kd.int .i64) (w0 := w) w.heap.size rfl (.tmp 19) (.tmp 21) 22 3 (.int .i64 0) 8 rfl Try.underlying22 info3 rfl (by decide) (by omega) u5 x5_1 x6_1 [.int .i64 x6_1] (fun _ => True) (fun _ => False) rfl rfl ?aP (fun _ hk => hk.elim) ?aF ?aO ?aB ?aS ?aL ?_; (case aP => exact rfl); (case aB => exact hB); (case aF => exact (fun _ _ => trivial)); (case aO => exact (pR Q00)); (case aS => exact (below_size hB)); (case aL => have := LMc6.out; omega); intro v103 w7 ho hb hg hat; rw [← Ny102.out] at ho; replace HB := Aside0.mk (hb); have Q01 := Aside0.mk (ho); clear Q00; clear ho hb hg hat))
       go_roundg k1
       case measure => have := HK1.out; omega
       case rel => exact ⟨(y102), (wrap64 (x6_1 + 1)), rS, H', ⟨by have := HK1.out; omega⟩, ⟨pR Q01⟩, ⟨pH HB⟩⟩
      ·rw [if_neg c6] at H
       exact absurd H (by simp)
     ·rw [if_neg c5] at H
      have c5b0 : ((rd l0 x6_1) == a1) = false := beq_eq_false_iff_ne.mpr c5
      have c5b1 : ((rd l0 x6_1) != a1) = true := bne_iff_ne.mpr c5
      have H' := Aside0.mk H
      clear H
      have p101 : 0 ≤ (x6_1 : Int) := oT
      have q101 : x6_1 < (l0.length : Int) := oT
      obtain ⟨ad101, e101, hx101_0⟩ := Kd.at_int HR0.out x6_1 p101 q101
      cases e101
      replace hx101_0 := (HB.out.cell (World.block_lt_of_cell? w _ hx101_0)).trans hx101_0
      replace p101 := eq_true p101
      replace q101 := eq_true q101
      go_wp2
      go_roundg k1
      case measure => have := HK1.out; omega
      case rel => exact ⟨(x5_1), (wrap64 (x6_1 + 1)), rS, H', ⟨by have := HK1.out; omega⟩, ⟨pR Q00⟩, ⟨pH HB⟩⟩
    ·rw [if_neg c4] at H
     exact absurd H (by simp)
   ·rw [if_neg c3] at H
    have c3b0 : decide (x6_1 < (l0.length : Int)) = false := decide_eq_false c3
    clear c3
    obtain rfl := Option.some.inj H
    go_wp2
    go_ret
    exact ⟨_, by first | rfl | (simp [errW_none, errW_some] <;> rfl) | (simp [*, errW_none, errW_some] <;> rfl), by (with_reducible repeat (first | apply rA | apply rN | apply rD)); exact Q00.out, by repeat (first | (with_reducible first | exact HB.out | apply wA | apply wN | apply wD) | exact HB.out)⟩
end Go.Proofs.Ytillofiphkmjjaa.X

/- Plain laws: pairs of places. -/
namespace Go.Proofs.Ytillofiphkmjjaa.Pl
open Go.RowKit Go.Proofs.YtillofiphkmjjaaW.PrintWords Go.Proofs.Ytillofiphkmjjaa.X
set_option linter.unusedVariables false
theorem rd_mid' (pre : List Int) (x : Int) (r : List Int) {n : Nat} (h : n = pre.length) : rd (pre ++ x :: r) (n : Int) = x := by subst h; exact rd_mid pre x r
theorem lt_mid' {α : Type} (pre : List α) (x : α) (r : List α) {n : Nat} (h : n = pre.length) : (n : Int) < ((pre ++ x :: r).length : Int) := by subst h; exact lt_mid pre x r
/-! pairs of places -/
def row1 (i x : Int) : Int → List Int → List S79
 | _, [] => []
 | k, y :: s => if x = y then ⟨i, k⟩ :: row1 i x (k + 1) s else row1 i x (k + 1) s
def rows (g : List Int) : Int → List Int → List S79
 | _, [] => []
 | i, x :: r => row1 i x 0 g ++ rows g (i + 1) r
def tri : Int → List Int → List S79
 | _, [] => []
 | i, x :: r => row1 i x (i + 1) r ++ tri (i + 1) r
theorem row1_len (i x : Int) : ∀ (s : List Int) (k : Int), (row1 i x k s).length ≤ s.length := by
 intro s
 induction s with
 | nil => intro k; simp [row1]
 | cons y s ih =>
  intro k
  have := ih (k + 1)
  unfold row1
  split <;> simp <;> omega
theorem pairs_l1 (f g : List Int) (i x : Int) {R : List S79} (hg : g.length ≤ 1000000) : ∀ (r pre : List Int) (acc : List S79), g = pre ++ r → acc.length + r.length ≤ 8796093022207 →
  Ev (fun k => pullback_pairs.l0 k g (acc ++ row1 i x pre.length r) f (f.length : Int) (wrap64 (i + 1))) R → Ev (fun k => pullback_pairs.l1 k g acc i x f (f.length : Int) i g (g.length : Int) (pre.length : Int)) R := by
 intro r
 induction r with
 | nil =>
  rintro pre acc rfl h1 h
  refine Ev.step (fun k => by simp only [pullback_pairs.l1]; rw [if_neg (by simp)]) ?_
  simpa [row1] using h
 | cons y r ih =>
  rintro pre acc rfl h1 h
  simp at hg h1
  have e : wrap64 ((pre.length : Int) + 1) = ((pre ++ [y]).length : Int) := wrap_mid pre y r (by simp; omega)
  by_cases hxy : x = y
  ·refine Ev.step (fun k => by simp only [pullback_pairs.l1]; rw [if_pos (lt_mid pre y r), if_pos (by omega), if_pos (lt_mid pre y r), rd_mid, if_pos hxy, if_pos (by omega), e]) ?_
   refine ih (pre ++ [y]) _ (snoc_mid pre y r) (by simp; omega) ?_
   have e2 : row1 i x (pre.length : Int) (y :: r) = ⟨i, (pre.length : Int)⟩ :: row1 i x ((pre.length : Int) + 1) r := by rw [row1, if_pos hxy]
   rw [e2] at h
   simpa using h
  ·refine Ev.step (fun k => by simp only [pullback_pairs.l1]; rw [if_pos (lt_mid pre y r), if_pos (by omega), if_pos (lt_mid pre y r), rd_mid, if_neg hxy, e]) ?_
   refine ih (pre ++ [y]) _ (snoc_mid pre y r) (by omega) ?_
   have e2 : row1 i x (pre.length : Int) (y :: r) = row1 i x ((pre.length : Int) + 1) r := by rw [row1, if_neg hxy]
   rw [e2] at h
   simpa using h
theorem pairs_l0 (f g : List Int) (hf : f.length ≤ 1000000) (hg : g.length ≤ 1000000) : ∀ (r pre : List Int) (acc : List S79), f = pre ++ r → acc.length + r.length * g.length ≤ 8796093022207 →
  Ev (fun k => pullback_pairs.l0 k g acc f (f.length : Int) (pre.length : Int)) (acc ++ rows g pre.length r) := by
 intro r
 induction r with
 | nil =>
  rintro pre acc rfl h1
  refine Ev.step (fun k => by simp only [pullback_pairs.l0]; rw [if_neg (by simp)]) ?_
  simpa [rows] using Ev.now acc
 | cons x r ih =>
  rintro pre acc rfl h1
  rw [List.length_cons, Nat.succ_mul] at h1
  have e : wrap64 ((pre.length : Int) + 1) = ((pre ++ [x]).length : Int) := wrap_mid pre x r (by omega)
  have hr := row1_len (pre.length : Int) x g 0
  have ih' := ih (pre ++ [x]) (acc ++ row1 (pre.length : Int) x 0 g) (snoc_mid pre x r) (by rw [List.length_append]; omega)
  refine Ev.step (fun k => by simp only [pullback_pairs.l0]; rw [if_pos (lt_mid pre x r), if_pos (by omega), if_pos (lt_mid pre x r), rd_mid]) ?_
  refine pairs_l1 (pre ++ x :: r) g (pre.length : Int) x hg g [] acc rfl (by omega) ?_
  rw [e]
  have e2 : rows g (pre.length : Int) (x :: r) = row1 (pre.length : Int) x 0 g ++ rows g ((pre.length : Int) + 1) r := rfl
  rw [e2]
  simpa using ih'
theorem pairs_ev (f g : List Int) (hf : f.length ≤ 1000000) (hg : g.length ≤ 1000000) : Ev (fun k => pullback_pairs.f k f g) (rows g 0 f) := by
 unfold pullback_pairs.f
 have := Nat.mul_le_mul hf hg
 simpa using pairs_l0 f g hf hg f [] [] rfl (by simp; omega)
/-! both kernels are one -/
theorem row1_append (i x : Int) : ∀ (a b : List Int) (k : Int), row1 i x k (a ++ b) = row1 i x k a ++ row1 i x (k + a.length) b := by
 intro a
 induction a with
 | nil => intro b k; simp [row1]
 | cons y a ih =>
  intro b k
  have e : k + 1 + (a.length : Int) = k + ((y :: a).length : Int) := by simp; omega
  simp only [List.cons_append, row1]
  split
  ·rw [ih, e]; rfl
  ·rw [ih, e]
theorem row1_mem (i x : Int) : ∀ (s : List Int) (k : Int) (p : S79), p ∈ row1 i x k s → p.f0 = i ∧ k ≤ p.f1 ∧ p.f1 < k + s.length := by
 intro s
 induction s with
 | nil => intro k p h; simp [row1] at h
 | cons y s ih =>
  intro k p h
  unfold row1 at h
  have hi := ih (k + 1) p
  split at h
  ·rcases List.mem_cons.mp h with rfl | h
   ·refine ⟨rfl, Int.le_refl _, ?_⟩
    simp; omega
   ·have := hi h
    refine ⟨this.1, by omega, ?_⟩
    simp; omega
  ·have := hi h
   refine ⟨this.1, by omega, ?_⟩
   simp; omega
theorem rows_filter (f : List Int) : ∀ (r pre : List Int), f = pre ++ r → (rows f pre.length r).filter (fun p => !decide (p.f0 ≥ p.f1)) = tri pre.length r := by
 intro r
 induction r with
 | nil => intro pre h; rfl
 | cons x r ih =>
  intro pre h
  have ih' := ih (pre ++ [x]) (by rw [h]; exact snoc_mid pre x r)
  have e2 : tri (pre.length : Int) (x :: r) = row1 (pre.length : Int) x ((pre.length : Int) + 1) r ++ tri ((pre.length : Int) + 1) r := rfl
  have e3 : rows f (pre.length : Int) (x :: r) = row1 (pre.length : Int) x 0 f ++ rows f ((pre.length : Int) + 1) r := rfl
  have e4 : row1 (pre.length : Int) x 0 f = row1 (pre.length : Int) x 0 (pre ++ [x]) ++ row1 (pre.length : Int) x ((pre.length : Int) + 1) r := by
   conv => lhs; rw [h, snoc_mid pre x r, row1_append]
   simp
  rw [e2, e3, e4, List.filter_append, List.filter_append]
  have e5 : (row1 (pre.length : Int) x 0 (pre ++ [x])).filter (fun p => !decide (p.f0 ≥ p.f1)) = [] := by
   rw [List.filter_eq_nil_iff]
   intro p hp
   obtain ⟨h1, h2, h3⟩ := row1_mem _ _ _ _ _ hp
   simp at h3
   have : p.f0 ≥ p.f1 := by omega
   simp [this]
  have e6 : (row1 (pre.length : Int) x ((pre.length : Int) + 1) r).filter (fun p => !decide (p.f0 ≥ p.f1)) = row1 (pre.length : Int) x ((pre.length : Int) + 1) r := by
   rw [List.filter_eq_self]
   intro p hp
   obtain ⟨h1, h2, h3⟩ := row1_mem _ _ _ _ _ hp
   have : ¬ p.f0 ≥ p.f1 := by omega
   simp [this]
  rw [e5, e6]
  have e7 : ((pre ++ [x]).length : Int) = (pre.length : Int) + 1 := by simp
  rw [e7] at ih'
  rw [ih']
  rfl
theorem row1_nil (i x : Int) : ∀ (s : List Int) (k : Int), row1 i x k s = [] ↔ x ∉ s := by
 intro s
 induction s with
 | nil => intro k; simp [row1]
 | cons y s ih =>
  intro k
  unfold row1
  by_cases h : x = y
  ·simp [h]
  ·simp [h, ih]
theorem tri_nil : ∀ (l : List Int) (i : Int), tri i l = [] ↔ l.Nodup := by
 intro l
 induction l with
 | nil => intro i; simp [tri]
 | cons x r ih =>
  intro i
  rw [tri, List.append_eq_nil_iff, row1_nil, ih, List.nodup_cons]
theorem rd79_mid (pre : List S79) (x : S79) (r : List S79) : rd_T79 (pre ++ x :: r) (pre.length : Int) = x := by
 unfold rd_T79; rw [Int.toNat_natCast, List.getD_eq_getElem?_getD, List.getElem?_append_right (Nat.le_refl _)]; simp
theorem rd_cons_zero (x : Int) (r : List Int) : rd (x :: r) ((0 : Nat) : Int) = x := rfl
theorem rd_cons_succ (x : Int) (r : List Int) (j : Nat) : rd (x :: r) ((j + 1 : Nat) : Int) = rd r (j : Int) := by
 unfold rd
 rw [Int.toNat_natCast, Int.toNat_natCast]
 rfl
theorem rd_get (l : List Int) (j : Nat) (h : j < l.length) : rd l (j : Int) = l[j] := by
 unfold rd
 rw [Int.toNat_natCast, List.getD_eq_getElem?_getD, List.getElem?_eq_getElem h]
 rfl
theorem rd79_get (l : List S79) (j : Nat) (h : j < l.length) : rd_T79 l (j : Int) = l[j] := by
 unfold rd_T79
 rw [Int.toNat_natCast, List.getD_eq_getElem?_getD, List.getElem?_eq_getElem h]
 rfl
theorem rd94_get (l : List S94) (j : Nat) (h : j < l.length) : rd_T94 l (j : Int) = l[j] := by
 unfold rd_T94
 rw [Int.toNat_natCast, List.getD_eq_getElem?_getD, List.getElem?_eq_getElem h]
 rfl
theorem validE_iff {a0 : List Int} {a1 : List S94} : validE a0 a1 = 0 ↔ a0.length ≤ 40 ∧ a1.length ≤ 80 ∧ (∀ t ∈ a0, kindB t = true) ∧ ∀ e ∈ a1, edgeB a0.length e = true := by
 unfold validE
 constructor
 ·intro h
  split at h
  ·exact absurd h (by decide)
  ·split at h
   ·exact absurd h (by decide)
   ·split at h
    ·exact absurd h (by decide)
    ·split at h
     ·exact absurd h (by decide)
     ·rename_i h1 h2 h3 h4
      refine ⟨by omega, by omega, fun t ht => ?_, fun e he => ?_⟩
      ·cases hb : kindB t
       ·exact absurd (List.any_eq_true.mpr ⟨t, ht, by rw [hb]; rfl⟩) h3
       ·rfl
      ·cases hb : edgeB a0.length e
       ·exact absurd (List.any_eq_true.mpr ⟨e, he, by rw [hb]; rfl⟩) h4
       ·rfl
 ·rintro ⟨h1, h2, h3, h4⟩
  rw [if_neg (by omega), if_neg (by omega), if_neg ?_, if_neg ?_]
  ·intro h
   obtain ⟨e, he, hb⟩ := List.any_eq_true.mp h
   rw [h4 e he] at hb
   exact absurd hb (by decide)
  ·intro h
   obtain ⟨t, ht, hb⟩ := List.any_eq_true.mp h
   rw [h3 t ht] at hb
   exact absurd hb (by decide)
def okN (a0 b0 n : List Int) : Prop := ∀ j : Nat, j < n.length → 0 ≤ rd n j ∧ rd n j < (b0.length : Int) ∧ rd b0 (rd n j) = rd a0 j
def okM (a1 b1 : List S94) (n m : List Int) : Prop := ∀ j : Nat, j < m.length → 0 ≤ rd m j ∧ rd m j < (b1.length : Int) ∧ (rd_T94 a1 j).f0 = (rd_T94 b1 (rd m j)).f0 ∧ rd n (rd_T94 a1 j).f1 = (rd_T94 b1 (rd m j)).f1 ∧ rd n (rd_T94 a1 j).f2 = (rd_T94 b1 (rd m j)).f2
theorem mvN_iff (a0 b0 : List Int) : ∀ (n : List Int) (i : Nat), mvN a0 b0 i n = 0 ↔ ∀ j : Nat, j < n.length → 0 ≤ rd n j ∧ rd n j < (b0.length : Int) ∧ rd b0 (rd n j) = rd a0 ((i + j : Nat) : Int) := by
 intro n
 induction n with
 | nil => intro i; simp [mvN]
 | cons k r ih =>
  intro i
  rw [mvN_cons]
  constructor
  ·intro h
   split at h
   ·exact absurd h (by decide)
   ·split at h
    ·exact absurd h (by decide)
    ·rename_i h1 h2
     intro j hj
     cases j with
     | zero =>
      rw [rd_cons_zero]
      refine ⟨by omega, by omega, ?_⟩
      have := Decidable.of_not_not h2
      simpa using this
     | succ j =>
      rw [rd_cons_succ]
      have e : (i : Int) + 1 = ((i + 1 : Nat) : Int) := by omega
      rw [e] at h
      have := (ih (i + 1)).mp h j (by simpa using hj)
      rw [show i + (j + 1) = i + 1 + j by omega]
      exact this
  ·intro h
   have h0 := h 0 (by simp)
   rw [rd_cons_zero] at h0
   rw [if_neg (by omega), if_neg (fun hh => hh (by simpa using h0.2.2))]
   have e : (i : Int) + 1 = ((i + 1 : Nat) : Int) := by omega
   rw [e]
   refine (ih (i + 1)).mpr (fun j hj => ?_)
   have := h (j + 1) (by simpa using hj)
   rw [rd_cons_succ, show i + (j + 1) = i + 1 + j by omega] at this
   exact this
theorem mvE_iff (a1 b1 : List S94) (n : List Int) : ∀ (m : List Int) (i : Nat), mvE a1 b1 n i m = 0 ↔ ∀ j : Nat, j < m.length → 0 ≤ rd m j ∧ rd m j < (b1.length : Int) ∧ (rd_T94 a1 ((i + j : Nat) : Int)).f0 = (rd_T94 b1 (rd m j)).f0 ∧ rd n (rd_T94 a1 ((i + j : Nat) : Int)).f1 = (rd_T94 b1 (rd m j)).f1 ∧ rd n (rd_T94 a1 ((i + j : Nat) : Int)).f2 = (rd_T94 b1 (rd m j)).f2 := by
 intro m
 induction m with
 | nil => intro i; simp [mvE]
 | cons k r ih =>
  intro i
  rw [mvE_cons]
  constructor
  ·intro h
   split at h
   ·exact absurd h (by decide)
   ·split at h
    ·exact absurd h (by decide)
    ·split at h
     ·exact absurd h (by decide)
     ·rename_i h1 h2 h3
      intro j hj
      cases j with
      | zero =>
       rw [rd_cons_zero, Nat.add_zero]
       exact ⟨by omega, by omega, Decidable.of_not_not h2, Decidable.of_not_not (fun h => h3 (.inl h)), Decidable.of_not_not (fun h => h3 (.inr h))⟩
      | succ j =>
       rw [rd_cons_succ]
       have e : (i : Int) + 1 = ((i + 1 : Nat) : Int) := by omega
       rw [e] at h
       have := (ih (i + 1)).mp h j (by simpa using hj)
       rw [show i + (j + 1) = i + 1 + j by omega]
       exact this
  ·intro h
   have h0 := h 0 (by simp)
   rw [rd_cons_zero, Nat.add_zero] at h0
   rw [if_neg (by omega), if_neg (fun hh => hh h0.2.2.1), if_neg (fun hh => hh.elim (fun h => h h0.2.2.2.1) (fun h => h h0.2.2.2.2))]
   have e : (i : Int) + 1 = ((i + 1 : Nat) : Int) := by omega
   rw [e]
   refine (ih (i + 1)).mpr (fun j hj => ?_)
   have := h (j + 1) (by simpa using hj)
   rw [rd_cons_succ, show i + (j + 1) = i + 1 + j by omega] at this
   exact this
theorem mvalid_iff {a0 : List Int} {a1 : List S94} {b0 : List Int} {b1 : List S94} {n m : List Int} : mvalid a0 a1 b0 b1 n m = 0 ↔ validE a0 a1 = 0 ∧ validE b0 b1 = 0 ∧ n.length = a0.length ∧ m.length = a1.length ∧ okN a0 b0 n ∧ okM a1 b1 n m := by
 have e1 := mvN_iff a0 b0 n 0
 have e2 := mvE_iff a1 b1 n m 0
 simp only [Nat.zero_add, Int.natCast_zero] at e1 e2
 unfold mvalid
 constructor
 ·intro h
  split at h
  ·rename_i h1
   split at h
   ·rename_i h2
    split at h
    ·exact absurd h (by decide)
    ·rename_i h3
     split at h
     ·rename_i h4
      exact ⟨h1, h2, by omega, by omega, e1.mp h4, e2.mp h⟩
     ·rename_i h4
      exact absurd h h4
   ·rename_i h2
    exact absurd h h2
  ·rename_i h1
   exact absurd h h1
 ·rintro ⟨h1, h2, h3, h4, h5, h6⟩
  rw [if_pos h1, if_pos h2, if_neg (by omega), if_pos (e1.mpr h5)]
  exact e2.mpr h6
/-! places of pairs -/
def plc : Int → List S79 → Int → Int → Int
 | _, [], _, _ => -1
 | i, p :: r, a, b => if p.f0 = a ∧ p.f1 = b then i else plc (i + 1) r a b
theorem plc_spec (a b : Int) : ∀ (l : List S79) (i : Int), (plc i l a b = -1 ∧ ∀ p ∈ l, ¬ (p.f0 = a ∧ p.f1 = b)) ∨ ∃ j : Nat, j < l.length ∧ plc i l a b = i + j ∧ (rd_T79 l j).f0 = a ∧ (rd_T79 l j).f1 = b := by
 intro l
 induction l with
 | nil => intro i; exact .inl ⟨rfl, by simp⟩
 | cons p r ih =>
  intro i
  unfold plc
  by_cases h : p.f0 = a ∧ p.f1 = b
  ·right
   exact ⟨0, by simp, by rw [if_pos h]; simp, h.1, h.2⟩
  ·rw [if_neg h]
   rcases ih (i + 1) with ⟨h1, h2⟩ | ⟨j, h1, h2, h3, h4⟩
   ·left
    refine ⟨h1, fun q hq => ?_⟩
    rcases List.mem_cons.mp hq with rfl | hq
    ·exact h
    ·exact h2 q hq
   ·right
    refine ⟨j + 1, by simpa using h1, by rw [h2]; omega, ?_, ?_⟩
    ·rw [rd79_get _ _ (by simpa using h1), List.getElem_cons_succ, ← rd79_get _ _ h1]; exact h3
    ·rw [rd79_get _ _ (by simpa using h1), List.getElem_cons_succ, ← rd79_get _ _ h1]; exact h4
theorem index_l0 (l : List S79) (a b : Int) (hl : l.length ≤ 9223372036854775806) : ∀ (r pre : List S79), l = pre ++ r → Ev (fun k => api_Pair_73.l0 k l (l.length : Int) (pre.length : Int) a b) (plc pre.length r a b) := by
 intro r
 induction r with
 | nil =>
  rintro pre rfl
  rw [show plc (pre.length : Int) [] a b = -1 from rfl]
  exact Ev.step (fun k => by simp only [api_Pair_73.l0]; rw [if_neg (by simp)]) (Ev.now _)
 | cons p r ih =>
  rintro pre rfl
  have e : wrap64 ((pre.length : Int) + 1) = ((pre ++ [p]).length : Int) := wrap_mid pre p r (by omega)
  unfold plc
  by_cases h : p.f0 = a ∧ p.f1 = b
  ·rw [if_pos h]
   refine Ev.step (fun k => by simp only [api_Pair_73.l0]; rw [if_pos (lt_mid pre p r), if_pos (by omega), if_pos (lt_mid pre p r), rd79_mid, if_pos (by rw [h.1, h.2]; simp)]) (Ev.now _)
  ·rw [if_neg h]
   have ih' := ih (pre ++ [p]) (snoc_mid pre p r)
   refine Ev.step (fun k => by simp only [api_Pair_73.l0]; rw [if_pos (lt_mid pre p r), if_pos (by omega), if_pos (lt_mid pre p r), rd79_mid, if_neg (by simp; intro h1 h2; exact h ⟨h1.symm, h2.symm⟩), e]) ?_
   simpa using ih'
theorem index_ev (l : List S79) (a b : Int) (hl : l.length ≤ 9223372036854775806) : Ev (fun k => api_Pair_73.f k l a b) (plc 0 l a b) := by
 unfold api_Pair_73.f
 exact index_l0 l a b hl l [] rfl
theorem gsides_l0 (l : List S79) (hl : l.length ≤ 1000000) : ∀ (r pre : List S79) (a b : List Int), l = pre ++ r → a.length = pre.length → b.length = pre.length → Ev (fun k => pullback_sides.l0 k a b l (l.length : Int) (pre.length : Int)) (a ++ r.map S79.f0, b ++ r.map S79.f1) := by
 intro r
 induction r with
 | nil =>
  rintro pre a b rfl ha hb
  refine Ev.step (fun k => by simp only [pullback_sides.l0]; rw [if_neg (by simp)]) ?_
  simpa using Ev.now (a, b)
 | cons p r ih =>
  rintro pre a b rfl ha hb
  have hl' : pre.length ≤ 1000000 := by simp at hl; omega
  have e : wrap64 ((pre.length : Int) + 1) = ((pre ++ [p]).length : Int) := wrap_mid pre p r (by omega)
  have ih' := ih (pre ++ [p]) (a ++ [p.f0]) (b ++ [p.f1]) (snoc_mid pre p r) (by simp [ha]) (by simp [hb])
  refine Ev.step (fun k => by simp only [pullback_sides.l0, Option.bind_some]; rw [if_pos (lt_mid pre p r), if_pos (by omega), if_pos (lt_mid pre p r), rd79_mid, if_pos (by simp; omega), if_pos (by simp; omega), e]) ?_
  simpa using ih'
theorem gsides_ev (l : List S79) (hl : l.length ≤ 1000000) : Ev (fun k => pullback_sides.f k l) (l.map S79.f0, l.map S79.f1) := by
 unfold pullback_sides.f
 simpa using gsides_l0 l hl l [] [] [] rfl rfl rfl
theorem row1_iff (i x : Int) : ∀ (s : List Int) (k : Int) (p : S79), p ∈ row1 i x k s ↔ p.f0 = i ∧ ∃ j : Nat, j < s.length ∧ p.f1 = k + j ∧ rd s j = x := by
 intro s
 induction s with
 | nil => intro k p; simp [row1]
 | cons y s ih =>
  intro k p
  unfold row1
  constructor
  ·intro h
   split at h
   ·rename_i hxy
    rcases List.mem_cons.mp h with rfl | h
    ·exact ⟨rfl, 0, by simp, by simp, hxy.symm⟩
    ·obtain ⟨h1, j, h2, h3, h4⟩ := (ih (k + 1) p).mp h
     exact ⟨h1, j + 1, by simpa using h2, by rw [h3]; omega, by rw [rd_cons_succ]; exact h4⟩
   ·obtain ⟨h1, j, h2, h3, h4⟩ := (ih (k + 1) p).mp h
    exact ⟨h1, j + 1, by simpa using h2, by rw [h3]; omega, by rw [rd_cons_succ]; exact h4⟩
  ·rintro ⟨h1, j, h2, h3, h4⟩
   cases j with
   | zero =>
    rw [rd_cons_zero] at h4
    rw [if_pos h4.symm]
    have : p = ⟨i, k⟩ := by
     cases p
     simp at h1 h3
     rw [h1, h3]
    rw [this]
    exact List.mem_cons_self
   | succ j =>
    rw [rd_cons_succ] at h4
    have := (ih (k + 1) p).mpr ⟨h1, j, by simpa using h2, by rw [h3]; omega, h4⟩
    split
    ·exact List.mem_cons_of_mem _ this
    ·exact this
theorem rows_iff (g : List Int) : ∀ (r : List Int) (i : Int) (p : S79), p ∈ rows g i r ↔ ∃ j : Nat, j < r.length ∧ p.f0 = i + j ∧ ∃ j' : Nat, j' < g.length ∧ p.f1 = (j' : Int) ∧ rd g j' = rd r j := by
 intro r
 induction r with
 | nil => intro i p; simp [rows]
 | cons x r ih =>
  intro i p
  have e3 : rows g i (x :: r) = row1 i x 0 g ++ rows g (i + 1) r := rfl
  rw [e3, List.mem_append, row1_iff, ih]
  constructor
  ·rintro (⟨h1, j, h2, h3, h4⟩ | ⟨j, h1, h2, j', h3, h4, h5⟩)
   ·exact ⟨0, by simp, by simp [h1], j, h2, by omega, h4⟩
   ·exact ⟨j + 1, by simpa using h1, by rw [h2]; omega, j', h3, h4, by rw [rd_cons_succ]; exact h5⟩
  ·rintro ⟨j, h1, h2, j', h3, h4, h5⟩
   cases j with
   | zero => exact .inl ⟨by rw [h2]; simp, j', h3, by omega, h5⟩
   | succ j => exact .inr ⟨j, by simpa using h1, by rw [h2]; omega, j', h3, h4, by rw [rd_cons_succ] at h5; exact h5⟩
theorem rows_mem {f g : List Int} {p : S79} : p ∈ rows g 0 f ↔ 0 ≤ p.f0 ∧ p.f0 < (f.length : Int) ∧ 0 ≤ p.f1 ∧ p.f1 < (g.length : Int) ∧ rd f p.f0 = rd g p.f1 := by
 rw [rows_iff]
 constructor
 ·rintro ⟨j, h1, h2, j', h3, h4, h5⟩
  have e : p.f0 = (j : Int) := by omega
  rw [e, h4]
  exact ⟨by omega, by omega, by omega, by omega, h5.symm⟩
 ·rintro ⟨h1, h2, h3, h4, h5⟩
  refine ⟨p.f0.toNat, by omega, by omega, p.f1.toNat, by omega, by omega, ?_⟩
  rw [Int.toNat_of_nonneg h1, Int.toNat_of_nonneg h3]
  exact h5.symm
theorem row1_nodup (i x : Int) : ∀ (s : List Int) (k : Int), (row1 i x k s).Nodup := by
 intro s
 induction s with
 | nil => intro k; simp [row1]
 | cons y s ih =>
  intro k
  unfold row1
  split
  ·refine List.nodup_cons.mpr ⟨fun h => ?_, ih _⟩
   have := (row1_mem _ _ _ _ _ h).2.1
   simp at this
   omega
  ·exact ih _
theorem rows_nodup (g : List Int) : ∀ (r : List Int) (i : Int), (rows g i r).Nodup := by
 intro r
 induction r with
 | nil => intro i; simp [rows]
 | cons x r ih =>
  intro i
  have e3 : rows g i (x :: r) = row1 i x 0 g ++ rows g (i + 1) r := rfl
  rw [e3, List.nodup_append]
  refine ⟨row1_nodup _ _ _ _, ih _, fun a ha b hb hab => ?_⟩
  have h1 := (row1_mem _ _ _ _ _ ha).1
  obtain ⟨j, -, h2, -⟩ := (rows_iff g r (i + 1) b).mp hb
  rw [hab] at h1
  omega
theorem rows_len (g : List Int) : ∀ (r : List Int) (i : Int), (rows g i r).length ≤ r.length * g.length := by
 intro r
 induction r with
 | nil => intro i; simp [rows]
 | cons x r ih =>
  intro i
  have h1 := ih (i + 1)
  have h2 := row1_len i x g 0
  have e3 : rows g i (x :: r) = row1 i x 0 g ++ rows g (i + 1) r := rfl
  rw [e3, List.length_append, List.length_cons, Nat.succ_mul]
  omega
theorem plc_self {l : List S79} (hd : l.Nodup) (j : Nat) (hj : j < l.length) : plc 0 l (rd_T79 l j).f0 (rd_T79 l j).f1 = (j : Int) := by
 rcases plc_spec (rd_T79 l j).f0 (rd_T79 l j).f1 l 0 with ⟨-, h⟩ | ⟨i, h1, h2, h3, h4⟩
 ·exact absurd ⟨rfl, rfl⟩ (h (rd_T79 l j) (by rw [rd79_get _ _ hj]; exact List.getElem_mem _))
 ·rw [rd79_get _ _ hj, rd79_get _ _ h1] at h3 h4
  have e : l[i] = l[j] := by
   cases hx : l[i]
   cases hy : l[j]
   rw [hx, hy] at h3 h4
   simp at h3 h4
   rw [h3, h4]
  have hij : i = j := by
   rcases Nat.lt_trichotomy i j with h | h | h
   ·exact absurd e (List.pairwise_iff_getElem.mp hd i j h1 hj h)
   ·exact h
   ·exact absurd e.symm (List.pairwise_iff_getElem.mp hd j i hj h1 h)
  subst hij
  rw [h2]
  omega
theorem plc_mem {l : List S79} {a b : Int} (h : (⟨a, b⟩ : S79) ∈ l) : 0 ≤ plc 0 l a b ∧ plc 0 l a b < (l.length : Int) ∧ (rd_T79 l (plc 0 l a b)).f0 = a ∧ (rd_T79 l (plc 0 l a b)).f1 = b := by
 rcases plc_spec a b l 0 with ⟨-, h'⟩ | ⟨i, h1, h2, h3, h4⟩
 ·exact absurd ⟨rfl, rfl⟩ (h' _ h)
 ·have e : plc 0 l a b = (i : Int) := by omega
  rw [e]
  exact ⟨by omega, by omega, h3, h4⟩
theorem plc_not {l : List S79} {a b : Int} (h : (⟨a, b⟩ : S79) ∉ l) : plc 0 l a b = -1 := by
 rcases plc_spec a b l 0 with ⟨h', -⟩ | ⟨i, h1, h2, h3, h4⟩
 ·exact h'
 ·rw [rd79_get _ _ h1] at h3 h4
  exact absurd (by rw [← h3, ← h4]; exact List.getElem_mem h1) h
section
variable (x0 : List Int) (x1 : List S94) (x2 : List Int) (x3 : List S94) (x4 : List Int) (x5 : List S94) (x6 x7 x8 x9 : List Int)
def giv : Int := if mvalid x0 x1 x4 x5 x6 x7 = 0 then mvalid x2 x3 x4 x5 x8 x9 else mvalid x0 x1 x4 x5 x6 x7
def edg (x1 x3 : List S94) (P : List S79) (q : S79) : S94 := ⟨(rd_T94 x1 q.f0).f0, plc 0 P (rd_T94 x1 q.f0).f1 (rd_T94 x3 q.f1).f1, plc 0 P (rd_T94 x1 q.f0).f2 (rd_T94 x3 q.f1).f2⟩
def ofR : List S79 × List S79 × List Int × List S94 × Int :=
 if giv x0 x1 x2 x3 x4 x5 x6 x7 x8 x9 = 0 then (if (rows x8 0 x6).length > 40 ∨ (rows x9 0 x7).length > 80 then ([], [], [], [], 3) else (rows x8 0 x6, rows x9 0 x7, (rows x8 0 x6).map (fun p => rd x0 p.f0), (rows x9 0 x7).map (edg x1 x3 (rows x8 0 x6)), 0))
 else ([], [], [], [], giv x0 x1 x2 x3 x4 x5 x6 x7 x8 x9)
theorem given_eq : pullback_given.f x0 x1 x2 x3 x4 x5 x6 x7 x8 x9 = some (giv x0 x1 x2 x3 x4 x5 x6 x7 x8 x9) := by
 unfold pullback_given.f morphism_Valid.f giv
 simp only [Option.bind_some]
 split <;> rfl
theorem gof_l1 (P Q : List S79) (n : List Int) (hP : P.length ≤ 1000000) (hQ : Q.length ≤ 1000000) (hin : ∀ q ∈ Q, 0 ≤ q.f0 ∧ q.f0 < (x1.length : Int) ∧ 0 ≤ q.f1 ∧ q.f1 < (x3.length : Int)) : ∀ (r pre : List S79) (acc : List S94), Q = pre ++ r → acc.length = pre.length →
  Ev (fun k => pullback_of.l1 k Q (Q.length : Int) (pre.length : Int) x0 x1 x2 x3 x4 x5 x6 x7 x8 x9 P Q n acc) (P, Q, n, acc ++ r.map (edg x1 x3 P), 0) := by
 intro r
 induction r with
 | nil =>
  rintro pre acc hp ha
  refine Ev.step (fun k => by simp only [pullback_of.l1]; rw [if_neg (by rw [hp]; simp)]) ?_
  simpa using Ev.now (P, Q, n, acc, (0 : Int))
 | cons q r ih =>
  rintro pre acc hp ha
  have hl : (pre.length : Int) < (Q.length : Int) := by rw [hp]; exact lt_mid pre q r
  have hrd : rd_T79 Q (pre.length : Int) = q := by rw [hp]; exact rd79_mid pre q r
  have e : wrap64 ((pre.length : Int) + 1) = ((pre ++ [q]).length : Int) := wrap_mid pre q r (by rw [← hp]; omega)
  obtain ⟨g1, g2, g3, g4⟩ := hin q (by rw [hp]; simp)
  have ih' := ih (pre ++ [q]) (acc ++ [edg x1 x3 P q]) (by rw [hp]; exact snoc_mid pre q r) (by simp [ha])
  refine Ev.step (fun k => by simp only [pullback_of.l1]; rw [if_pos hl, if_pos (by omega), if_pos hl, hrd, if_pos g1, if_pos g2, if_pos g3, if_pos g4]) ?_
  refine Ev.bind (index_ev P _ _ (by omega)) (Ev.bind (index_ev P _ _ (by omega)) ?_)
  simp only [if_pos (show acc.length < 5864062014805 by omega), e]
  simpa [edg] using ih'
theorem gof_l0 (P Q : List S79) (hP : P.length ≤ 1000000) (hQ : Q.length ≤ 1000000) (hin' : ∀ p ∈ P, 0 ≤ p.f0 ∧ p.f0 < (x0.length : Int)) (hin : ∀ q ∈ Q, 0 ≤ q.f0 ∧ q.f0 < (x1.length : Int) ∧ 0 ≤ q.f1 ∧ q.f1 < (x3.length : Int)) : ∀ (r pre : List S79) (acc : List Int), P = pre ++ r → acc.length = pre.length →
  Ev (fun k => pullback_of.l0 k P (P.length : Int) (pre.length : Int) x0 x1 x2 x3 x4 x5 x6 x7 x8 x9 P Q acc) (P, Q, acc ++ r.map (fun p => rd x0 p.f0), Q.map (edg x1 x3 P), 0) := by
 intro r
 induction r with
 | nil =>
  rintro pre acc hp ha
  refine Ev.step (fun k => by simp only [pullback_of.l0]; rw [if_neg (by rw [hp]; simp)]) ?_
  simpa using gof_l1 x0 x1 x2 x3 x4 x5 x6 x7 x8 x9 P Q acc hP hQ hin Q [] [] rfl rfl
 | cons q r ih =>
  rintro pre acc hp ha
  have hl : (pre.length : Int) < (P.length : Int) := by rw [hp]; exact lt_mid pre q r
  have hrd : rd_T79 P (pre.length : Int) = q := by rw [hp]; exact rd79_mid pre q r
  have e : wrap64 ((pre.length : Int) + 1) = ((pre ++ [q]).length : Int) := wrap_mid pre q r (by rw [← hp]; omega)
  obtain ⟨g1, g2⟩ := hin' q (by rw [hp]; simp)
  have ih' := ih (pre ++ [q]) (acc ++ [rd x0 q.f0]) (by rw [hp]; exact snoc_mid pre q r) (by simp [ha])
  refine Ev.step (fun k => by simp only [pullback_of.l0]; rw [if_pos hl, if_pos (by omega), if_pos hl, hrd, if_pos g1, if_pos g2, if_pos (by omega), e]) ?_
  simpa using ih'
theorem giv_len (h : giv x0 x1 x2 x3 x4 x5 x6 x7 x8 x9 = 0) : mvalid x0 x1 x4 x5 x6 x7 = 0 ∧ mvalid x2 x3 x4 x5 x8 x9 = 0 := by
 unfold giv at h
 split at h
 ·rename_i h1
  exact ⟨h1, h⟩
 ·rename_i h1
  exact absurd h h1
theorem gof_ev : Ev (fun k => pullback_of.f k x0 x1 x2 x3 x4 x5 x6 x7 x8 x9) (ofR x0 x1 x2 x3 x4 x5 x6 x7 x8 x9) := by
 unfold pullback_of.f ofR
 rw [given_eq]
 simp only [Option.bind_some]
 by_cases h : giv x0 x1 x2 x3 x4 x5 x6 x7 x8 x9 = 0
 ·simp only [if_pos h]
  obtain ⟨m1, m2⟩ := giv_len _ _ _ _ _ _ _ _ _ _ h
  obtain ⟨v1, -, b1, b2, -⟩ := mvalid_iff.mp m1
  obtain ⟨v2, -, c1, c2, -⟩ := mvalid_iff.mp m2
  obtain ⟨l1, l2, -⟩ := okE_of v1
  obtain ⟨l3, l4, -⟩ := okE_of v2
  refine Ev.bind (pairs_ev x6 x8 (by omega) (by omega)) (Ev.bind (pairs_ev x7 x9 (by omega) (by omega)) ?_)
  by_cases h1 : (rows x8 0 x6).length > 40
  ·rw [if_pos (.inl h1)]
   simp only [if_pos (show ((rows x8 0 x6).length : Int) > 40 by omega)]
   exact Ev.step (fun k => by simp only [pullback_of.j0, if_true]) (Ev.now _)
  ·simp only [if_neg (show ¬ ((rows x8 0 x6).length : Int) > 40 by omega)]
   by_cases h2 : (rows x9 0 x7).length > 80
   ·rw [if_pos (.inr h2)]
    refine Ev.step (fun k => by simp only [pullback_of.j0]; rw [if_pos (by simp; omega)]) (Ev.now _)
   ·rw [if_neg (by omega)]
    refine Ev.step (fun k => by simp only [pullback_of.j0]; rw [if_neg (by simp; omega)]) ?_
    simpa using gof_l0 x0 x1 x2 x3 x4 x5 x6 x7 x8 x9 (rows x8 0 x6) (rows x9 0 x7) (by omega) (by omega) (fun p hp => by have := rows_mem.mp hp; omega) (fun q hq => by have := rows_mem.mp hq; omega) (rows x8 0 x6) [] [] rfl rfl
 ·simp only [if_neg h]
  exact Ev.now _
def OfR : List Int × List S94 × List Int × List Int × List Int × List Int × Int :=
 if (ofR x0 x1 x2 x3 x4 x5 x6 x7 x8 x9).2.2.2.2 = 0 then ((ofR x0 x1 x2 x3 x4 x5 x6 x7 x8 x9).2.2.1, (ofR x0 x1 x2 x3 x4 x5 x6 x7 x8 x9).2.2.2.1, (ofR x0 x1 x2 x3 x4 x5 x6 x7 x8 x9).1.map S79.f0, (ofR x0 x1 x2 x3 x4 x5 x6 x7 x8 x9).2.1.map S79.f0, (ofR x0 x1 x2 x3 x4 x5 x6 x7 x8 x9).1.map S79.f1, (ofR x0 x1 x2 x3 x4 x5 x6 x7 x8 x9).2.1.map S79.f1, 0)
 else ([], [], [], [], [], [], (ofR x0 x1 x2 x3 x4 x5 x6 x7 x8 x9).2.2.2.2)
theorem ofR_len : (ofR x0 x1 x2 x3 x4 x5 x6 x7 x8 x9).1.length ≤ 40 ∧ (ofR x0 x1 x2 x3 x4 x5 x6 x7 x8 x9).2.1.length ≤ 80 ∧ (ofR x0 x1 x2 x3 x4 x5 x6 x7 x8 x9).2.2.1.length ≤ 40 ∧ (ofR x0 x1 x2 x3 x4 x5 x6 x7 x8 x9).2.2.2.1.length ≤ 80 := by
 unfold ofR
 split
 ·split
  ·exact ⟨by simp, by simp, by simp, by simp⟩
  ·refine ⟨?_, ?_, ?_, ?_⟩ <;> (try simp only [List.length_map]) <;> omega
 ·exact ⟨by simp, by simp, by simp, by simp⟩
theorem gOf_ev : Ev (fun k => pullback_Of.f k x0 x1 x2 x3 x4 x5 x6 x7 x8 x9) (OfR x0 x1 x2 x3 x4 x5 x6 x7 x8 x9) := by
 unfold pullback_Of.f OfR
 refine Ev.bind (gof_ev x0 x1 x2 x3 x4 x5 x6 x7 x8 x9) ?_
 obtain ⟨l1, l2, -⟩ := ofR_len x0 x1 x2 x3 x4 x5 x6 x7 x8 x9
 by_cases h : (ofR x0 x1 x2 x3 x4 x5 x6 x7 x8 x9).2.2.2.2 = 0
 ·simp only [if_pos h]
  exact Ev.bind (gsides_ev _ (by omega)) (Ev.bind (gsides_ev _ (by omega)) (Ev.now _))
 ·simp only [if_neg h]
  exact Ev.now _
end
theorem mvalid_len {a0 : List Int} {a1 : List S94} {b0 : List Int} {b1 : List S94} {n m : List Int} (h : mvalid a0 a1 b0 b1 n m = 0) : validE a0 a1 = 0 ∧ validE b0 b1 = 0 ∧ n.length = a0.length ∧ m.length = a1.length ∧ n.length ≤ 40 ∧ m.length ≤ 80 := by
 unfold mvalid at h
 split at h
 ·rename_i h1
  split at h
  ·rename_i h2
   split at h
   ·exact absurd h (by decide)
   ·rename_i h3
    obtain ⟨g1, g2, -⟩ := okE_of h1
    refine ⟨h1, h2, ?_, ?_, ?_, ?_⟩ <;> omega
  ·rename_i h2
   exact absurd h h2
 ·rename_i h1
  exact absurd h h1
end Go.Proofs.Ytillofiphkmjjaa.Pl

namespace Go.Proofs.Ytillofiphkmjjaa.X
open Go.RowKit Go.Proofs.YtillofiphkmjjaaW.PrintWords Go.Proofs.YtillofiphkmjjaaW.PrintLast Go.Proofs.YtillofiphkmjjaaW.PrintMore
open Go.Proofs.YtillofiphkmjjaaW.PrintWords renaming blk_drewN → bN, blk_drew → bD, blk_alloc → bA, below_alloc → wA, pw_below_drewN → wN, below_drew1 → wD, blk_below → bB, below_step → wS, blk_at → bT, blk_grown → bG
open Go.Proofs.YtillofiphkmjjaaW.PrintWords.Kd renaming R_alloc → rA, R_drewN → rN, R_drew → rD, R_below → rB, R_grown → rG, C_below → cB, C_alloc → cA, C_drewN → cN, C_drew → cD
attribute [local go_sem] max2_int min2_int max_two min_two max_three min_three max_four min_four
set_option linter.unusedVariables false
set_option linter.unusedSimpArgs false
/-! ### scarfjointref02_SameInts: function 46 -/
def scarfjointref02_SameInts.l0 : Nat → List Int → List Int → Int → Option (Bool)
 | 0, _, _, _ => none
 | k + 1, x0, x1, x5 => if x5 < (x0.length : Int) then (if 0 ≤ x5 then (if x5 < (x1.length : Int) then (if (rd x0 x5) = (rd x1 x5) then (scarfjointref02_SameInts.l0 k x0 x1 (wrap64 (x5 + 1))) else (some false)) else (none)) else (none)) else (some true)
def scarfjointref02_SameInts.f (k : Nat) (l0 : List Int) (l1 : List Int) : Option (Bool) := if (l0.length : Int) = (l1.length : Int) then (scarfjointref02_SameInts.l0 k l0 l1 0) else (some false)
theorem scarfjointref02_SameInts.mono_l : ∀ k, (∀ y0 y1 y2, LeO (scarfjointref02_SameInts.l0 k y0 y1 y2) (scarfjointref02_SameInts.l0 (k + 1) y0 y1 y2))
 | 0 => fun _ _ _ r h => by simp [scarfjointref02_SameInts.l0] at h
 | k + 1 => by
  have ih0 := scarfjointref02_SameInts.mono_l k
  ·intro y0 y1 y2
   unfold scarfjointref02_SameInts.l0
   repeat' first
   | (with_reducible exact ih0 _ _ _)
   | (with_reducible exact LeO.refl _)
   | (with_reducible exact LeO.none _)
   | (with_reducible refine LeO.ite ?_ ?_)
   | (with_reducible refine LeO.bind ?_ (fun _ => ?_))
   | exact ih0 _ _ _
   | exact LeO.none _
   | refine LeO.ite ?_ ?_
   | refine LeO.bind ?_ (fun _ => ?_)
theorem scarfjointref02_SameInts.mono : ∀ a0 a1 k, LeO (scarfjointref02_SameInts.f k a0 a1) (scarfjointref02_SameInts.f (k + 1) a0 a1) := by
 intro a0 a1 k
 have ih0 := scarfjointref02_SameInts.mono_l k
 unfold scarfjointref02_SameInts.f
 repeat' first
   | (with_reducible exact ih0 _ _ _)
   | (with_reducible exact LeO.refl _)
   | (with_reducible exact LeO.none _)
   | (with_reducible refine LeO.ite ?_ ?_)
   | (with_reducible refine LeO.bind ?_ (fun _ => ?_))
   | exact ih0 _ _ _
   | exact LeO.none _
   | refine LeO.ite ?_ ?_
   | refine LeO.bind ?_ (fun _ => ?_)
set_option maxHeartbeats 8000000 in
set_option maxRecDepth 100000 in
theorem scarfjointref02_SameInts.calls (k : Nat) (A0 : Option Addr) (c0 : Nat) (l0 : List Int) (A1 : Option Addr) (c1 : Nat) (l1 : List Int) (r : Bool) (w : World) (hr0 : Kd.C (Kd.int .i64) w A0 l0.length l0) (hc0 : l0.length ≤ c0) (hr1 : Kd.C (Kd.int .i64) w A1 l1.length l1) (hc1 : l1.length ≤ c1) (h : scarfjointref02_SameInts.f k l0 l1 = some r) :
  Calls Try.prog 46 #[.slice A0 l0.length c0, .slice A1 l1.length c1] w fun e w' => e = .returned (.bool r) ∧ Drawn0 w w' := by
 have HR0 := Aside0.mk hr0
 have HC0 := Aside0.mk hc0
 clear hr0 hc0
 have HR1 := Aside0.mk hr1
 have HC1 := Aside0.mk hc1
 clear hr1 hc1
 have H : (if (l0.length : Int) = (l1.length : Int) then (scarfjointref02_SameInts.l0 k l0 l1 0) else (some false)) = some r := h
 clear h
 by_cases c3 : (l0.length : Int) = (l1.length : Int)
 ·rw [if_pos c3] at H
  have c3b0 : ((l0.length : Int) == (l1.length : Int)) = true := beq_iff_eq.mpr c3
  have c3b1 : ((l0.length : Int) != (l1.length : Int)) = false := bne_eq_false_iff_eq.mpr c3
  have c3b2 : (l0.length == l1.length) = true := by first | simpa using c3 | (simp at c3 ⊢; omega)
  clear c3
  have H' := Aside0.mk H
  clear H
  go_enter Try.func46, Try.ntmps46
  go_wp2
  repeat (go_quiet (fail); try go_wp2)
  go_loopg [5] k (fun kq v5 w' => ∃ (x5_1 : Int), v5 = .int .i64 x5_1 ∧ Aside0 (scarfjointref02_SameInts.l0 kq l0 l1 x5_1 = some r) ∧ Aside0 (kq ≤ k) ∧ Drawn0 w w')
  case atStart => exact ⟨(0), rS, H', ⟨Nat.le_refl _⟩, by repeat (first | exact Drawn0.refl _ | apply Drawn0.step)⟩
  case round =>
   clear H'
   try clear c1; try clear p2; try clear c3; try clear c3b0; try clear c3b1; try clear c3b2
   obtain ⟨x5_1, rfl, HA, HK1, ⟨m1, rfl⟩⟩ := hrel
   cases gk with
   | zero => exact absurd HA.out (by simp [scarfjointref02_SameInts.l0])
   | succ k1 =>
    have H := HA.out
    clear HA
    simp only [scarfjointref02_SameInts.l0] at H
    by_cases c4 : x5_1 < (l0.length : Int)
    ·rw [if_pos c4] at H
     have c4b0 : decide (x5_1 < (l0.length : Int)) = true := decide_eq_true c4
     clear c4
     by_cases c5 : 0 ≤ x5_1
     ·rw [if_pos c5] at H
      have c5b0 : decide (0 ≤ x5_1) = true := decide_eq_true c5
      clear c5
      by_cases c6 : x5_1 < (l1.length : Int)
      ·rw [if_pos c6] at H
       have c6b0 : decide (x5_1 < (l1.length : Int)) = true := decide_eq_true c6
       clear c6
       by_cases c7 : (rd l0 x5_1) = (rd l1 x5_1)
       ·rw [if_pos c7] at H
        have c7b0 : ((rd l0 x5_1) == (rd l1 x5_1)) = true := beq_iff_eq.mpr c7
        have c7b1 : ((rd l0 x5_1) != (rd l1 x5_1)) = false := bne_eq_false_iff_eq.mpr c7
        clear c7
        have H' := Aside0.mk H
        clear H
        have p101 : 0 ≤ (x5_1 : Int) := oT
        have q101 : x5_1 < (l0.length : Int) := oT
        obtain ⟨ad101, e101, hx101_0⟩ := Kd.at_int HR0.out x5_1 p101 q101
        cases e101
        replace p101 := eq_true p101
        replace q101 := eq_true q101
        have p102 : 0 ≤ (x5_1 : Int) := oT
        have q102 : x5_1 < (l1.length : Int) := oT
        obtain ⟨ad102, e102, hx102_0⟩ := Kd.at_int HR1.out x5_1 p102 q102
        cases e102
        replace p102 := eq_true p102
        replace q102 := eq_true q102
        go_wp2
        repeat (go_quiet (fail); try go_wp2)
        go_roundg k1
        case measure => have := HK1.out; omega
        case rel => exact ⟨(wrap64 (x5_1 + 1)), rS, H', ⟨by have := HK1.out; omega⟩, by repeat (first | exact Drawn0.refl _ | apply Drawn0.step)⟩
       ·rw [if_neg c7] at H
        have c7b0 : ((rd l0 x5_1) == (rd l1 x5_1)) = false := beq_eq_false_iff_ne.mpr c7
        have c7b1 : ((rd l0 x5_1) != (rd l1 x5_1)) = true := bne_iff_ne.mpr c7
        obtain rfl := Option.some.inj H
        have p101 : 0 ≤ (x5_1 : Int) := oT
        have q101 : x5_1 < (l0.length : Int) := oT
        obtain ⟨ad101, e101, hx101_0⟩ := Kd.at_int HR0.out x5_1 p101 q101
        cases e101
        replace p101 := eq_true p101
        replace q101 := eq_true q101
        have p102 : 0 ≤ (x5_1 : Int) := oT
        have q102 : x5_1 < (l1.length : Int) := oT
        obtain ⟨ad102, e102, hx102_0⟩ := Kd.at_int HR1.out x5_1 p102 q102
        cases e102
        replace p102 := eq_true p102
        replace q102 := eq_true q102
        go_wp2
        repeat (go_quiet (fail); try go_wp2)
        go_ret
        exact ⟨by first | rfl | (simp; done) | (simp [*]; done), by repeat (first | exact Drawn0.refl _ | apply Drawn0.step)⟩
      ·rw [if_neg c6] at H
       exact absurd H (by simp)
     ·rw [if_neg c5] at H
      exact absurd H (by simp)
    ·rw [if_neg c4] at H
     have c4b0 : decide (x5_1 < (l0.length : Int)) = false := decide_eq_false c4
     clear c4
     obtain rfl := Option.some.inj H
     go_wp2
     repeat (go_quiet (fail); try go_wp2)
     go_ret
     exact ⟨by first | rfl | (simp; done) | (simp [*]; done), by repeat (first | exact Drawn0.refl _ | apply Drawn0.step)⟩
 ·rw [if_neg c3] at H
  have c3b0 : ((l0.length : Int) == (l1.length : Int)) = false := beq_eq_false_iff_ne.mpr c3
  have c3b1 : ((l0.length : Int) != (l1.length : Int)) = true := bne_iff_ne.mpr c3
  have c3b2 : (l0.length == l1.length) = false := by first | simpa using c3 | (simp at c3 ⊢; omega)
  obtain rfl := Option.some.inj H
  go_enter Try.func46, Try.ntmps46
  go_wp2
  repeat (go_quiet (fail); try go_wp2)
  go_ret
  exact ⟨by first | rfl | (simp; done) | (simp [*]; done), by repeat (first | exact Drawn0.refl _ | apply Drawn0.step)⟩
/-! ### scarfjointref06_Same: function 15 -/
def scarfjointref06_Same.f (k : Nat) (l0_0 : List Int) (l0_1 : List Int) (l1_0 : List Int) (l1_1 : List Int) : Option (Bool) := (scarfjointref02_SameInts.f k l0_0 l1_0).bind fun t103 => (if t103 = true then ((scarfjointref02_SameInts.f k l0_1 l1_1).bind fun t104 => (some t104)) else (some false))
theorem scarfjointref06_Same.mono : ∀ a0 a1 a2 a3 k, LeO (scarfjointref06_Same.f k a0 a1 a2 a3) (scarfjointref06_Same.f (k + 1) a0 a1 a2 a3) := by
 intro a0 a1 a2 a3 k
 unfold scarfjointref06_Same.f
 repeat' first
   | (with_reducible exact scarfjointref02_SameInts.mono _ _ _)
   | (with_reducible exact LeO.refl _)
   | (with_reducible exact LeO.none _)
   | (with_reducible refine LeO.ite ?_ ?_)
   | (with_reducible refine LeO.bind ?_ (fun _ => ?_))
   | exact scarfjointref02_SameInts.mono _ _ _
   | exact LeO.none _
   | refine LeO.ite ?_ ?_
   | refine LeO.bind ?_ (fun _ => ?_)
set_option maxHeartbeats 8000000 in
set_option maxRecDepth 100000 in
theorem scarfjointref06_Same.calls (k : Nat) (A0_0 : Option Addr) (c0_0 : Nat) (l0_0 : List Int) (A0_1 : Option Addr) (c0_1 : Nat) (l0_1 : List Int) (A1_0 : Option Addr) (c1_0 : Nat) (l1_0 : List Int) (A1_1 : Option Addr) (c1_1 : Nat) (l1_1 : List Int) (r : Bool) (w : World) (hr0_0 : Kd.C (Kd.int .i64) w A0_0 l0_0.length l0_0) (hc0_0 : l0_0.length ≤ c0_0) (hr0_1 : Kd.C (Kd.int .i64) w A0_1 l0_1.length l0_1) (hc0_1 : l0_1.length ≤ c0_1) (hr1_0 : Kd.C (Kd.int .i64) w A1_0 l1_0.length l1_0) (hc1_0 : l1_0.length ≤ c1_0) (hr1_1 : Kd.C (Kd.int .i64) w A1_1 l1_1.length l1_1) (hc1_1 : l1_1.length ≤ c1_1) (h : scarfjointref06_Same.f k l0_0 l0_1 l1_0 l1_1 = some r) :
  Calls Try.prog 15 #[.agg #[.slice A0_0 l0_0.length c0_0, .slice A0_1 l0_1.length c0_1], .agg #[.slice A1_0 l1_0.length c1_0, .slice A1_1 l1_1.length c1_1]] w fun e w' => e = .returned (.bool r) ∧ Below w.heap.size w w' := by
 have hu27 := Try.underlying27
 have HR0_0 := Aside0.mk hr0_0
 have HC0_0 := Aside0.mk hc0_0
 clear hr0_0 hc0_0
 have HR0_1 := Aside0.mk hr0_1
 have HC0_1 := Aside0.mk hc0_1
 clear hr0_1 hc0_1
 have HR1_0 := Aside0.mk hr1_0
 have HC1_0 := Aside0.mk hc1_0
 clear hr1_0 hc1_0
 have HR1_1 := Aside0.mk hr1_1
 have HC1_1 := Aside0.mk hc1_1
 clear hr1_1 hc1_1
 have HB := Aside0.mk (Below.refl w.heap.size w)
 have H : ((scarfjointref02_SameInts.f k l0_0 l1_0).bind fun t103 => (if t103 = true then ((scarfjointref02_SameInts.f k l0_1 l1_1).bind fun t104 => (some t104)) else (some false))) = some r := h
 clear h
 replace H := Option.bind_eq_some_iff.mp H
 obtain ⟨t103, A30, H⟩ := H
 replace H : (if t103 = true then ((scarfjointref02_SameInts.f k l0_1 l1_1).bind fun t104 => (some t104)) else (some false)) = some r := H
 have A3 := Aside0.mk A30
 clear A30
 by_cases c4 : t103 = true
 ·subst c4
  have H1 : ((scarfjointref02_SameInts.f k l0_1 l1_1).bind fun t104 => (some t104)) = some r := by rw [if_pos rfl] at H; exact H
  clear H
  have H := H1
  clear H1
  replace H := Option.bind_eq_some_iff.mp H
  obtain ⟨t104, A50, H⟩ := H
  replace H : (some t104) = some r := H
  have A5 := Aside0.mk A50
  clear A50
  obtain rfl := Option.some.inj H
  go_enter Try.func15, Try.ntmps15
  go_wp2_with (first | ((with_reducible refine gate_dst (N := 2) rfl ?_); refine box_event ?hg (N := 2) ?hd (cs := #[.slice A0_0 l0_0.length c0_0, .slice A0_1 l0_1.length c0_1]) (t := 27) ?hr ?_; (case hd => rfl); (case hg => rfl); (case hr => first | (go_simp; done) | (go_simp; rfl)); intro Q01 hg w6 hbox hb; have Q00 := Aside0.mk (hbox); have Q08 := Aside0.mk ((by rw [hg]; exact (below_size hB) : w.heap.size ≤ Q01)); have Q04 := Aside0.mk ((by rw [hg]; exact (below_size hB) : w.heap.size ≤ Q01)); replace HB := uH HB hb; clear hb hbox hg) | ((with_reducible refine gate_dst (N := 3) rfl ?_); refine box_event ?hg (N := 3) ?hd (cs := #[.slice A1_0 l1_0.length c1_0, .slice A1_1 l1_1.length c1_1]) (t := 27) ?hr ?_; (case hd => rfl); (case hg => rfl); (case hr => first | (go_simp; done) | (go_simp; rfl)); intro Q03 hg w7 hbox hb; have Q02 := Aside0.mk (hbox); have Q09 := uS HB hg; have Q05 := uS HB hg; replace HB := uH HB hb; have Q06 := uL Q00 hg; have Q07 := uG Q00 hg; replace Q00 := uB Q00 hb; clear hb hbox hg; have Q0a := Q06.out; have Q0b := Q07.out; have Q0c : w7.cell? ⟨Q01, 0, none⟩ = some (.slice A0_0 l0_0.length c0_0) := bC Q00 0; have Q0d : w7.cell? ⟨Q01, 1, none⟩ = some (.slice A0_1 l0_1.length c0_1) := bC Q00 1; have Q0e := blk_frozen Q00.out 0; have Q0f := blk_frozen Q00.out 1; have Q0g : w7.cell? ⟨Q03, 0, none⟩ = some (.slice A1_0 l1_0.length c1_0) := bC Q02 0; have Q0h : w7.cell? ⟨Q03, 1, none⟩ = some (.slice A1_1 l1_1.length c1_1) := bC Q02 1; have Q0i := blk_frozen Q02.out 0; have Q0j := blk_frozen Q02.out 1) | ((with_reducible refine gate_callee (f := 46) rfl ?_); refine goesL_ (some 9) rfl rfl Try.func46 (by kernel_rfl) rfl #[.slice A0_0 l0_0.length c0_0, .slice A1_0 l1_0.length c1_0] rfl aM ?_; (with_reducible refine (scarfjointref02_SameInts.calls k _ _ l0_0 _ _ l1_0 true _ ?side1 ?side2 ?side3 ?side4 A3.out).mono ?_); (case side1 => exact cX (cB HR0_0.out HB.out)); (case side2 => exact HC0_0.out); (case side3 => exact cX (cB HR1_0.out HB.out)); (case side4 => exact HC1_0.out); rintro e w' ⟨rfl, ⟨nd, rfl⟩⟩; refine ⟨_, rfl, ?_⟩) | (go_at_call 46; (with_reducible refine (scarfjointref02_SameInts.calls k _ _ l0_1 _ _ l1_1 t104 _ ?side1 ?side2 ?side3 ?side4 A5.out).mono ?_); (case side1 => repeat (first | exact (cB HR0_1.out (pH HB)) | (with_reducible refine cA ?_ _) | (with_reducible refine cN ?_ _) | (with_reducible refine cD ?_))); (case side2 => exact HC0_1.out); (case side3 => repeat (first | exact (cB HR1_1.out (pH HB)) | (with_reducible refine cA ?_ _) | (with_reducible refine cN ?_ _) | (with_reducible refine cD ?_))); (case side4 => exact HC1_1.out); rintro e w' ⟨rfl, ⟨nd, rfl⟩⟩))
  go_ret
  exact ⟨by first | rfl | (simp [errW_none, errW_some] <;> rfl) | (simp [*, errW_none, errW_some] <;> rfl), by repeat (first | (with_reducible first | exact HB.out | apply wA | apply wN | apply wD | refine below_set ?_ Q04.out | refine below_set ?_ Q05.out) | exact HB.out)⟩
 ·replace c4 := Bool.eq_false_iff.mpr c4
  subst c4
  have H1 : (some false) = some r := by rw [if_neg (show ¬ (false = true) by decide)] at H; exact H
  clear H
  have H := H1
  clear H1
  obtain rfl := Option.some.inj H
  go_enter Try.func15, Try.ntmps15
  go_wp2_with (first | ((with_reducible refine gate_dst (N := 2) rfl ?_); refine box_event ?hg (N := 2) ?hd (cs := #[.slice A0_0 l0_0.length c0_0, .slice A0_1 l0_1.length c0_1]) (t := 27) ?hr ?_; (case hd => rfl); (case hg => rfl); (case hr => first | (go_simp; done) | (go_simp; rfl)); intro Q01 hg w11 hbox hb; have Q00 := Aside0.mk (hbox); have Q08 := Aside0.mk ((by rw [hg]; exact (below_size hB) : w.heap.size ≤ Q01)); have Q04 := Aside0.mk ((by rw [hg]; exact (below_size hB) : w.heap.size ≤ Q01)); replace HB := uH HB hb; clear hb hbox hg) | ((with_reducible refine gate_dst (N := 3) rfl ?_); refine box_event ?hg (N := 3) ?hd (cs := #[.slice A1_0 l1_0.length c1_0, .slice A1_1 l1_1.length c1_1]) (t := 27) ?hr ?_; (case hd => rfl); (case hg => rfl); (case hr => first | (go_simp; done) | (go_simp; rfl)); intro Q03 hg w12 hbox hb; have Q02 := Aside0.mk (hbox); have Q09 := uS HB hg; have Q05 := uS HB hg; replace HB := uH HB hb; have Q06 := uL Q00 hg; have Q07 := uG Q00 hg; replace Q00 := uB Q00 hb; clear hb hbox hg; have Q0k := Q06.out; have Q0l := Q07.out; have Q0m : w12.cell? ⟨Q01, 0, none⟩ = some (.slice A0_0 l0_0.length c0_0) := bC Q00 0; have Q0n : w12.cell? ⟨Q01, 1, none⟩ = some (.slice A0_1 l0_1.length c0_1) := bC Q00 1; have Q0o := blk_frozen Q00.out 0; have Q0p := blk_frozen Q00.out 1; have Q0q : w12.cell? ⟨Q03, 0, none⟩ = some (.slice A1_0 l1_0.length c1_0) := bC Q02 0; have Q0r : w12.cell? ⟨Q03, 1, none⟩ = some (.slice A1_1 l1_1.length c1_1) := bC Q02 1; have Q0s := blk_frozen Q02.out 0; have Q0t := blk_frozen Q02.out 1) | ((with_reducible refine gate_callee (f := 46) rfl ?_); refine goesL_ (some 9) rfl rfl Try.func46 (by kernel_rfl) rfl #[.slice A0_0 l0_0.length c0_0, .slice A1_0 l1_0.length c1_0] rfl aM ?_; (with_reducible refine (scarfjointref02_SameInts.calls k _ _ l0_0 _ _ l1_0 false _ ?side1 ?side2 ?side3 ?side4 A3.out).mono ?_); (case side1 => exact cX (cB HR0_0.out HB.out)); (case side2 => exact HC0_0.out); (case side3 => exact cX (cB HR1_0.out HB.out)); (case side4 => exact HC1_0.out); rintro e w' ⟨rfl, ⟨nd, rfl⟩⟩; refine ⟨_, rfl, ?_⟩))
  go_ret
  exact ⟨by first | rfl | (simp [errW_none, errW_some] <;> rfl) | (simp [*, errW_none, errW_some] <;> rfl), by repeat (first | (with_reducible first | exact HB.out | apply wA | apply wN | apply wD | refine below_set ?_ Q04.out | refine below_set ?_ Q05.out) | exact HB.out)⟩
end Go.Proofs.Ytillofiphkmjjaa.X

/- Plain laws: the standard pullback is a pullback. -/
namespace Go.Proofs.Ytillofiphkmjjaa.Pl
open Go.RowKit Go.Proofs.YtillofiphkmjjaaW.PrintWords Go.Proofs.Ytillofiphkmjjaa.X
set_option linter.unusedVariables false
theorem sorted_perm (l : List Int) : (sorted l).Perm l := List.mergeSort_perm l _
theorem nd_nodup {l : List Int} (h : l.Nodup) : nd l = (l.length : Int) := by
 have hn : (sorted l).Nodup := (sorted_perm l).nodup_iff.mpr h
 have hl : (sorted l).length = l.length := (sorted_perm l).length_eq
 unfold nd
 rw [Lib.compact_all, hl]
 intro j hj
 cases j with
 | zero => exact Lib.keeps_lt_one _ 0 (by omega)
 | succ j =>
  refine Lib.keeps_pos (fun e => ?_)
  have e' : (sorted l)[j + 1] = (sorted l)[j]'(by omega) := by
   have h1 : (sorted l).toArray[j + 1]! = (sorted l)[j + 1] := by simp [hj]
   have h2 : (sorted l).toArray[j + 1 - 1]! = (sorted l)[j]'(by omega) := by simp [show j < (sorted l).length by omega]
   rw [← h1, ← h2]
   exact e
  exact List.pairwise_iff_getElem.mp hn j (j + 1) (by omega) hj (by omega) e'.symm
def meets (P : List S79) : List Int → List Int → Option (List Int)
 | a :: h, b :: k => if plc 0 P a b < 0 then none else (meets P h k).map (plc 0 P a b :: ·)
 | _, _ => some []
theorem meet_l0 (P : List S79) (hP : P.length ≤ 1000000) (h m : List Int) (hl : h.length ≤ 1000000) : ∀ (r pre s pre' acc : List Int), h = pre ++ r → m = pre' ++ s → pre.length = pre'.length → r.length = s.length → acc.length = pre.length →
  Ev (fun k => pullback_meet.l0 k P h m acc (h.length : Int) (pre.length : Int)) (match meets P r s with | some l => (acc ++ l, true) | none => ([], false)) := by
 intro r
 induction r with
 | nil =>
  rintro pre s pre' acc rfl rfl h1 h2 h3
  refine Ev.step (fun k => by simp only [pullback_meet.l0]; rw [if_neg (by simp)]) ?_
  simpa [meets] using Ev.now (acc, true)
 | cons x r ih =>
  rintro pre s pre' acc rfl rfl h1 h2 h3
  cases s with
  | nil => simp at h2
  | cons y s =>
   simp at hl
   have e : wrap64 ((pre.length : Int) + 1) = ((pre ++ [x]).length : Int) := wrap_mid pre x r (by simp; omega)
   refine Ev.step (fun k => by simp only [pullback_meet.l0]; rw [if_pos (lt_mid pre x r), if_pos (by omega), if_pos (lt_mid pre x r), if_pos (lt_mid' pre' y s h1), rd_mid, rd_mid' _ _ _ h1]) ?_
   refine Ev.bind (index_ev P _ _ (by omega)) ?_
   rw [meets]
   by_cases hc : plc 0 P x y < 0
   ·simp only [if_pos hc]
    exact Ev.now _
   ·simp only [if_neg hc, if_pos (show acc.length < 17592186044416 by omega), e]
    have ih' := ih (pre ++ [x]) s (pre' ++ [y]) (acc ++ [plc 0 P x y]) (snoc_mid pre x r) (snoc_mid pre' y s) (by simp [h1]) (by simpa using h2) (by simp [h3])
    cases hm : meets P r s with
    | none => rw [hm] at ih'; exact ih'
    | some l => rw [hm] at ih'; simpa using ih'
theorem meet_ev (P : List S79) (hP : P.length ≤ 1000000) (h m : List Int) (hl : h.length ≤ 1000000) (e : h.length = m.length) : Ev (fun k => pullback_meet.f k P h m) (match meets P h m with | some l => (l, true) | none => ([], false)) := by
 unfold pullback_meet.f
 simpa using meet_l0 P hP h m hl h [] m [] [] rfl rfl rfl e rfl
section
variable (x0 : List Int) (x1 : List S94) (x2 : List Int) (x3 : List S94) (x4 : List Int) (x5 : List S94) (x6 x7 x8 x9 : List Int) (y0 : List Int) (y1 : List S94) (h0 h1 k0 k1 : List Int)
def fine (P Q : List S79) (h0 h1 k0 k1 : List Int) : List Int × List Int × Int :=
 match meets P h0 k0, meets Q h1 k1 with
 | some a, some b => (a, b, 0)
 | _, _ => ([], [], 11)
def medR : List Int × List Int × Int :=
 if (ofR x0 x1 x2 x3 x4 x5 x6 x7 x8 x9).2.2.2.2 = 0 then (if mvalid y0 y1 x0 x1 h0 h1 = 0 then (if mvalid y0 y1 x2 x3 k0 k1 = 0 then fine (ofR x0 x1 x2 x3 x4 x5 x6 x7 x8 x9).1 (ofR x0 x1 x2 x3 x4 x5 x6 x7 x8 x9).2.1 h0 h1 k0 k1 else ([], [], mvalid y0 y1 x2 x3 k0 k1)) else ([], [], mvalid y0 y1 x0 x1 h0 h1))
 else ([], [], (ofR x0 x1 x2 x3 x4 x5 x6 x7 x8 x9).2.2.2.2)
theorem gmed_ev : Ev (fun k => medF k x0 x1 x2 x3 x4 x5 x6 x7 x8 x9 y0 y1 h0 h1 k0 k1) (medR x0 x1 x2 x3 x4 x5 x6 x7 x8 x9 y0 y1 h0 h1 k0 k1) := by
 unfold medF medR
 refine Ev.bind (gof_ev x0 x1 x2 x3 x4 x5 x6 x7 x8 x9) ?_
 obtain ⟨l1, l2, -⟩ := ofR_len x0 x1 x2 x3 x4 x5 x6 x7 x8 x9
 by_cases h : (ofR x0 x1 x2 x3 x4 x5 x6 x7 x8 x9).2.2.2.2 = 0
 ·simp only [if_pos h]
  by_cases hv : mvalid y0 y1 x0 x1 h0 h1 = 0
  ·simp only [if_pos hv]
   by_cases hu : mvalid y0 y1 x2 x3 k0 k1 = 0
   ·simp only [if_pos hu]
    obtain ⟨-, -, a1, a2, a3, a4⟩ := mvalid_len hv
    obtain ⟨-, -, b1, b2, -, -⟩ := mvalid_len hu
    refine Ev.bind (meet_ev _ (by omega) h0 k0 (by omega) (by omega)) (Ev.bind (meet_ev _ (by omega) h1 k1 (by omega) (by omega)) ?_)
    unfold fine
    cases meets (ofR x0 x1 x2 x3 x4 x5 x6 x7 x8 x9).1 h0 k0 with
    | none => exact Ev.now _
    | some a =>
     cases meets (ofR x0 x1 x2 x3 x4 x5 x6 x7 x8 x9).2.1 h1 k1 with
     | none => exact Ev.now _
     | some b => exact Ev.now _
   ·simp only [if_neg hu]
    exact Ev.now _
  ·simp only [if_neg hv]
   exact Ev.now _
 ·simp only [if_neg h]
  exact Ev.now _
end
/-! the mediating morphism of the standard pullback itself -/
def iota : Nat → Nat → List Int
 | _, 0 => []
 | i, n + 1 => (i : Int) :: iota (i + 1) n
theorem iota_len : ∀ (n i : Nat), (iota i n).length = n := by
 intro n
 induction n with
 | zero => intro i; rfl
 | succ n ih => intro i; simp [iota, ih]
theorem iota_rd : ∀ (n i j : Nat), j < n → rd (iota i n) (j : Int) = ((i + j : Nat) : Int) := by
 intro n
 induction n with
 | zero => intro i j h; omega
 | succ n ih =>
  intro i j h
  cases j with
  | zero =>
   show rd ((i : Int) :: iota (i + 1) n) ((0 : Nat) : Int) = _
   rw [rd_cons_zero]
   simp
  | succ j =>
   rw [iota, rd_cons_succ, ih (i + 1) j (by omega)]
   omega
theorem iota_mem : ∀ (n i : Nat) (x : Int), x ∈ iota i n → (i : Int) ≤ x := by
 intro n
 induction n with
 | zero => intro i x h; simp [iota] at h
 | succ n ih =>
  intro i x h
  rw [iota] at h
  rcases List.mem_cons.mp h with rfl | h
  ·omega
  ·have := ih (i + 1) x h
   omega
theorem iota_nodup : ∀ (n i : Nat), (iota i n).Nodup := by
 intro n
 induction n with
 | zero => intro i; simp [iota]
 | succ n ih =>
  intro i
  rw [iota, List.nodup_cons]
  refine ⟨fun h => ?_, ih _⟩
  have := iota_mem n (i + 1) _ h
  omega
theorem meets_self {P : List S79} (hd : P.Nodup) : ∀ (r pre : List S79), P = pre ++ r → meets P (r.map S79.f0) (r.map S79.f1) = some (iota pre.length r.length) := by
 intro r
 induction r with
 | nil => intro pre h; rfl
 | cons p r ih =>
  intro pre h
  have hj : pre.length < P.length := by rw [h]; simp
  have hp : rd_T79 P (pre.length : Int) = p := by rw [h]; exact rd79_mid pre p r
  have e := plc_self hd pre.length hj
  rw [hp] at e
  have ih' := ih (pre ++ [p]) (by rw [h]; exact snoc_mid pre p r)
  rw [List.map_cons, List.map_cons, meets, e, if_neg (by omega), ih', List.length_cons, iota]
  simp
theorem rd_map79 (f : S79 → Int) (P : List S79) (i : Int) (h0 : 0 ≤ i) (h1 : i < (P.length : Int)) : rd (P.map f) i = f (rd_T79 P i) := by
 obtain ⟨j, rfl⟩ : ∃ j : Nat, i = (j : Int) := ⟨i.toNat, by omega⟩
 rw [rd_get _ _ (by rw [List.length_map]; omega), rd79_get _ _ (by omega), List.getElem_map]
theorem rd_map94 (f : S79 → S94) (P : List S79) (i : Int) (h0 : 0 ≤ i) (h1 : i < (P.length : Int)) : rd_T94 (P.map f) i = f (rd_T79 P i) := by
 obtain ⟨j, rfl⟩ : ∃ j : Nat, i = (j : Int) := ⟨i.toNat, by omega⟩
 rw [rd94_get _ _ (by rw [List.length_map]; omega), rd79_get _ _ (by omega), List.getElem_map]
theorem rd79_mem (P : List S79) (i : Int) (h0 : 0 ≤ i) (h1 : i < (P.length : Int)) : rd_T79 P i ∈ P := by
 obtain ⟨j, rfl⟩ : ∃ j : Nat, i = (j : Int) := ⟨i.toNat, by omega⟩
 rw [rd79_get _ _ (by omega)]
 exact List.getElem_mem _
theorem rd94_mem (P : List S94) (i : Int) (h0 : 0 ≤ i) (h1 : i < (P.length : Int)) : rd_T94 P i ∈ P := by
 obtain ⟨j, rfl⟩ : ∃ j : Nat, i = (j : Int) := ⟨i.toNat, by omega⟩
 rw [rd94_get _ _ (by omega)]
 exact List.getElem_mem _
theorem rd_mem (P : List Int) (i : Int) (h0 : 0 ≤ i) (h1 : i < (P.length : Int)) : rd P i ∈ P := by
 obtain ⟨j, rfl⟩ : ∃ j : Nat, i = (j : Int) := ⟨i.toNat, by omega⟩
 rw [rd_get _ _ (by omega)]
 exact List.getElem_mem _
theorem edge_facts {a0 : List Int} {a1 : List S94} (h : validE a0 a1 = 0) (i : Int) (h0 : 0 ≤ i) (h1 : i < (a1.length : Int)) : kindB (rd_T94 a1 i).f0 = true ∧ 0 ≤ (rd_T94 a1 i).f1 ∧ (rd_T94 a1 i).f1 < (a0.length : Int) ∧ 0 ≤ (rd_T94 a1 i).f2 ∧ (rd_T94 a1 i).f2 < (a0.length : Int) := by
 obtain ⟨-, -, -, he⟩ := validE_iff.mp h
 have := he _ (rd94_mem a1 i h0 h1)
 unfold edgeB at this
 simp only [Bool.and_eq_true, decide_eq_true_eq] at this
 exact ⟨this.1, this.2.1.1, this.2.1.2, this.2.2.1, this.2.2.2⟩
theorem okN_int {a0 b0 n : List Int} (h : okN a0 b0 n) (i : Int) (h0 : 0 ≤ i) (h1 : i < (n.length : Int)) : 0 ≤ rd n i ∧ rd n i < (b0.length : Int) ∧ rd b0 (rd n i) = rd a0 i := by
 obtain ⟨j, rfl⟩ : ∃ j : Nat, i = (j : Int) := ⟨i.toNat, by omega⟩
 exact h j (by omega)
theorem okM_int {a1 b1 : List S94} {n m : List Int} (h : okM a1 b1 n m) (i : Int) (h0 : 0 ≤ i) (h1 : i < (m.length : Int)) : 0 ≤ rd m i ∧ rd m i < (b1.length : Int) ∧ (rd_T94 a1 i).f0 = (rd_T94 b1 (rd m i)).f0 ∧ rd n (rd_T94 a1 i).f1 = (rd_T94 b1 (rd m i)).f1 ∧ rd n (rd_T94 a1 i).f2 = (rd_T94 b1 (rd m i)).f2 := by
 obtain ⟨j, rfl⟩ : ∃ j : Nat, i = (j : Int) := ⟨i.toNat, by omega⟩
 exact h j (by omega)
section
variable {x0 : List Int} {x1 : List S94} {x2 : List Int} {x3 : List S94} {x4 : List Int} {x5 : List S94} {x6 x7 x8 x9 : List Int}
theorem ends_mem (m1 : mvalid x0 x1 x4 x5 x6 x7 = 0) (m2 : mvalid x2 x3 x4 x5 x8 x9 = 0) {q : S79} (hq : q ∈ rows x9 0 x7) :
  (⟨(rd_T94 x1 q.f0).f1, (rd_T94 x3 q.f1).f1⟩ : S79) ∈ rows x8 0 x6 ∧ (⟨(rd_T94 x1 q.f0).f2, (rd_T94 x3 q.f1).f2⟩ : S79) ∈ rows x8 0 x6 ∧ (rd_T94 x1 q.f0).f0 = (rd_T94 x3 q.f1).f0 ∧ 0 ≤ q.f0 ∧ q.f0 < (x1.length : Int) ∧ 0 ≤ q.f1 ∧ q.f1 < (x3.length : Int) := by
 obtain ⟨v1, v4, a1, a2, a3, a4⟩ := mvalid_iff.mp m1
 obtain ⟨v2, -, b1, b2, b3, b4⟩ := mvalid_iff.mp m2
 obtain ⟨c1, c2, c3, c4, c5⟩ := rows_mem.mp hq
 obtain ⟨-, -, d1, d2, d3⟩ := okM_int a4 q.f0 c1 c2
 obtain ⟨-, -, e1, e2, e3⟩ := okM_int b4 q.f1 c3 c4
 rw [← c5] at e1 e2 e3
 obtain ⟨-, f1, f2, f3, f4⟩ := edge_facts v1 q.f0 c1 (by omega)
 obtain ⟨-, g1, g2, g3, g4⟩ := edge_facts v2 q.f1 c3 (by omega)
 refine ⟨rows_mem.mpr ⟨f1, ?_, g1, ?_, ?_⟩, rows_mem.mpr ⟨f3, ?_, g3, ?_, ?_⟩, by rw [d1, e1], c1, by omega, c3, by omega⟩
 ·show (rd_T94 x1 q.f0).f1 < _; omega
 ·show (rd_T94 x3 q.f1).f1 < _; omega
 ·show rd x6 (rd_T94 x1 q.f0).f1 = rd x8 (rd_T94 x3 q.f1).f1; rw [d2, e2]
 ·show (rd_T94 x1 q.f0).f2 < _; omega
 ·show (rd_T94 x3 q.f1).f2 < _; omega
 ·show rd x6 (rd_T94 x1 q.f0).f2 = rd x8 (rd_T94 x3 q.f1).f2; rw [d3, e3]
theorem pb_validE (m1 : mvalid x0 x1 x4 x5 x6 x7 = 0) (m2 : mvalid x2 x3 x4 x5 x8 x9 = 0) (hP : (rows x8 0 x6).length ≤ 40) (hQ : (rows x9 0 x7).length ≤ 80) :
  validE ((rows x8 0 x6).map (fun p => rd x0 p.f0)) ((rows x9 0 x7).map (edg x1 x3 (rows x8 0 x6))) = 0 := by
 obtain ⟨v1, v4, a1, a2, a3, a4⟩ := mvalid_iff.mp m1
 obtain ⟨-, -, kx, -⟩ := validE_iff.mp v1
 refine validE_iff.mpr ⟨by rw [List.length_map]; exact hP, by rw [List.length_map]; exact hQ, fun t ht => ?_, fun e he => ?_⟩
 ·obtain ⟨p, hp, rfl⟩ := List.mem_map.mp ht
  obtain ⟨c1, c2, -⟩ := rows_mem.mp hp
  exact kx _ (rd_mem x0 p.f0 c1 (by omega))
 ·obtain ⟨q, hq, rfl⟩ := List.mem_map.mp he
  obtain ⟨e1, e2, -, e3, e4, -⟩ := ends_mem m1 m2 hq
  obtain ⟨f0, -⟩ := edge_facts v1 q.f0 e3 e4
  obtain ⟨g1, g2, -⟩ := plc_mem e1
  obtain ⟨g3, g4, -⟩ := plc_mem e2
  unfold edgeB edg
  simp only [List.length_map, Bool.and_eq_true, decide_eq_true_eq]
  exact ⟨f0, ⟨g1, g2⟩, g3, g4⟩
theorem pb_left (m1 : mvalid x0 x1 x4 x5 x6 x7 = 0) (m2 : mvalid x2 x3 x4 x5 x8 x9 = 0) (hP : (rows x8 0 x6).length ≤ 40) (hQ : (rows x9 0 x7).length ≤ 80) :
  mvalid ((rows x8 0 x6).map (fun p => rd x0 p.f0)) ((rows x9 0 x7).map (edg x1 x3 (rows x8 0 x6))) x0 x1 ((rows x8 0 x6).map S79.f0) ((rows x9 0 x7).map S79.f0) = 0 := by
 obtain ⟨v1, v4, a1, a2, a3, a4⟩ := mvalid_iff.mp m1
 refine mvalid_iff.mpr ⟨pb_validE m1 m2 hP hQ, v1, by simp, by simp, fun j hj => ?_, fun j hj => ?_⟩
 ·rw [List.length_map] at hj
  rw [rd_map79 _ _ _ (by omega) (by omega), rd_map79 _ _ _ (by omega) (by omega)]
  obtain ⟨c1, c2, -⟩ := rows_mem.mp (rd79_mem (rows x8 0 x6) j (by omega) (by omega))
  exact ⟨c1, by omega, rfl⟩
 ·rw [List.length_map] at hj
  obtain ⟨e1, e2, -, e3, e4, -⟩ := ends_mem m1 m2 (rd79_mem (rows x9 0 x7) j (by omega) (by omega))
  obtain ⟨g1, g2, g5, -⟩ := plc_mem e1
  obtain ⟨g3, g4, g6, -⟩ := plc_mem e2
  rw [rd_map79 _ (rows x9 0 x7) _ (by omega) (by omega), rd_map94 _ _ _ (by omega) (by omega)]
  unfold edg
  refine ⟨e3, e4, rfl, ?_, ?_⟩
  ·rw [rd_map79 _ _ _ g1 g2, g5]
  ·rw [rd_map79 _ _ _ g3 g4, g6]
theorem pb_right (m1 : mvalid x0 x1 x4 x5 x6 x7 = 0) (m2 : mvalid x2 x3 x4 x5 x8 x9 = 0) (hP : (rows x8 0 x6).length ≤ 40) (hQ : (rows x9 0 x7).length ≤ 80) :
  mvalid ((rows x8 0 x6).map (fun p => rd x0 p.f0)) ((rows x9 0 x7).map (edg x1 x3 (rows x8 0 x6))) x2 x3 ((rows x8 0 x6).map S79.f1) ((rows x9 0 x7).map S79.f1) = 0 := by
 obtain ⟨v1, v4, a1, a2, a3, a4⟩ := mvalid_iff.mp m1
 obtain ⟨v2, -, b1, b2, b3, b4⟩ := mvalid_iff.mp m2
 refine mvalid_iff.mpr ⟨pb_validE m1 m2 hP hQ, v2, by simp, by simp, fun j hj => ?_, fun j hj => ?_⟩
 ·rw [List.length_map] at hj
  rw [rd_map79 _ _ _ (by omega) (by omega), rd_map79 _ _ _ (by omega) (by omega)]
  obtain ⟨c1, c2, c3, c4, c5⟩ := rows_mem.mp (rd79_mem (rows x8 0 x6) j (by omega) (by omega))
  refine ⟨c3, by omega, ?_⟩
  obtain ⟨-, -, d1⟩ := okN_int a3 _ c1 c2
  obtain ⟨-, -, d2⟩ := okN_int b3 _ c3 c4
  rw [← d2, ← c5, d1]
 ·rw [List.length_map] at hj
  obtain ⟨e1, e2, e0, -, -, e3, e4⟩ := ends_mem m1 m2 (rd79_mem (rows x9 0 x7) j (by omega) (by omega))
  obtain ⟨g1, g2, -, g5⟩ := plc_mem e1
  obtain ⟨g3, g4, -, g6⟩ := plc_mem e2
  rw [rd_map79 _ (rows x9 0 x7) _ (by omega) (by omega), rd_map94 _ _ _ (by omega) (by omega)]
  unfold edg
  refine ⟨e3, e4, e0, ?_, ?_⟩
  ·rw [rd_map79 _ _ _ g1 g2, g5]
  ·rw [rd_map79 _ _ _ g3 g4, g6]
theorem id_valid {a0 : List Int} {a1 : List S94} (h : validE a0 a1 = 0) : mvalid a0 a1 a0 a1 (iota 0 a0.length) (iota 0 a1.length) = 0 := by
 refine mvalid_iff.mpr ⟨h, h, iota_len _ _, iota_len _ _, fun j hj => ?_, fun j hj => ?_⟩
 ·rw [iota_len] at hj
  rw [iota_rd _ _ _ hj, Nat.zero_add]
  exact ⟨by omega, by omega, rfl⟩
 ·rw [iota_len] at hj
  rw [iota_rd _ _ _ hj, Nat.zero_add]
  obtain ⟨-, f1, f2, f3, f4⟩ := edge_facts h (j : Int) (by omega) (by omega)
  refine ⟨by omega, by omega, rfl, ?_, ?_⟩
  ·obtain ⟨i, hi⟩ : ∃ i : Nat, (rd_T94 a1 (j : Int)).f1 = (i : Int) := ⟨((rd_T94 a1 (j : Int)).f1).toNat, by omega⟩
   rw [hi, iota_rd _ _ _ (by omega), Nat.zero_add]
  ·obtain ⟨i, hi⟩ : ∃ i : Nat, (rd_T94 a1 (j : Int)).f2 = (i : Int) := ⟨((rd_T94 a1 (j : Int)).f2).toNat, by omega⟩
   rw [hi, iota_rd _ _ _ (by omega), Nat.zero_add]
end
theorem sameInts02_l0 (l : List Int) (hl : l.length ≤ 9223372036854775807) : ∀ (r pre : List Int), l = pre ++ r → Ev (fun k => scarfjointref02_SameInts.l0 k l l (pre.length : Int)) true := by
 intro r
 induction r with
 | nil =>
  rintro pre rfl
  exact Ev.step (fun k => by simp only [scarfjointref02_SameInts.l0]; rw [if_neg (by simp)]) (Ev.now _)
 | cons x r ih =>
  rintro pre rfl
  refine Ev.step (fun k => by simp only [scarfjointref02_SameInts.l0]; rw [if_pos (lt_mid pre x r), if_pos (by omega), if_pos (lt_mid pre x r), if_pos trivial, wrap_mid pre x r hl]) (ih (pre ++ [x]) (snoc_mid pre x r))
theorem sameInts02_self (l : List Int) (hl : l.length ≤ 1000000) : Ev (fun k => scarfjointref02_SameInts.f k l l) true := by
 unfold scarfjointref02_SameInts.f
 simp only [if_true]
 exact sameInts02_l0 l (by omega) l [] rfl
theorem same06_self (a b : List Int) (ha : a.length ≤ 1000000) (hb : b.length ≤ 1000000) : Ev (fun k => scarfjointref06_Same.f k a b a b) true := by
 unfold scarfjointref06_Same.f
 refine Ev.bind (sameInts02_self a ha) ?_
 simp only [if_true]
 exact Ev.bind (sameInts02_self b hb) (Ev.now _)
theorem rd_snoc_l (l : List Int) (x : Int) (i : Int) (h0 : 0 ≤ i) (h : i < (l.length : Int)) : rd (l ++ [x]) i = rd l i := by
 unfold rd
 rw [List.getD_eq_getElem?_getD, List.getD_eq_getElem?_getD, List.getElem?_append_left (by omega)]
theorem rd_snoc_r (l : List Int) (x : Int) : rd (l ++ [x]) (l.length : Int) = x := rd_mid l x []
theorem rd94_snoc_l (l : List S94) (x : S94) (i : Int) (h0 : 0 ≤ i) (h : i < (l.length : Int)) : rd_T94 (l ++ [x]) i = rd_T94 l i := by
 unfold rd_T94
 rw [List.getD_eq_getElem?_getD, List.getD_eq_getElem?_getD, List.getElem?_append_left (by omega)]
theorem rd94_snoc_r (l : List S94) (x : S94) : rd_T94 (l ++ [x]) (l.length : Int) = x := rd38_mid l x []
theorem okN_snoc {a b n : List Int} {t k : Int} (h : okN a b n) (hl : a.length = n.length) (h0 : 0 ≤ k) (h1 : k < (b.length : Int)) (ht : rd b k = t) : okN (a ++ [t]) b (n ++ [k]) := by
 intro j hj
 rw [List.length_append, List.length_singleton] at hj
 by_cases e : j < n.length
 ·rw [rd_snoc_l n k _ (by omega) (by omega), rd_snoc_l a t _ (by omega) (by omega)]
  exact h j e
 ·obtain rfl : j = n.length := by omega
  rw [rd_snoc_r, ← hl, rd_snoc_r]
  exact ⟨h0, h1, ht⟩
theorem okM_snoc {a b : List S94} {n m : List Int} {e : S94} {k : Int} (h : okM a b n m) (hl : a.length = m.length) (h0 : 0 ≤ k) (h1 : k < (b.length : Int)) (e0 : e.f0 = (rd_T94 b k).f0) (e1 : rd n e.f1 = (rd_T94 b k).f1) (e2 : rd n e.f2 = (rd_T94 b k).f2) : okM (a ++ [e]) b n (m ++ [k]) := by
 intro j hj
 rw [List.length_append, List.length_singleton] at hj
 by_cases q : j < m.length
 ·rw [rd_snoc_l m k _ (by omega) (by omega), rd94_snoc_l a e _ (by omega) (by omega)]
  exact h j q
 ·obtain rfl : j = m.length := by omega
  rw [rd_snoc_r, ← hl, rd94_snoc_r]
  exact ⟨h0, h1, e0, e1, e2⟩
theorem rd95_mem (P : List S95) (i : Int) (h0 : 0 ≤ i) (h1 : i < (P.length : Int)) : rd_T95 P i ∈ P := by
 unfold rd_T95
 rw [List.getD_eq_getElem?_getD, List.getElem?_eq_getElem (by omega)]
 exact List.getElem_mem _
/-- The places of a number. -/
def ovl (n : Int) : Int → List Int → List Int
 | _, [] => []
 | i, x :: r => if x = n then i :: ovl n (i + 1) r else ovl n (i + 1) r
theorem over_l0 (l : List Int) (n : Int) (hl : l.length ≤ 1000000) : ∀ (r pre acc : List Int), l = pre ++ r → acc.length ≤ pre.length →
  Ev (fun k => scarfjointref11_over.l0 k l n acc (pre.length : Int)) (acc ++ ovl n pre.length r) := by
 intro r
 induction r with
 | nil =>
  rintro pre acc rfl h3
  refine Ev.step (fun k => by simp only [scarfjointref11_over.l0]; rw [if_neg (by simp)]) ?_
  simpa [ovl] using Ev.now acc
 | cons x r ih =>
  rintro pre acc rfl h3
  simp at hl
  have e : wrap64 ((pre.length : Int) + 1) = ((pre ++ [x]).length : Int) := wrap_mid pre x r (by simp; omega)
  by_cases hxy : x = n
  ·have ih' := ih (pre ++ [x]) (acc ++ [(pre.length : Int)]) (snoc_mid pre x r) (by simp; omega)
   refine Ev.step (fun k => by simp only [scarfjointref11_over.l0]; rw [if_pos (lt_mid pre x r), if_pos (by omega), rd_mid, if_pos hxy, if_pos (by omega), e]) ?_
   have e2 : ovl n (pre.length : Int) (x :: r) = (pre.length : Int) :: ovl n ((pre.length : Int) + 1) r := by rw [ovl, if_pos hxy]
   rw [e2]
   simpa using ih'
  ·have ih' := ih (pre ++ [x]) acc (snoc_mid pre x r) (by simp; omega)
   refine Ev.step (fun k => by simp only [scarfjointref11_over.l0]; rw [if_pos (lt_mid pre x r), if_pos (by omega), rd_mid, if_neg hxy, e]) ?_
   have e2 : ovl n (pre.length : Int) (x :: r) = ovl n ((pre.length : Int) + 1) r := by rw [ovl, if_neg hxy]
   rw [e2]
   simpa using ih'
theorem over_ev (l : List Int) (n : Int) (hl : l.length ≤ 1000000) : Ev (fun k => scarfjointref11_over.f k l n) (ovl n 0 l) := by
 unfold scarfjointref11_over.f
 simpa using over_l0 l n hl l [] [] rfl (Nat.le_refl _)
theorem ovl_mem (n : Int) : ∀ (l : List Int) (i : Nat) (x : Int), x ∈ ovl n i l → (i : Int) ≤ x ∧ x < (i : Int) + l.length ∧ rd l (x - i) = n := by
 intro l
 induction l with
 | nil => intro i x h; simp [ovl] at h
 | cons y r ih =>
  intro i x h
  have ih' := ih (i + 1) x
  rw [Int.natCast_add, Int.natCast_one] at ih'
  have key : x ∈ ovl n ((i : Int) + 1) r → (i : Int) ≤ x ∧ x < (i : Int) + (y :: r).length ∧ rd (y :: r) (x - i) = n := by
   intro h
   obtain ⟨h1, h2, h3⟩ := ih' h
   refine ⟨by omega, by simp; omega, ?_⟩
   rw [← h3]
   unfold rd
   have : (x - (i : Int)).toNat = (x - ((i : Int) + 1)).toNat + 1 := by omega
   rw [this, List.getD_cons_succ]
  unfold ovl at h
  split at h
  ·rename_i hy
   rcases List.mem_cons.mp h with rfl | h
   ·refine ⟨Int.le_refl _, by simp; omega, ?_⟩
    rw [Int.sub_self]
    exact hy
   ·exact key h
  ·exact key h
theorem ovl_rd (n : Int) (l : List Int) (i : Int) (h0 : 0 ≤ i) (h1 : i < ((ovl n 0 l).length : Int)) : 0 ≤ rd (ovl n 0 l) i ∧ rd (ovl n 0 l) i < (l.length : Int) ∧ rd l (rd (ovl n 0 l) i) = n := by
 have h := ovl_mem n l 0 _ (rd_mem (ovl n 0 l) i h0 h1)
 simpa using h
theorem ovl_len (n : Int) : ∀ (l : List Int) (i : Int), (ovl n i l).length ≤ l.length := by
 intro l
 induction l with
 | nil => intro i; simp [ovl]
 | cons x r ih =>
  intro i
  have := ih (i + 1)
  unfold ovl
  split <;> simp <;> omega
end Go.Proofs.Ytillofiphkmjjaa.Pl

/- scarfjointref11.Over (22), walked by hand: what it returns is a graph and a valid morphism to the given one. -/
namespace Go.Proofs.Ytillofiphkmjjaa.X
open Go.RowKit Go.Proofs.YtillofiphkmjjaaW.PrintWords Go.Proofs.YtillofiphkmjjaaW.PrintLast Go.Proofs.YtillofiphkmjjaaW.PrintMore Go.Proofs.Ytillofiphkmjjaa.Pl
set_option linter.unusedVariables false
set_option linter.unusedSimpArgs false
set_option maxHeartbeats 4000000 in
set_option maxRecDepth 100000 in
theorem Over_calls (A0 : Option Addr) (c0 : Nat) (dn : List Int) (A1 : Option Addr) (c1 : Nat) (de : List S94) (A2 : Option Addr) (c2 : Nat) (xn : List Int) (A3 : Option Addr) (c3 : Nat) (xe : List S95) (w : World)
  (R0 : Row (Kd.int .i64) w A0 c0 dn) (R1 : Row k94 w A1 c1 de) (R2 : Row (Kd.int .u8) w A2 c2 xn) (R3 : Row k95 w A3 c3 xe) (hd : validE dn de = 0) (hx : ∀ x ∈ xn, 0 ≤ x ∧ x ≤ 255) (hy : ∀ e ∈ xe, (0 ≤ e.f0 ∧ e.f0 ≤ 255) ∧ (0 ≤ e.f1 ∧ e.f1 ≤ 255) ∧ 0 ≤ e.f2 ∧ e.f2 ≤ 255) :
  Calls Try.prog 22 #[.agg #[.slice A0 dn.length c0, .slice A1 de.length c1], .agg #[.slice A2 xn.length c2, .slice A3 xe.length c3]] w fun e w' => ∃ (gn : List Int) (ge : List S94) (mn me : List Int) (v0 v1 v2 v3 : Value), e = .returned (.tuple #[.agg #[v0, v1], .agg #[v2, v3]]) ∧ Vr (Kd.int .i64) w' v0 gn ∧ Vr k94 w' v1 ge ∧ Vr (Kd.int .i64) w' v2 mn ∧ Vr (Kd.int .i64) w' v3 me ∧ Below w.heap.size w w' ∧ mvalid gn ge dn de mn me = 0 ∧ gn.length ≤ 8 ∧ gn.length ≤ xn.length ∧ ge.length ≤ 10 ∧ ge.length ≤ xe.length := by
 have hu25 := Try.underlying25
 have hu27 := Try.underlying27
 have hu44 := Try.underlying44
 have hd_ := Aside0.mk hd
 have hx_ := Aside0.mk hx
 have hy_ := Aside0.mk hy
 clear hd hx hy
 go_enter Try.func22, Try.ntmps22
 go_upto_region 3 with fail
 obtain ⟨w1, e1, BD, BX, B4, B5, hb⟩ := nw4 w 25 #[.slice A0 dn.length c0, .slice A1 de.length c1] 44 #[.slice A2 xn.length c2, .slice A3 xe.length c3] 25 #[.slice none 0 0, .slice none 0 0] 27 #[.slice none 0 0, .slice none 0 0]
 rw [← e1]
 have s1 : w1.heap.size = w.heap.size + 1 + 1 + 1 + 1 := by rw [e1, size_alloc1, size_alloc1, size_alloc1, size_alloc1]
 have S0 : Since w w1 := ⟨hb⟩
 clear e1
 obtain ⟨w2, e2, BG, BM, hb2⟩ := nw2 w1 25 #[.slice none 0 0, .slice none 0 0] 27 #[.slice none 0 0, .slice none 0 0]
 rw [← e2, ← s1]
 clear e2
 have n4 : w.heap.size ≤ w.heap.size + 1 + 1 := by omega
 have n5 : w.heap.size ≤ w.heap.size + 1 + 1 + 1 := by omega
 have n45 : w.heap.size + 1 + 1 ≠ w.heap.size + 1 + 1 + 1 := by omega
 replace R0 := R0.below hb
 replace R1 := R1.below hb
 replace R2 := R2.below hb
 replace R3 := R3.below hb
 clear hb
 generalize w.heap.size + 1 + 1 + 1 = g5 at *
 generalize w.heap.size + 1 + 1 = g4 at *
 generalize w.heap.size + 1 = gx at *
 have ov : Ov w1 w1.heap.size (w1.heap.size + 1) (.slice none 0 0) (.slice none 0 0) (.slice none 0 0) (.slice none 0 0) (.slice none 0 0) (.slice none 0 0) (.slice none 0 0) (.slice none 0 0) [] [] [] [] w2 :=
  ⟨⟨hb2⟩, ⟨BG.get⟩, ⟨BM.get⟩, Nat.le_refl _, Nat.le_succ _, Kd.R_nil _ _ _ _ _, Kd.R_nil _ _ _ _ _, Kd.R_nil _ _ _ _ _, Kd.R_nil _ _ _ _ _, ap_nil _ _ _, ap_nil _ _ _, ap_nil _ _ _⟩
 clear BG BM hb2
 generalize w1.heap.size + 1 = m at *
 obtain ⟨g, hg0, ov⟩ : ∃ g, g = w1.heap.size ∧ Ov w1 g m (.slice none 0 0) (.slice none 0 0) (.slice none 0 0) (.slice none 0 0) (.slice none 0 0) (.slice none 0 0) (.slice none 0 0) (.slice none 0 0) [] [] [] [] w2 := ⟨_, rfl, ov⟩
 rw [← hg0]
 clear hg0
 generalize hgd : w.heap.size = gd at BD ⊢
 clear hgd
 go_wp2_with fail
 go_loopg [8] xn.length (fun kq v8 w' => ∃ (i : Nat) (lN lM : List Int) (vN vM : Value), v8 = .int .i64 i ∧ Aside0 (i + kq = xn.length ∧ i ≤ 8 ∧ lN.length = i ∧ lM.length = i ∧ okN lN dn lM ∧ ∀ t ∈ lN, kindB t = true) ∧ Ov w1 g m vN (.slice none 0 0) vM (.slice none 0 0) vN (.slice none 0 0) vM (.slice none 0 0) lN [] lM [] w')
 case atStart => exact ⟨0, [], [], _, _, rfl, ⟨by omega, by omega, rfl, rfl, fun j hj => absurd hj (by simp), by simp⟩, ov⟩
 case round =>
  clear ov
  obtain ⟨i, lN, lM, vN, vM, rfl, A, ov⟩ := hrel
  go_upto_region 4 with fail
  go_cut [28] (fun v28 wc => v28 = .bool (decide ((i : Int) < (xn.length : Int)) && (decide ((i : Int) < 8) && decide (0 < dn.length))) ∧ Ov w1 g m vN (.slice none 0 0) vM (.slice none 0 0) vN (.slice none 0 0) vM (.slice none 0 0) lN [] lM [] wc)
  case first =>
   obtain ⟨_, _⟩ := (BX.below ov.sb.get).q2
   obtain ⟨_, _⟩ := (BD.below ov.sb.get).q2
   by_cases k1 : (i : Int) < (xn.length : Int)
   ·by_cases k2 : (i : Int) < 8
    ·go_wp2_with fail
     go_meet
     case rel => exact ⟨by first | (simp [k1, k2]; done) | (simp; intros; omega), ov⟩
    ·go_wp2_with fail
     go_meet
     case rel => exact ⟨by first | (simp [k1, k2]; done) | (simp; intros; omega), ov⟩
   ·go_wp2_with fail
    go_meet
    case rel => exact ⟨by first | (simp [k1, k2]; done) | (simp; intros; omega), ov⟩
  case rest =>
   clear ov
   obtain ⟨rfl, ov⟩ := hcut
   by_cases k : (i : Int) < (xn.length : Int) ∧ (i : Int) < 8 ∧ 0 < dn.length
   ·skip
    have hk : (decide ((i : Int) < (xn.length : Int)) && (decide ((i : Int) < 8) && decide (0 < dn.length))) = true := by simp [k.1, k.2.1, k.2.2]
    rw [hk]
    go_upto_region 6 with fail
    obtain ⟨_, _⟩ := (BX.below ov.sb.get).q2
    obtain ⟨_, _⟩ := (BD.below ov.sb.get).q2
    obtain ⟨ad, ead, hc⟩ := Kd.at_int R2.at_ (i : Int) (by omega) k.1
    cases ead
    rw [Int.toNat_natCast] at hc
    replace hc := ov.sb.c hc
    have q1 := eq_true k.1
    have q0 : (0 ≤ (i : Int)) = True := eq_true (by omega)
    have q2 : ((dn.length : Int) = 0) = False := eq_false (by omega)
    go_quiet (fail)
    go_wp2_with fail
    have hxi := hx_.out _ (rd_mem xn (i : Int) (by omega) k.1)
    have hw : wrap64 (rd xn (i : Int)) = rd xn (i : Int) := by unfold wrap64; omega
    rw [hw]
    obtain ⟨kk, hkk, k0, k1⟩ : ∃ kk : Int, kk = (rd xn (i : Int)).tmod (dn.length : Int) ∧ 0 ≤ kk ∧ kk < (dn.length : Int) := ⟨_, rfl, Int.tmod_nonneg _ hxi.1, Int.tmod_lt_of_pos _ (by omega)⟩
    rw [← hkk]
    clear hkk hw hxi
    obtain ⟨an, ean, hcn⟩ := Kd.at_int R0.at_ kk k0 k1
    cases ean
    replace ov := ov.below (pw_below_drewN (Below.refl _ _) nq)
    clear hc q0 q1 q2
    generalize wc.drewN nq = wq at ov ⊢
    have p0 := eq_true k0
    have p1 := eq_true k1
    have ov1 := ov.below (below_drew1 (Below.refl _ _))
    have hHeld : wq.drew.cell? ⟨g, 0, none⟩ = some (vN) ∧ wq.drew.cell? ⟨m, 0, none⟩ = some (vM) ∧ wq.drew.cell? ⟨gd, 0, none⟩ = some (.slice (some an) dn.length c0) ∧ wq.drew.cell? (an.add kk.toNat) = some (.int .i64 (rd dn kk)) := ⟨ov1.bg.c0, ov1.bm.c0, (BD.below ov1.sb.get).at 0 rfl, ov1.sb.c hcn⟩
    refine plan_pre (fun w' => w'.cell? ⟨g, 0, none⟩ = some (vN) ∧ w'.cell? ⟨m, 0, none⟩ = some (vM) ∧ w'.cell? ⟨gd, 0, none⟩ = some (.slice (some an) dn.length c0) ∧ w'.cell? (an.add kk.toNat) = some (.int .i64 (rd dn kk))) [15, 17] [(0, 1, some 41), (1, 2, some 42), (2, 1, some 43), (3, 2, some 44), (4, 1, some 45), (5, 1, some 46), (6, 2, some 47), (9, 1, some 50), (10, 2, some 51), (11, 1, some 52)] 8 ((true, [([], []), ([0], [0]), ([], []), ([2], [2]), ([], []), ([3, 4], [3, 4]), ([5], [5]), ([6], [6]), ([1, 7], [1, 7]), ([], []), ([9], [9]), ([], []), ([11], [11]), ([10, 12, 8], [10, 12]), ([0, 1, 2, 3, 4, 5, 6, 7, 8], []), ([14, 8, 13, 0, 1, 2, 3, 4, 5, 6, 7, 8], [8, 14]), ([0, 1, 2, 3, 4, 5, 6, 7, 8, 9, 10, 11, 12, 13, 14, 15], []), ([16, 13, 15, 0, 1, 2, 3, 4, 5, 6, 7, 8, 9, 10, 11, 12, 13, 14, 15], [13, 16])])) [0, 1, 0, 4, 0, 28, 60, 124, 255, 0, 512, 0, 2048, 8191, 511, 32767, 65535, 131071] (by kernel_rfl) (by kernel_rfl) rfl rfl (by kernel_rfl) (fun _ _ d _ _ h => by cases d <;> exact h) ?_
    repeat (first
     | (refine pl1 (v := ?_) (a' := ?_) rfl rfl (Or.inl ⟨by rfl, ?_⟩) ?_ ?_; rotate_left; (intro w'; go_simp; with_reducible rfl); rotate_left; (simp only [Act.put, List.setIfInBounds_toArray, List.set_cons_zero, List.set_cons_succ, i64_w, i32_w]; rfl))
     | (refine pl2 (v := ?_) (a' := ?_) rfl rfl hHeld (Or.inl ⟨by rfl, ?_⟩) ?_ ?_; rotate_left; (rintro w' ⟨s0, s1, s2, s3⟩; go_simp; with_reducible rfl); rotate_left; (simp only [Act.put, List.setIfInBounds_toArray, List.set_cons_zero, List.set_cons_succ, i64_w, i32_w]; rfl)))
    refine pl_end ?_
    have HT : rtab .any _ = _ := (by kernel_rfl : rtab .any (opsOf Try.f22 7) = (true, [([], []), ([0], [0]), ([], []), ([2], [2]), ([], []), ([3, 4], [3, 4]), ([5], [5]), ([6], [6]), ([1, 7], [1, 7]), ([], []), ([9], [9]), ([], []), ([11], [11]), ([10, 12, 8], [10, 12]), ([0, 1, 2, 3, 4, 5, 6, 7, 8], []), ([14, 8, 13, 0, 1, 2, 3, 4, 5, 6, 7, 8], [8, 14]), ([0, 1, 2, 3, 4, 5, 6, 7, 8, 9, 10, 11, 12, 13, 14, 15], []), ([16, 13, 15, 0, 1, 2, 3, 4, 5, 6, 7, 8, 9, 10, 11, 12, 13, 14, 15], [13, 16])]))
    show wpAnyLast _ _ _ _ _ _ 8 #[true, true, true, true, true, true, true, false, false, true, true, true, false, false, false, false, false, false] _ _
    refine join_ (σ := Value × Value × Value × Value) 3 #[true, true, true, true, true, true, true, true, true, true, true, true, true, true, true, false, false, false] (fun s => [(48, s.1), (49, s.2.1), (53, s.2.2.1), (54, s.2.2.2), (55, .pointer (some ⟨g, 0, none⟩))]) (fun s w' => Ov w1 g m vN (.slice none 0 0) vM (.slice none 0 0) s.2.1 (.slice none 0 0) s.2.2.2 (.slice none 0 0) (lN ++ [rd dn kk]) [] (lM ++ [kk]) [] w') ?_ ?_
    rotate_left
    ·intro hCont
     have l1 : lN.length ≤ 8 := by have := A.out; omega
     have l2 : lM.length ≤ 8 := by have := A.out; omega
     clear ov hHeld
     replace ov := ov1
     generalize wq.drew = wd at *
     refine two_ (i := 7) (j := 12) (Ni := some 48) (Nj := some 53) #[true, true, true, true, true, true, true, true, false, true, true, true, false, false, false, false, false, false] #[true, true, true, true, true, true, true, false, false, true, true, true, true, false, false, false, false, false] rfl rfl rfl rfl (two_of HT (by kernel_rfl)) (by decide) (by decide) (fun K hK => ?_) (fun K hK => ?_)
     ·skip
      refine value_ (w1 := wd.alloc (.cells #[.int .i64 (rd dn kk)] 3)) (v := .slice (some ⟨wd.heap.size, 0, none⟩) 1 1) (by rfl) rfl ?_ ?_
      ·first | (go_simp; done) | (go_simp; rfl)
      have nZ1 := Kd.R_ne_new ov.oN 0
      rw [Nat.add_zero] at nZ1
      obtain ⟨Z1, hbz⟩ := blk_new1 wd 3 #[.int .i64 (rd dn kk)]
      replace ov := ov.below hbz
      refine hK.out _ _ ⟨ov.bg.c0, ov.bm.c0, (BD.below ov.sb.get).at 0 rfl, ov.sb.c hcn⟩ (fun _ => ?_)
      clear hbz
      generalize wd.alloc (.cells #[.int .i64 (rd dn kk)] 3) = we at *
      generalize wd.heap.size = gZ1 at *
      clear hK K
      refine norm_ (a' := ?_) ?_ ?_
      rotate_left
      ·show Act.put _ (some 48) _ = _
       simp only [Act.put, List.setIfInBounds_toArray, List.set_cons_zero, List.set_cons_succ, i64_w, i32_w]
       rfl
      refine two_ (i := 8) (j := 12) (Ni := some 49) (Nj := some 53) #[true, true, true, true, true, true, true, true, true, true, true, true, false, false, false, false, false, false] #[true, true, true, true, true, true, true, true, false, true, true, true, true, false, false, false, false, false] rfl rfl rfl rfl (two_of HT (by kernel_rfl)) (by decide) (by decide) (fun K hK => ?_) (fun K hK => ?_)
      ·skip
       refine Kd.R_append_rows_step (Kd.int .i64) (w0 := w1) w1.heap.size (by rfl) (.tmp 42) (.tmp 48) 22 3 (.int .i64 0) 8 rfl Try.underlying22 info3 rfl (by decide) (by omega) vN lN [(rd dn kk)] _ _ _ (fun _ => True) (fun _ => False) rfl rfl ov.oN (Z1.row (l := [(rd dn kk)]) (by simp)).at_ (fun _ _ h => h) (fun _ h => h.elim) (fun _ _ => trivial) ov.sb.get ov.sb.get.size (by omega) ?_
       intro v1 wf ho hbl hgr hat
       replace ov := ov.appN ho hbl hgr hat
       clear ho hbl hgr hat
       refine hK.out _ _ ⟨ov.bg.c0, ov.bm.c0, (BD.below ov.sb.get).at 0 rfl, ov.sb.c hcn⟩ (fun _ => ?_)
       clear hK K
       refine norm_ (a' := ?_) ?_ ?_
       rotate_left
       ·show Act.put _ (some 49) _ = _
        simp only [Act.put, List.setIfInBounds_toArray, List.set_cons_zero, List.set_cons_succ, i64_w, i32_w]
        rfl
       refine pure_ (i := 14) (N := some 55) (v := ?_) (a' := ?_) #[true, true, true, true, true, true, true, true, true, true, true, true, false, false, true, false, false, false] rfl rfl (any_of HT (by kernel_rfl)) (fun _ _ _ h => h) (Or.inl ⟨by rfl, ?_⟩) ?_ ?_
       rotate_left
       ·intro w'; go_simp; with_reducible rfl
       rotate_left
       ·(simp only [Act.put, List.setIfInBounds_toArray, List.set_cons_zero, List.set_cons_succ, i64_w, i32_w]; rfl)
       refine one_ (i := 12) (N := some 53) #[true, true, true, true, true, true, true, true, true, true, true, true, true, false, true, false, false, false] rfl rfl (one_of HT (by kernel_rfl)) (by decide) (fun K hK => ?_)
       refine value_ (w1 := wf.alloc (.cells #[.int .i64 kk] 3)) (v := .slice (some ⟨wf.heap.size, 0, none⟩) 1 1) (by rfl) rfl ?_ ?_
       ·first | (go_simp; done) | (go_simp; rfl)
       have nZ2 := Kd.R_ne_new ov.oN 0
       rw [Nat.add_zero] at nZ2
       obtain ⟨Z2, hbz⟩ := blk_new1 wf 3 #[.int .i64 kk]
       replace ov := ov.below hbz
       refine hK.out _ _ ⟨ov.bg.c0, ov.bm.c0, (BD.below ov.sb.get).at 0 rfl, ov.sb.c hcn⟩ (fun _ => ?_)
       clear hbz
       generalize wf.alloc (.cells #[.int .i64 kk] 3) = wh at *
       generalize wf.heap.size = gZ2 at *
       clear hK K
       refine norm_ (a' := ?_) ?_ ?_
       rotate_left
       ·show Act.put _ (some 53) _ = _
        simp only [Act.put, List.setIfInBounds_toArray, List.set_cons_zero, List.set_cons_succ, i64_w, i32_w]
        rfl
       refine one_ (i := 13) (N := some 54) #[true, true, true, true, true, true, true, true, true, true, true, true, true, true, true, false, false, false] rfl rfl (one_of HT (by kernel_rfl)) (by decide) (fun K hK => ?_)
       refine Kd.R_append_rows_step (Kd.int .i64) (w0 := w1) w1.heap.size (by rfl) (.tmp 51) (.tmp 53) 22 3 (.int .i64 0) 8 rfl Try.underlying22 info3 rfl (by decide) (by omega) vM lM [kk] _ _ _ (fun _ => True) (fun _ => False) rfl rfl ov.oM (Z2.row (l := [kk]) (by simp)).at_ (fun _ _ h => h) (fun _ h => h.elim) (fun _ _ => trivial) ov.sb.get ov.sb.get.size (by omega) ?_
       intro v2 wk ho hbl hgr hat
       replace ov := ov.appM ho hbl hgr hat
       clear ho hbl hgr hat
       refine hK.out _ _ ⟨ov.bg.c0, ov.bm.c0, (BD.below ov.sb.get).at 0 rfl, ov.sb.c hcn⟩ (fun _ => ?_)
       clear hK K
       refine norm_ (a' := ?_) ?_ ?_
       rotate_left
       ·show Act.put _ (some 54) _ = _
        simp only [Act.put, List.setIfInBounds_toArray, List.set_cons_zero, List.set_cons_succ, i64_w, i32_w]
        rfl
       exact hCont ⟨_, _, _, _⟩ _ ov
      ·skip
       refine value_ (w1 := we.alloc (.cells #[.int .i64 kk] 3)) (v := .slice (some ⟨we.heap.size, 0, none⟩) 1 1) (by rfl) rfl ?_ ?_
       ·first | (go_simp; done) | (go_simp; rfl)
       have nZ2 := Kd.R_ne_new ov.oN 0
       rw [Nat.add_zero] at nZ2
       obtain ⟨Z2, hbz⟩ := blk_new1 we 3 #[.int .i64 kk]
       replace ov := ov.below hbz
       replace Z1 := Z1.below hbz
       refine hK.out _ _ ⟨ov.bg.c0, ov.bm.c0, (BD.below ov.sb.get).at 0 rfl, ov.sb.c hcn⟩ (fun _ => ?_)
       clear hbz
       generalize we.alloc (.cells #[.int .i64 kk] 3) = wf at *
       generalize we.heap.size = gZ2 at *
       clear hK K
       refine norm_ (a' := ?_) ?_ ?_
       rotate_left
       ·show Act.put _ (some 53) _ = _
        simp only [Act.put, List.setIfInBounds_toArray, List.set_cons_zero, List.set_cons_succ, i64_w, i32_w]
        rfl
       refine one_ (i := 8) (N := some 49) #[true, true, true, true, true, true, true, true, true, true, true, true, true, false, false, false, false, false] rfl rfl (one_of HT (by kernel_rfl)) (by decide) (fun K hK => ?_)
       refine Kd.R_append_rows_step (Kd.int .i64) (w0 := w1) w1.heap.size (by rfl) (.tmp 42) (.tmp 48) 22 3 (.int .i64 0) 8 rfl Try.underlying22 info3 rfl (by decide) (by omega) vN lN [(rd dn kk)] _ _ _ (fun _ => True) (fun _ => False) rfl rfl ov.oN (Z1.row (l := [(rd dn kk)]) (by simp)).at_ (fun _ _ h => h) (fun _ h => h.elim) (fun _ _ => trivial) ov.sb.get ov.sb.get.size (by omega) ?_
       intro v1 wh ho hbl hgr hat
       replace Z2 : Blk _ _ _ _ := ⟨blk_grown Z2.get hgr nZ2⟩
       replace ov := ov.appN ho hbl hgr hat
       clear ho hbl hgr hat
       refine hK.out _ _ ⟨ov.bg.c0, ov.bm.c0, (BD.below ov.sb.get).at 0 rfl, ov.sb.c hcn⟩ (fun _ => ?_)
       clear hK K
       refine norm_ (a' := ?_) ?_ ?_
       rotate_left
       ·show Act.put _ (some 49) _ = _
        simp only [Act.put, List.setIfInBounds_toArray, List.set_cons_zero, List.set_cons_succ, i64_w, i32_w]
        rfl
       refine pure_ (i := 14) (N := some 55) (v := ?_) (a' := ?_) #[true, true, true, true, true, true, true, true, true, true, true, true, true, false, true, false, false, false] rfl rfl (any_of HT (by kernel_rfl)) (fun _ _ _ h => h) (Or.inl ⟨by rfl, ?_⟩) ?_ ?_
       rotate_left
       ·intro w'; go_simp; with_reducible rfl
       rotate_left
       ·(simp only [Act.put, List.setIfInBounds_toArray, List.set_cons_zero, List.set_cons_succ, i64_w, i32_w]; rfl)
       refine one_ (i := 13) (N := some 54) #[true, true, true, true, true, true, true, true, true, true, true, true, true, true, true, false, false, false] rfl rfl (one_of HT (by kernel_rfl)) (by decide) (fun K hK => ?_)
       refine Kd.R_append_rows_step (Kd.int .i64) (w0 := w1) w1.heap.size (by rfl) (.tmp 51) (.tmp 53) 22 3 (.int .i64 0) 8 rfl Try.underlying22 info3 rfl (by decide) (by omega) vM lM [kk] _ _ _ (fun _ => True) (fun _ => False) rfl rfl ov.oM (Z2.row (l := [kk]) (by simp)).at_ (fun _ _ h => h) (fun _ h => h.elim) (fun _ _ => trivial) ov.sb.get ov.sb.get.size (by omega) ?_
       intro v2 wk ho hbl hgr hat
       replace ov := ov.appM ho hbl hgr hat
       clear ho hbl hgr hat
       refine hK.out _ _ ⟨ov.bg.c0, ov.bm.c0, (BD.below ov.sb.get).at 0 rfl, ov.sb.c hcn⟩ (fun _ => ?_)
       clear hK K
       refine norm_ (a' := ?_) ?_ ?_
       rotate_left
       ·show Act.put _ (some 54) _ = _
        simp only [Act.put, List.setIfInBounds_toArray, List.set_cons_zero, List.set_cons_succ, i64_w, i32_w]
        rfl
       exact hCont ⟨_, _, _, _⟩ _ ov
     ·skip
      refine value_ (w1 := wd.alloc (.cells #[.int .i64 kk] 3)) (v := .slice (some ⟨wd.heap.size, 0, none⟩) 1 1) (by rfl) rfl ?_ ?_
      ·first | (go_simp; done) | (go_simp; rfl)
      have nZ2 := Kd.R_ne_new ov.oN 0
      rw [Nat.add_zero] at nZ2
      obtain ⟨Z2, hbz⟩ := blk_new1 wd 3 #[.int .i64 kk]
      replace ov := ov.below hbz
      refine hK.out _ _ ⟨ov.bg.c0, ov.bm.c0, (BD.below ov.sb.get).at 0 rfl, ov.sb.c hcn⟩ (fun _ => ?_)
      clear hbz
      generalize wd.alloc (.cells #[.int .i64 kk] 3) = we at *
      generalize wd.heap.size = gZ2 at *
      clear hK K
      refine norm_ (a' := ?_) ?_ ?_
      rotate_left
      ·show Act.put _ (some 53) _ = _
       simp only [Act.put, List.setIfInBounds_toArray, List.set_cons_zero, List.set_cons_succ, i64_w, i32_w]
       rfl
      refine one_ (i := 7) (N := some 48) #[true, true, true, true, true, true, true, true, false, true, true, true, true, false, false, false, false, false] rfl rfl (one_of HT (by kernel_rfl)) (by decide) (fun K hK => ?_)
      refine value_ (w1 := we.alloc (.cells #[.int .i64 (rd dn kk)] 3)) (v := .slice (some ⟨we.heap.size, 0, none⟩) 1 1) (by rfl) rfl ?_ ?_
      ·first | (go_simp; done) | (go_simp; rfl)
      have nZ1 := Kd.R_ne_new ov.oN 0
      rw [Nat.add_zero] at nZ1
      obtain ⟨Z1, hbz⟩ := blk_new1 we 3 #[.int .i64 (rd dn kk)]
      replace ov := ov.below hbz
      replace Z2 := Z2.below hbz
      refine hK.out _ _ ⟨ov.bg.c0, ov.bm.c0, (BD.below ov.sb.get).at 0 rfl, ov.sb.c hcn⟩ (fun _ => ?_)
      clear hbz
      generalize we.alloc (.cells #[.int .i64 (rd dn kk)] 3) = wf at *
      generalize we.heap.size = gZ1 at *
      clear hK K
      refine norm_ (a' := ?_) ?_ ?_
      rotate_left
      ·show Act.put _ (some 48) _ = _
       simp only [Act.put, List.setIfInBounds_toArray, List.set_cons_zero, List.set_cons_succ, i64_w, i32_w]
       rfl
      refine one_ (i := 8) (N := some 49) #[true, true, true, true, true, true, true, true, true, true, true, true, true, false, false, false, false, false] rfl rfl (one_of HT (by kernel_rfl)) (by decide) (fun K hK => ?_)
      refine Kd.R_append_rows_step (Kd.int .i64) (w0 := w1) w1.heap.size (by rfl) (.tmp 42) (.tmp 48) 22 3 (.int .i64 0) 8 rfl Try.underlying22 info3 rfl (by decide) (by omega) vN lN [(rd dn kk)] _ _ _ (fun _ => True) (fun _ => False) rfl rfl ov.oN (Z1.row (l := [(rd dn kk)]) (by simp)).at_ (fun _ _ h => h) (fun _ h => h.elim) (fun _ _ => trivial) ov.sb.get ov.sb.get.size (by omega) ?_
      intro v1 wh ho hbl hgr hat
      replace Z2 : Blk _ _ _ _ := ⟨blk_grown Z2.get hgr nZ2⟩
      replace ov := ov.appN ho hbl hgr hat
      clear ho hbl hgr hat
      refine hK.out _ _ ⟨ov.bg.c0, ov.bm.c0, (BD.below ov.sb.get).at 0 rfl, ov.sb.c hcn⟩ (fun _ => ?_)
      clear hK K
      refine norm_ (a' := ?_) ?_ ?_
      rotate_left
      ·show Act.put _ (some 49) _ = _
       simp only [Act.put, List.setIfInBounds_toArray, List.set_cons_zero, List.set_cons_succ, i64_w, i32_w]
       rfl
      refine pure_ (i := 14) (N := some 55) (v := ?_) (a' := ?_) #[true, true, true, true, true, true, true, true, true, true, true, true, true, false, true, false, false, false] rfl rfl (any_of HT (by kernel_rfl)) (fun _ _ _ h => h) (Or.inl ⟨by rfl, ?_⟩) ?_ ?_
      rotate_left
      ·intro w'; go_simp; with_reducible rfl
      rotate_left
      ·(simp only [Act.put, List.setIfInBounds_toArray, List.set_cons_zero, List.set_cons_succ, i64_w, i32_w]; rfl)
      refine one_ (i := 13) (N := some 54) #[true, true, true, true, true, true, true, true, true, true, true, true, true, true, true, false, false, false] rfl rfl (one_of HT (by kernel_rfl)) (by decide) (fun K hK => ?_)
      refine Kd.R_append_rows_step (Kd.int .i64) (w0 := w1) w1.heap.size (by rfl) (.tmp 51) (.tmp 53) 22 3 (.int .i64 0) 8 rfl Try.underlying22 info3 rfl (by decide) (by omega) vM lM [kk] _ _ _ (fun _ => True) (fun _ => False) rfl rfl ov.oM (Z2.row (l := [kk]) (by simp)).at_ (fun _ _ h => h) (fun _ h => h.elim) (fun _ _ => trivial) ov.sb.get ov.sb.get.size (by omega) ?_
      intro v2 wk ho hbl hgr hat
      replace ov := ov.appM ho hbl hgr hat
      clear ho hbl hgr hat
      refine hK.out _ _ ⟨ov.bg.c0, ov.bm.c0, (BD.below ov.sb.get).at 0 rfl, ov.sb.c hcn⟩ (fun _ => ?_)
      clear hK K
      refine norm_ (a' := ?_) ?_ ?_
      rotate_left
      ·show Act.put _ (some 54) _ = _
       simp only [Act.put, List.setIfInBounds_toArray, List.set_cons_zero, List.set_cons_succ, i64_w, i32_w]
       rfl
      exact hCont ⟨_, _, _, _⟩ _ ov
    rintro ⟨v48, v49, v53, v54⟩ w2 ov2
    clear ov ov1 hHeld HT
    replace ov : Ov w1 g m vN (.slice none 0 0) vM (.slice none 0 0) v49 (.slice none 0 0) v54 (.slice none 0 0) (lN ++ [rd dn kk]) [] (lM ++ [kk]) [] w2 := ov2
    clear ov2
    refine norm_ (a' := ?_) ?_ ?_
    rotate_left
    ·simp only [putAll, Act.put, List.setIfInBounds_toArray, List.set_cons_zero, List.set_cons_succ]
     rfl
    obtain ⟨AN, cN, rfl⟩ := Kd.R_slice ov.oN
    obtain ⟨AM, cM, rfl⟩ := Kd.R_slice ov.oM
    refine plan_post [(15, 3, none), (16, 1, some 56), (17, 3, none)] ((true, [([], []), ([0], [0]), ([], []), ([2], [2]), ([], []), ([3, 4], [3, 4]), ([5], [5]), ([6], [6]), ([1, 7], [1, 7]), ([], []), ([9], [9]), ([], []), ([11], [11]), ([10, 12, 8], [10, 12]), ([0, 1, 2, 3, 4, 5, 6, 7, 8], []), ([14, 8, 13, 0, 1, 2, 3, 4, 5, 6, 7, 8], [8, 14]), ([0, 1, 2, 3, 4, 5, 6, 7, 8, 9, 10, 11, 12, 13, 14, 15], []), ([16, 13, 15, 0, 1, 2, 3, 4, 5, 6, 7, 8, 9, 10, 11, 12, 13, 14, 15], [13, 16])])) [0, 1, 0, 4, 0, 28, 60, 124, 255, 0, 512, 0, 2048, 8191, 511, 32767, 65535, 131071] (by kernel_rfl) (by kernel_rfl) rfl (by kernel_rfl) (by kernel_rfl) (fun _ _ d _ _ h => by cases d <;> exact h) ?_
    refine pl3 rfl rfl (fun K hK => ?_)
    have hs := ov.bg.c0
    have hf := blk_frozen ov.bg.get 0
    refine skip_ (w1 := w2.setCell ⟨g, 0, none⟩ (.slice AN (lN ++ [rd dn kk]).length cN)) (by rfl) rfl ?_ ?_
    ·first | (go_simp; done) | (go_simp; rfl)
    refine hK.out _ _ ?_
    clear hK K hs hf
    replace ov := ov.put0 (.slice AN (lN ++ [rd dn kk]).length cN)
    generalize w2.setCell _ _ = w2' at *
    repeat (first
     | (refine pl1 (v := ?_) (a' := ?_) rfl rfl (Or.inl ⟨by rfl, ?_⟩) ?_ ?_; rotate_left; (intro w'; go_simp; with_reducible rfl); rotate_left; (simp only [Act.put, List.setIfInBounds_toArray, List.set_cons_zero, List.set_cons_succ, i64_w, i32_w]; rfl))
     | (refine pl2 (v := ?_) (a' := ?_) rfl rfl trivial (Or.inl ⟨by rfl, ?_⟩) ?_ ?_; rotate_left; (rintro w' ⟨s0, s1, s2, s3⟩; go_simp; with_reducible rfl); rotate_left; (simp only [Act.put, List.setIfInBounds_toArray, List.set_cons_zero, List.set_cons_succ, i64_w, i32_w]; rfl)))
    refine pl3 rfl rfl (fun K hK => ?_)
    have hs := ov.bm.c0
    have hf := blk_frozen ov.bm.get 0
    refine skip_ (w1 := w2'.setCell ⟨m, 0, none⟩ (.slice AM (lM ++ [kk]).length cM)) (by rfl) rfl ?_ ?_
    ·first | (go_simp; done) | (go_simp; rfl)
    refine hK.out _ _ ?_
    clear hK K hs hf
    replace ov := ov.put2 (.slice AM (lM ++ [kk]).length cM)
    generalize w2'.setCell _ _ = w2'' at *
    refine pl_end ?_
    go_wp2_with fail
    have A_ := A.out
    have l3 := okN_snoc A_.2.2.2.2.1 (by omega) k0 k1 rfl
    have l4 := rd_mem dn kk k0 k1
    have l5 := (validE_iff.mp hd_.out).2.2.1
    go_roundg (gk - 1)
    case measure => have := k.1; omega
    case rel => exact ⟨i + 1, _, _, _, _, by rw [Int.natCast_add]; rfl, ⟨by omega, by omega, by simp; omega, by simp; omega, l3, fun t ht => by
     rcases List.mem_append.mp ht with ht | ht
     ·exact A_.2.2.2.2.2 t ht
     ·rw [List.mem_singleton.mp ht]; exact l5 _ l4⟩, ov⟩
   ·skip
    have hk : (decide ((i : Int) < (xn.length : Int)) && (decide ((i : Int) < 8) && decide (0 < dn.length))) = false := by
     cases hk : (decide ((i : Int) < (xn.length : Int)) && (decide ((i : Int) < 8) && decide (0 < dn.length))) with
     | false => rfl
     | true =>
      simp only [Bool.and_eq_true, decide_eq_true_eq] at hk
      exact absurd hk k
    rw [hk]
    clear hk k
    obtain ⟨AN, cN, rfl⟩ := Kd.R_slice ov.oN
    obtain ⟨AM, cM, rfl⟩ := Kd.R_slice ov.oM
    go_wp2_with fail
    go_loopg [10] xe.length (fun kq v10 w' => ∃ (j : Nat) (lE : List S94) (lF : List Int) (vE vF : Value), v10 = .int .i64 j ∧ Aside0 (j + kq = xe.length ∧ j ≤ 10 ∧ lE.length ≤ j ∧ lE.length = lF.length ∧ okM lE de lM lF ∧ ∀ e ∈ lE, edgeB lN.length e = true) ∧ Ov w1 g m (.slice AN lN.length cN) vE (.slice AM lM.length cM) vF (.slice AN lN.length cN) vE (.slice AM lM.length cM) vF lN lE lM lF w')
    case atStart => exact ⟨0, [], [], _, _, rfl, ⟨by omega, by omega, by simp, rfl, fun j hj => absurd hj (by simp), by simp⟩, ov⟩
    case round =>
     clear ov
     obtain ⟨j, lE, lF, vE, vF, rfl, A2, ov⟩ := hrel
     go_upto_region 9 with fail
     go_cut [71] (fun v71 wc => v71 = .bool (decide ((j : Int) < (xe.length : Int)) && (decide ((j : Int) < 10) && decide (0 < de.length))) ∧ Ov w1 g m (.slice AN lN.length cN) vE (.slice AM lM.length cM) vF (.slice AN lN.length cN) vE (.slice AM lM.length cM) vF lN lE lM lF wc)
     case first =>
      obtain ⟨_, _⟩ := (BX.below ov.sb.get).q2
      obtain ⟨_, _⟩ := (BD.below ov.sb.get).q2
      by_cases k1 : (j : Int) < (xe.length : Int)
      ·by_cases k2 : (j : Int) < 10
       ·go_wp2_with fail
        go_meet
        case rel => exact ⟨by first | (simp [k1, k2]; done) | (simp; intros; omega), ov⟩
       ·go_wp2_with fail
        go_meet
        case rel => exact ⟨by first | (simp [k1, k2]; done) | (simp; intros; omega), ov⟩
      ·go_wp2_with fail
       go_meet
       case rel => exact ⟨by first | (simp [k1]; done) | (simp; intros; omega), ov⟩
     case rest =>
      clear ov
      obtain ⟨rfl, ov⟩ := hcut
      by_cases k : (j : Int) < (xe.length : Int) ∧ (j : Int) < 10 ∧ 0 < de.length
      ·skip
       have hk : (decide ((j : Int) < (xe.length : Int)) && (decide ((j : Int) < 10) && decide (0 < de.length))) = true := by simp [k.1, k.2.1, k.2.2]
       rw [hk]
       clear hk
       go_upto_region 11 with fail
       obtain ⟨_, _⟩ := (BX.below ov.sb.get).q2
       obtain ⟨_, _⟩ := (BD.below ov.sb.get).q2
       obtain ⟨ax, eax, hx0, hx1, hx2⟩ := at_T95 R3.at_ (j : Int) (by omega) k.1
       cases eax
       rw [Int.toNat_natCast] at hx0 hx1 hx2
       have hc := ov.sb.c hx0
       have q1 := eq_true k.1
       have q0 : (0 ≤ (j : Int)) = True := eq_true (by omega)
       have q2 : ((de.length : Int) = 0) = False := eq_false (by omega)
       go_quiet (fail)
       go_wp2_with fail
       have hxi := hy_.out (rd_T95 xe (j : Int)) (rd95_mem xe (j : Int) (by omega) k.1)
       have hw : wrap64 (rd_T95 xe (j : Int)).f0 = (rd_T95 xe (j : Int)).f0 := by unfold wrap64; omega
       rw [hw]
       obtain ⟨ke, hke, k0, k1⟩ : ∃ ke : Int, ke = (rd_T95 xe (j : Int)).f0.tmod (de.length : Int) ∧ 0 ≤ ke ∧ ke < (de.length : Int) := ⟨_, rfl, Int.tmod_nonneg _ hxi.1.1, Int.tmod_lt_of_pos _ (by omega)⟩
       rw [← hke]
       clear hke hw
       obtain ⟨ae, eae, he0, he1, he2⟩ := at_T94 R1.at_ ke k0 k1
       cases eae
       replace ov := ov.below (pw_below_drewN (Below.refl _ _) nq)
       clear hc q2
       generalize wc.drewN nq = wq at ov ⊢
       have p0 := eq_true k0
       have p1 := eq_true k1
       replace ov := ov.below (below_drew1 (Below.refl _ _))
       have hHeld : wq.drew.cell? ⟨m, 0, none⟩ = some (.slice AM lM.length cM) ∧ wq.drew.cell? ⟨gd, 1, none⟩ = some (.slice (some ae) de.length c1) ∧ wq.drew.cell? ⟨(ae.add (ke.toNat * 3)).block, (ae.add (ke.toNat * 3)).off + 1, none⟩ = some (.int .i64 (rd_T94 de ke).f1) ∧ wq.drew.cell? ⟨(ae.add (ke.toNat * 3)).block, (ae.add (ke.toNat * 3)).off + 2, none⟩ = some (.int .i64 (rd_T94 de ke).f2) := ⟨ov.bm.c0, (BD.below ov.sb.get).at 1 rfl, ov.sb.c he1, ov.sb.c he2⟩
       have lM8 : lM.length ≤ 8 := by have := A.out; omega
       obtain ⟨K1, hK1⟩ := over_ev lM (rd_T94 de ke).f1 (by omega)
       obtain ⟨K2, hK2⟩ := over_ev lM (rd_T94 de ke).f2 (by omega)
       refine plan_ (fun w' => w'.cell? ⟨m, 0, none⟩ = some (.slice AM lM.length cM) ∧ w'.cell? ⟨gd, 1, none⟩ = some (.slice (some ae) de.length c1) ∧ w'.cell? ⟨(ae.add (ke.toNat * 3)).block, (ae.add (ke.toNat * 3)).off + 1, none⟩ = some (.int .i64 (rd_T94 de ke).f1) ∧ w'.cell? ⟨(ae.add (ke.toNat * 3)).block, (ae.add (ke.toNat * 3)).off + 2, none⟩ = some (.int .i64 (rd_T94 de ke).f2)) [] [(0, 1, some 85), (1, 2, some 86), (2, 1, some 87), (3, 2, some 88), (4, 1, some 89), (5, 1, some 90), (6, 1, some 91), (7, 2, some 92), (9, 1, some 94), (10, 2, some 95), (11, 1, some 96), (12, 2, some 97), (13, 1, some 98), (14, 1, some 99), (15, 1, some 100), (16, 2, some 101), (8, 0, some 93), (17, 0, some 102), (18, 1, some 12), (19, 1, some 13)] ((true, [([], []), ([0], [0]), ([], []), ([2], [2]), ([], []), ([3, 4], [3, 4]), ([5], [5]), ([6], [6]), ([1, 7], [1, 7]), ([], []), ([9], [9]), ([], []), ([11], [11]), ([], []), ([12, 13], [12, 13]), ([14], [14]), ([15], [15]), ([10, 16, 8], [10, 16]), ([8, 17, 0, 1, 2, 3, 4, 5, 6, 7, 8], [8]), ([17, 18, 0, 1, 2, 3, 4, 5, 6, 7, 8, 9, 10, 11, 12, 13, 14, 15, 16, 17, 18], [17])])) [0, 1, 0, 4, 0, 28, 60, 124, 255, 0, 512, 0, 2048, 0, 14336, 30720, 63488, 131071, 262143, 524287] (by kernel_rfl) (by kernel_rfl) rfl rfl (by kernel_rfl) (by kernel_rfl) (fun _ _ d _ _ h => by cases d <;> exact h) ?_
       generalize wq.drew = wd at *
       repeat (first
        | (refine pl1 (v := ?_) (a' := ?_) rfl rfl (Or.inl ⟨by rfl, ?_⟩) ?_ ?_; rotate_left; (intro w'; go_simp; with_reducible rfl); rotate_left; (simp only [Act.put, List.setIfInBounds_toArray, List.set_cons_zero, List.set_cons_succ, i64_w, i32_w]; rfl))
        | (refine pl2 (v := ?_) (a' := ?_) rfl rfl hHeld (Or.inl ⟨by rfl, ?_⟩) ?_ ?_; rotate_left; (rintro w' ⟨s0, s1, s2, s3⟩; go_simp; with_reducible rfl); rotate_left; (simp only [Act.put, List.setIfInBounds_toArray, List.set_cons_zero, List.set_cons_succ, i64_w, i32_w]; rfl)))
       refine pl0 rfl rfl (fun K hK => ?_)
       refine goes_ Try.func54 (by kernel_rfl) rfl #[.slice AM lM.length cM, .int .i64 (rd_T94 de ke).f1] (by rfl) rfl rfl (by (try simp only [List.map_toArray, List.map_cons, List.map_nil]); first | done | rfl) ?_
       refine (scarfjointref11_over.calls K1 _ _ lM _ (ovl (rd_T94 de ke).f1 0 lM) _ (Kd.R_reads' ov.oM).2.2 (Kd.R_reads' ov.oM).2.1 (hK1 _ (Nat.le_refl _))).mono ?_
       rintro e we ⟨z1, rfl, hz1, hb⟩
       refine ⟨_, rfl, ?_⟩
       replace ov := ov.below hb
       replace hz1 := Vr.of_R hz1
       refine hK.out _ _ ⟨ov.bm.c0, (BD.below ov.sb.get).at 1 rfl, ov.sb.c he1, ov.sb.c he2⟩ (fun _ => ?_)
       clear hb hK K
       refine plN (a' := ?_) ?_ ?_
       rotate_left
       ·(simp only [Act.put, List.setIfInBounds_toArray, List.set_cons_zero, List.set_cons_succ, i64_w, i32_w]; rfl)
       refine pl0 rfl rfl (fun K hK => ?_)
       refine goes_ Try.func54 (by kernel_rfl) rfl #[.slice AM lM.length cM, .int .i64 (rd_T94 de ke).f2] (by rfl) rfl rfl (by (try simp only [List.map_toArray, List.map_cons, List.map_nil]); first | done | rfl) ?_
       refine (scarfjointref11_over.calls K2 _ _ lM _ (ovl (rd_T94 de ke).f2 0 lM) _ (Kd.R_reads' ov.oM).2.2 (Kd.R_reads' ov.oM).2.1 (hK2 _ (Nat.le_refl _))).mono ?_
       rintro e wf ⟨z2, rfl, hz2, hb⟩
       refine ⟨_, rfl, ?_⟩
       replace ov := ov.below hb
       replace hz1 := hz1.below hb
       replace hz2 := Vr.of_R hz2
       refine hK.out _ _ ⟨ov.bm.c0, (BD.below ov.sb.get).at 1 rfl, ov.sb.c he1, ov.sb.c he2⟩ (fun _ => ?_)
       clear hb hK K
       refine plN (a' := ?_) ?_ ?_
       rotate_left
       ·(simp only [Act.put, List.setIfInBounds_toArray, List.set_cons_zero, List.set_cons_succ, i64_w, i32_w]; rfl)
       repeat (first
        | (refine pl1 (v := ?_) (a' := ?_) rfl rfl (Or.inl ⟨by rfl, ?_⟩) ?_ ?_; rotate_left; (intro w'; go_simp; with_reducible rfl); rotate_left; (simp only [Act.put, List.setIfInBounds_toArray, List.set_cons_zero, List.set_cons_succ, i64_w, i32_w]; rfl))
        | (refine pl2 (v := ?_) (a' := ?_) rfl rfl trivial (Or.inl ⟨by rfl, ?_⟩) ?_ ?_; rotate_left; (rintro w' ⟨s0, s1, s2, s3⟩; go_simp; with_reducible rfl); rotate_left; (simp only [Act.put, List.setIfInBounds_toArray, List.set_cons_zero, List.set_cons_succ, i64_w, i32_w]; rfl)))
       refine pl_end ?_
       clear hK1 hK2 hHeld
       obtain ⟨Af, cf, rfl, RF⟩ := hz1.get
       obtain ⟨At, ct, rfl, RT⟩ := hz2.get
       clear hz1 hz2
       have pF := fun i h0 h1 => ovl_rd (rd_T94 de ke).f1 lM i h0 h1
       have pT := fun i h0 h1 => ovl_rd (rd_T94 de ke).f2 lM i h0 h1
       generalize ovl (rd_T94 de ke).f1 0 lM = FR at *
       generalize ovl (rd_T94 de ke).f2 0 lM = TR at *
       have pF_ := Aside0.mk pF
       have pT_ := Aside0.mk pT
       clear pF pT
       go_upto_region 13 with fail
       by_cases z1 : FR.length = 0
       ·have d1 : ((FR.length : Int) == 0) = true := beq_iff_eq.mpr (by omega)
        go_wp2_with fail
        have A_ := A2.out
        go_roundg (gk - 1)
        case measure => have := k.1; omega
        case rel => exact ⟨j + 1, _, _, _, _, by rw [Int.natCast_add]; rfl, ⟨by omega, by omega, by omega, A_.2.2.2.1, A_.2.2.2.2.1, A_.2.2.2.2.2⟩, ov⟩
       ·have d1 : ((FR.length : Int) == 0) = false := beq_eq_false_iff_ne.mpr (by omega)
        by_cases z2 : TR.length = 0
        ·have d2 : ((TR.length : Int) == 0) = true := beq_iff_eq.mpr (by omega)
         go_wp2_with fail
         have A_ := A2.out
         go_roundg (gk - 1)
         case measure => have := k.1; omega
         case rel => exact ⟨j + 1, _, _, _, _, by rw [Int.natCast_add]; rfl, ⟨by omega, by omega, by omega, A_.2.2.2.1, A_.2.2.2.2.1, A_.2.2.2.2.2⟩, ov⟩
        ·have d2 : ((TR.length : Int) == 0) = false := beq_eq_false_iff_ne.mpr (by omega)
         go_upto_region 14 with fail
         have w1_ : wrap64 (rd_T95 xe (j : Int)).f1 = (rd_T95 xe (j : Int)).f1 := by unfold wrap64; omega
         have w2_ : wrap64 (rd_T95 xe (j : Int)).f2 = (rd_T95 xe (j : Int)).f2 := by unfold wrap64; omega
         have f0 : 0 ≤ ((wrap64 (rd_T95 xe (j : Int)).f1).tmod (FR.length : Int)) := by rw [w1_]; exact Int.tmod_nonneg _ hxi.2.1.1
         have f1 : ((wrap64 (rd_T95 xe (j : Int)).f1).tmod (FR.length : Int)) < (FR.length : Int) := Int.tmod_lt_of_pos _ (by omega)
         have g0 : 0 ≤ ((wrap64 (rd_T95 xe (j : Int)).f2).tmod (TR.length : Int)) := by rw [w2_]; exact Int.tmod_nonneg _ hxi.2.2.1
         have g1 : ((wrap64 (rd_T95 xe (j : Int)).f2).tmod (TR.length : Int)) < (TR.length : Int) := Int.tmod_lt_of_pos _ (by omega)
         clear w1_ w2_
         obtain ⟨af, eaf, hf⟩ := Kd.at_int RF.at_ ((wrap64 (rd_T95 xe (j : Int)).f1).tmod (FR.length : Int)) f0 f1
         cases eaf
         obtain ⟨at_, eat, ht⟩ := Kd.at_int RT.at_ ((wrap64 (rd_T95 xe (j : Int)).f2).tmod (TR.length : Int)) g0 g1
         cases eat
         have pF := pF_.out _ f0 f1
         have pT := pT_.out _ g0 g1
         have pF2_ := Aside0.mk pF
         have pT2_ := Aside0.mk pT
         clear pF pT pF_ pT_
         have q2 : ((FR.length : Int) = 0) = False := eq_false (by omega)
         have q3 : ((TR.length : Int) = 0) = False := eq_false (by omega)
         replace f0 := eq_true f0
         replace f1 := eq_true f1
         replace g0 := eq_true g0
         replace g1 := eq_true g1
         have hbd := below_drew1 (Below.refl wf.heap.size wf)
         replace ov := ov.below hbd
         replace hf := Since.c ⟨hbd⟩ hf
         replace ht := Since.c ⟨hbd⟩ ht
         clear hbd RF RT
         have hHeld : wf.drew.cell? ⟨g, 1, none⟩ = some (vE) ∧ wf.drew.cell? ⟨gd, 1, none⟩ = some (.slice (some ae) de.length c1) ∧ wf.drew.cell? (ae.add (ke.toNat * 3)) = some (.int .i64 (rd_T94 de ke).f0) ∧ wf.drew.cell? ⟨gx, 1, none⟩ = some (.slice (some ax) xe.length c3) ∧ wf.drew.cell? ⟨(ax.add (j * 3)).block, (ax.add (j * 3)).off + 1, none⟩ = some (.int .u8 (rd_T95 xe (j : Int)).f1) ∧ wf.drew.cell? ⟨(ax.add (j * 3)).block, (ax.add (j * 3)).off + 2, none⟩ = some (.int .u8 (rd_T95 xe (j : Int)).f2) ∧ wf.drew.cell? (af.add ((wrap64 (rd_T95 xe (j : Int)).f1).tmod (FR.length : Int)).toNat) = some (.int .i64 (rd FR ((wrap64 (rd_T95 xe (j : Int)).f1).tmod (FR.length : Int)))) ∧ wf.drew.cell? (at_.add ((wrap64 (rd_T95 xe (j : Int)).f2).tmod (TR.length : Int)).toNat) = some (.int .i64 (rd TR ((wrap64 (rd_T95 xe (j : Int)).f2).tmod (TR.length : Int)))) := ⟨ov.bg.c1, (BD.below ov.sb.get).at 1 rfl, ov.sb.c he0, (BX.below ov.sb.get).at 1 rfl, ov.sb.c hx1, ov.sb.c hx2, hf, ht⟩
         refine plan_ (fun w' => w'.cell? ⟨g, 1, none⟩ = some (vE) ∧ w'.cell? ⟨gd, 1, none⟩ = some (.slice (some ae) de.length c1) ∧ w'.cell? (ae.add (ke.toNat * 3)) = some (.int .i64 (rd_T94 de ke).f0) ∧ w'.cell? ⟨gx, 1, none⟩ = some (.slice (some ax) xe.length c3) ∧ w'.cell? ⟨(ax.add (j * 3)).block, (ax.add (j * 3)).off + 1, none⟩ = some (.int .u8 (rd_T95 xe (j : Int)).f1) ∧ w'.cell? ⟨(ax.add (j * 3)).block, (ax.add (j * 3)).off + 2, none⟩ = some (.int .u8 (rd_T95 xe (j : Int)).f2) ∧ w'.cell? (af.add ((wrap64 (rd_T95 xe (j : Int)).f1).tmod (FR.length : Int)).toNat) = some (.int .i64 (rd FR ((wrap64 (rd_T95 xe (j : Int)).f1).tmod (FR.length : Int)))) ∧ w'.cell? (at_.add ((wrap64 (rd_T95 xe (j : Int)).f2).tmod (TR.length : Int)).toNat) = some (.int .i64 (rd TR ((wrap64 (rd_T95 xe (j : Int)).f2).tmod (TR.length : Int))))) [36, 38] [(0, 1, some 111), (1, 2, some 112), (2, 1, some 113), (3, 2, some 114), (4, 1, some 115), (5, 1, some 116), (6, 1, some 117), (7, 2, some 118), (8, 1, some 119), (9, 1, some 120), (10, 2, some 121), (11, 1, some 122), (12, 1, some 123), (13, 1, some 124), (14, 2, some 125), (15, 1, some 126), (16, 1, some 127), (17, 1, some 128), (18, 1, some 129), (19, 1, some 130), (20, 2, some 131), (21, 1, some 132), (22, 1, some 133), (23, 2, some 134), (24, 1, some 135), (25, 1, some 136), (26, 1, some 137), (27, 2, some 138), (28, 1, some 139), (29, 1, some 140), (30, 1, some 141), (31, 1, some 142), (32, 1, some 143), (33, 2, some 144), (34, 1, some 145), (35, 0, some 146), (36, 3, some 147), (37, 1, some 148), (38, 3, none)] ((true, [([], []), ([0], [0]), ([], []), ([2], [2]), ([], []), ([3, 4], [3, 4]), ([5], [5]), ([6], [6]), ([], []), ([], []), ([9], [9]), ([], []), ([10, 11], [10, 11]), ([12], [12]), ([13], [13]), ([14], [14]), ([], []), ([16], [16]), ([15, 17], [15, 17]), ([8, 18], [8, 18]), ([19], [19]), ([], []), ([], []), ([22], [22]), ([], []), ([23, 24], [23, 24]), ([25], [25]), ([26], [26]), ([27], [27]), ([], []), ([29], [29]), ([28, 30], [28, 30]), ([21, 31], [21, 31]), ([32], [32]), ([7, 20, 33], [7, 20, 33]), ([34], [34]), ([1, 35], [1, 35]), ([0, 1, 2, 3, 4, 5, 6, 7, 8, 9, 10, 11, 12, 13, 14, 15, 16, 17, 18, 19, 20, 21, 22, 23, 24, 25, 26, 27, 28, 29, 30, 31, 32, 33, 34, 35, 36], []), ([37, 36, 36, 0, 1, 2, 3, 4, 5, 6, 7, 8, 9, 10, 11, 12, 13, 14, 15, 16, 17, 18, 19, 20, 21, 22, 23, 24, 25, 26, 27, 28, 29, 30, 31, 32, 33, 34, 35, 36], [36, 37])])) [0, 1, 0, 4, 0, 28, 60, 124, 0, 0, 512, 0, 3584, 7680, 15872, 32256, 0, 65536, 261632, 524032, 1048320, 0, 0, 4194304, 0, 29360128, 62914560, 130023424, 264241152, 0, 536870912, 2143289344, 4292870144, 8587837440, 17179869180, 34359738364, 68719476735, 137438953471, 274877906943] (by kernel_rfl) (by kernel_rfl) rfl rfl (by kernel_rfl) (by kernel_rfl) (fun _ _ d _ _ h => by cases d <;> exact h) ?_
         generalize wf.drew = wd at *
         repeat (first
          | (refine pl1 (v := ?_) (a' := ?_) rfl rfl (Or.inl ⟨by rfl, ?_⟩) ?_ ?_; rotate_left; (intro w'; go_simp; with_reducible rfl); rotate_left; (simp only [Act.put, List.setIfInBounds_toArray, List.set_cons_zero, List.set_cons_succ, i64_w, i32_w]; rfl))
          | (refine pl2 (v := ?_) (a' := ?_) rfl rfl hHeld (Or.inl ⟨by rfl, ?_⟩) ?_ ?_; rotate_left; (rintro w' ⟨s0, s1, s2, s3, s4, s5, s6, s7⟩; go_simp; with_reducible rfl); rotate_left; (simp only [Act.put, List.setIfInBounds_toArray, List.set_cons_zero, List.set_cons_succ, i64_w, i32_w]; rfl)))
         refine pl0 rfl rfl (fun K hK => ?_)
         refine value_ (w1 := wd.alloc (.cells #[.int .i64 (rd_T94 de ke).f0, .int .i64 (rd FR ((wrap64 (rd_T95 xe (j : Int)).f1).tmod (FR.length : Int))), .int .i64 (rd TR ((wrap64 (rd_T95 xe (j : Int)).f2).tmod (TR.length : Int)))] 94)) (v := .slice (some ⟨wd.heap.size, 0, none⟩) 1 1) (by rfl) rfl ?_ ?_
         ·first | (go_simp; done) | (go_simp; rfl)
         obtain ⟨Z1, hbz⟩ := blk_new1 wd 94 #[.int .i64 (rd_T94 de ke).f0, .int .i64 (rd FR ((wrap64 (rd_T95 xe (j : Int)).f1).tmod (FR.length : Int))), .int .i64 (rd TR ((wrap64 (rd_T95 xe (j : Int)).f2).tmod (TR.length : Int)))]
         replace ov := ov.below hbz
         replace hf := Since.c ⟨hbz⟩ hf
         replace ht := Since.c ⟨hbz⟩ ht
         refine hK.out _ _ ⟨ov.bg.c1, (BD.below ov.sb.get).at 1 rfl, ov.sb.c he0, (BX.below ov.sb.get).at 1 rfl, ov.sb.c hx1, ov.sb.c hx2, hf, ht⟩ (fun _ => ?_)
         clear hbz
         generalize wd.alloc (.cells #[.int .i64 (rd_T94 de ke).f0, .int .i64 (rd FR ((wrap64 (rd_T95 xe (j : Int)).f1).tmod (FR.length : Int))), .int .i64 (rd TR ((wrap64 (rd_T95 xe (j : Int)).f2).tmod (TR.length : Int)))] 94) = wg at *
         generalize wd.heap.size = gz at *
         clear hK K
         refine plN (a' := ?_) ?_ ?_
         rotate_left
         ·(simp only [Act.put, List.setIfInBounds_toArray, List.set_cons_zero, List.set_cons_succ, i64_w, i32_w]; rfl)
         have l1 : lE.length ≤ 10 := by have := A2.out; omega
         refine pl3 rfl rfl (fun K hK => ?_)
         refine Kd.R_append_rows_step k94 (w0 := w1) w1.heap.size (by rfl) (.tmp 112) (.tmp 146) 23 94 (.agg #[(.int .i64 0), (.int .i64 0), (.int .i64 0)]) 24 rfl Try.underlying23 info94 rfl (by decide) (by omega) vE lE [(⟨(rd_T94 de ke).f0, rd FR ((wrap64 (rd_T95 xe (j : Int)).f1).tmod (FR.length : Int)), rd TR ((wrap64 (rd_T95 xe (j : Int)).f2).tmod (TR.length : Int))⟩ : S94)] _ _ _ (fun _ => True) (fun _ => False) rfl rfl ov.oE (Z1.row94 (x := (⟨(rd_T94 de ke).f0, rd FR ((wrap64 (rd_T95 xe (j : Int)).f1).tmod (FR.length : Int)), rd TR ((wrap64 (rd_T95 xe (j : Int)).f2).tmod (TR.length : Int))⟩ : S94))).at_ (fun _ _ h => h) (fun _ h => h.elim) (fun _ _ => trivial) ov.sb.get ov.sb.get.size (by omega) ?_
         intro v1 wh ho hbl hgr hat
         replace ov := ov.appE ho hbl hgr
         clear ho hbl hgr hat
         obtain ⟨AE, cE, rfl⟩ := Kd.R_slice ov.oE
         refine hK.out _ _ ?_
         clear hK K
         refine plN (a' := ?_) ?_ ?_
         rotate_left
         ·(simp only [Act.put, List.setIfInBounds_toArray, List.set_cons_zero, List.set_cons_succ, i64_w, i32_w]; rfl)
         repeat (first
          | (refine pl1 (v := ?_) (a' := ?_) rfl rfl (Or.inl ⟨by rfl, ?_⟩) ?_ ?_; rotate_left; (intro w'; go_simp; with_reducible rfl); rotate_left; (simp only [Act.put, List.setIfInBounds_toArray, List.set_cons_zero, List.set_cons_succ, i64_w, i32_w]; rfl))
          | (refine pl2 (v := ?_) (a' := ?_) rfl rfl hHeld (Or.inl ⟨by rfl, ?_⟩) ?_ ?_; rotate_left; (rintro w' ⟨s0, s1, s2, s3, s4, s5, s6, s7⟩; go_simp; with_reducible rfl); rotate_left; (simp only [Act.put, List.setIfInBounds_toArray, List.set_cons_zero, List.set_cons_succ, i64_w, i32_w]; rfl)))
         refine pl3 rfl rfl (fun K hK => ?_)
         have hs := ov.bg.c1
         have hf := blk_frozen ov.bg.get 1
         refine skip_ (w1 := wh.setCell ⟨g, 1, none⟩ (.slice AE (lE ++ [(⟨(rd_T94 de ke).f0, rd FR ((wrap64 (rd_T95 xe (j : Int)).f1).tmod (FR.length : Int)), rd TR ((wrap64 (rd_T95 xe (j : Int)).f2).tmod (TR.length : Int))⟩ : S94)]).length cE)) (by rfl) rfl ?_ ?_
         ·first | (go_simp; done) | (go_simp; rfl)
         refine hK.out _ _ ?_
         clear hK K hs hf
         replace ov := ov.put1 (.slice AE (lE ++ [(⟨(rd_T94 de ke).f0, rd FR ((wrap64 (rd_T95 xe (j : Int)).f1).tmod (FR.length : Int)), rd TR ((wrap64 (rd_T95 xe (j : Int)).f2).tmod (TR.length : Int))⟩ : S94)]).length cE)
         generalize wh.setCell _ _ = wh' at *
         refine pl_end ?_
         go_upto_region 15 with fail
         have l2 : lF.length ≤ 10 := by have := A2.out; omega
         have hm1 := ov.bm.c1
         have hmf := blk_frozen ov.bm.get 1
         go_wp2_with (first | ((with_reducible refine gate_builtin (b := .append) (xs := #[.tmp 150, .tmp 152]) rfl ?_); at_builtin; refine Kd.R_append (Kd.int .i64) (w0 := w1) w1.heap.size rfl (.tmp 150) (.tmp 152) 22 3 (.int .i64 0) 8 rfl Try.underlying22 info3 rfl (by decide) (by omega) vF lF ke [.int .i64 ke] (fun _ => True) (fun _ => False) rfl rfl ?aP (fun _ hk => hk.elim) ?aF ?aO ?aB ?aS ?aL ?_; (case aP => exact rfl); (case aB => exact ov.sb.get); (case aF => exact (fun _ _ => trivial)); (case aO => exact ov.oF); (case aS => exact ov.sb.get.size); (case aL => omega); intro v2 wk ho hbl hgr hat; replace ov := ov.appF ho hbl hgr hat; clear ho hbl hgr hat hm1 hmf; obtain ⟨AF, cF, rfl⟩ := Kd.R_slice ov.oF; rw [show (lF ++ [ke]).length = lF.length + 1 from by simp] at ov; have hm1 := ov.bm.c1; have hmf := blk_frozen ov.bm.get 1))
         try go_wp2_with fail
         replace ov := ov.put3 (.slice AF (lF.length + 1) cF)
         have A_ := A2.out
         have L_ := A.out
         have k0' : 0 ≤ ke := of_eq_true p0
         have k1' : ke < (de.length : Int) := of_eq_true p1
         have l6 := edge_facts hd_.out ke k0' k1'
         have pF := pF2_.out
         have pT := pT2_.out
         have l3 := okM_snoc (e := (⟨(rd_T94 de ke).f0, rd FR ((wrap64 (rd_T95 xe (j : Int)).f1).tmod (FR.length : Int)), rd TR ((wrap64 (rd_T95 xe (j : Int)).f2).tmod (TR.length : Int))⟩ : S94)) A_.2.2.2.2.1 A_.2.2.2.1 k0' k1' rfl pF.2.2 pT.2.2
         go_roundg (gk - 1)
         case measure => have := k.1; omega
         case rel => exact ⟨j + 1, _, _, _, _, by rw [Int.natCast_add]; rfl, ⟨by omega, by omega, by rw [List.length_append, List.length_singleton]; omega, by rw [List.length_append, List.length_append, A_.2.2.2.1]; rfl, l3, fun e he => by
          rcases List.mem_append.mp he with he | he
          ·exact A_.2.2.2.2.2 e he
          ·rw [List.mem_singleton.mp he]
           unfold edgeB
           simp only [Bool.and_eq_true, decide_eq_true_eq]
           exact ⟨l6.1, ⟨pF.1, by omega⟩, pT.1, by omega⟩⟩, ov⟩
      ·skip
       have hk : (decide ((j : Int) < (xe.length : Int)) && (decide ((j : Int) < 10) && decide (0 < de.length))) = false := by
        cases hk : (decide ((j : Int) < (xe.length : Int)) && (decide ((j : Int) < 10) && decide (0 < de.length))) with
        | false => rfl
        | true =>
         simp only [Bool.and_eq_true, decide_eq_true_eq] at hk
         exact absurd hk k
       rw [hk]
       clear hk k
       obtain ⟨AE, cE, rfl⟩ := Kd.R_slice ov.oE
       obtain ⟨AF, cF, rfl⟩ := Kd.R_slice ov.oF
       go_upto_region 16 with fail
       replace ov := ov.below (below_drew1 (Below.refl _ _))
       have hHeld : wc.drew.cell? ⟨g, 0, none⟩ = some (.slice AN lN.length cN) ∧ wc.drew.cell? ⟨g, 1, none⟩ = some (.slice AE lE.length cE) ∧ wc.drew.cell? ⟨m, 0, none⟩ = some (.slice AM lM.length cM) ∧ wc.drew.cell? ⟨m, 1, none⟩ = some (.slice AF lF.length cF) := ⟨ov.bg.c0, ov.bg.c1, ov.bm.c0, ov.bm.c1⟩
       refine plan_ (fun w' => w'.cell? ⟨g, 0, none⟩ = some (.slice AN lN.length cN) ∧ w'.cell? ⟨g, 1, none⟩ = some (.slice AE lE.length cE) ∧ w'.cell? ⟨m, 0, none⟩ = some (.slice AM lM.length cM) ∧ w'.cell? ⟨m, 1, none⟩ = some (.slice AF lF.length cF)) [3] [(0, 2, some 155), (1, 2, some 156), (2, 0, none), (3, 3, none)] ((true, [([], []), ([], []), ([0, 0], [0]), ([1, 2, 0, 1, 2], [1])])) [0, 0, 1, 7] (by kernel_rfl) (by kernel_rfl) rfl rfl (by kernel_rfl) (by kernel_rfl) (fun _ _ d _ _ h => by cases d <;> exact h) ?_
       generalize wc.drew = wd at *
       repeat (first
        | (refine pl1 (v := ?_) (a' := ?_) rfl rfl (Or.inl ⟨by rfl, ?_⟩) ?_ ?_; rotate_left; (intro w'; go_simp; with_reducible rfl); rotate_left; (simp only [Act.put, List.setIfInBounds_toArray, List.set_cons_zero, List.set_cons_succ, i64_w, i32_w]; rfl))
        | (refine pl2 (v := ?_) (a' := ?_) rfl rfl hHeld (Or.inl ⟨by rfl, ?_⟩) ?_ ?_; rotate_left; (rintro w' ⟨s0, s1, s2, s3⟩; go_simp; with_reducible rfl); rotate_left; (simp only [Act.put, List.setIfInBounds_toArray, List.set_cons_zero, List.set_cons_succ, i64_w, i32_w]; rfl)))
       have D4 : Box2 wd g4 25 (.slice none 0 0) (.slice none 0 0) := ⟨(B4.below ov.sb.get).get⟩
       have D5 : Box2 wd g5 27 (.slice none 0 0) (.slice none 0 0) := ⟨(B5.below ov.sb.get).get⟩
       have E4 := blk_lt B4.get
       have E5 := blk_lt B5.get
       have N4g : g ≠ g4 := by have := ov.hg; omega
       have N4m : m ≠ g4 := by have := ov.hm; omega
       have N5 : g4 ≠ g5 := n45
       have sb := S0.step ov.sb.get
       have RN := (Vr.of_R ov.oN)
       have RE := (Vr.of_R ov.oE)
       have RM := (Vr.of_R ov.oM)
       have RF := (Vr.of_R ov.oF)
       have bg := ov.bg
       have bm := ov.bm
       clear ov
       refine pl0 rfl rfl (fun K hK => ?_)
       have hs0 : wd.cell? ⟨g4, 0, none⟩ = some (.slice none 0 0) := D4.c0
       have hs1 : wd.cell? ⟨g4, 1, none⟩ = some (.slice none 0 0) := D4.c1
       have hf0 := blk_frozen D4.get 0
       have hf1 := blk_frozen D4.get 1
       refine skip_ (w1 := (wd.setCell ⟨g4, 0, none⟩ (.slice AN lN.length cN)).setCell ⟨g4, 1, none⟩ (.slice AE lE.length cE)) (by rfl) rfl ?_ ?_
       ·first | (go_simp; done) | (go_simp; rfl)
       replace RN := RN.far2 flat_int D4 nil_ne nil_ne (v := .slice AN lN.length cN) (sl_ne _ _ _) (.slice AE lE.length cE)
       replace RE := RE.far2 flat38 D4 nil_ne nil_ne (v := .slice AN lN.length cN) (sl_ne _ _ _) (.slice AE lE.length cE)
       replace RM := RM.far2 flat_int D4 nil_ne nil_ne (v := .slice AN lN.length cN) (sl_ne _ _ _) (.slice AE lE.length cE)
       replace RF := RF.far2 flat_int D4 nil_ne nil_ne (v := .slice AN lN.length cN) (sl_ne _ _ _) (.slice AE lE.length cE)
       replace bg := bg.far2 N4g (.slice AN lN.length cN) (.slice AE lE.length cE)
       replace bm := bm.far2 N4m (.slice AN lN.length cN) (.slice AE lE.length cE)
       replace D5 := D5.far2 (Ne.symm N5) (.slice AN lN.length cN) (.slice AE lE.length cE)
       replace D4 := D4.put2 (.slice AN lN.length cN) (.slice AE lE.length cE)
       replace sb := sb.put2 n4 (.slice AN lN.length cN) (.slice AE lE.length cE)
       refine hK.out _ _ ⟨bg.c0, bg.c1, bm.c0, bm.c1⟩ (fun _ => ?_)
       generalize (wd.setCell _ _).setCell _ _ = wx at *
       clear hs0 hs1 hf0 hf1 hK K
       refine pl3 rfl rfl (fun K hK => ?_)
       have hs0 : wx.cell? ⟨g5, 0, none⟩ = some (.slice none 0 0) := D5.c0
       have hs1 : wx.cell? ⟨g5, 1, none⟩ = some (.slice none 0 0) := D5.c1
       have hf0 := blk_frozen D5.get 0
       have hf1 := blk_frozen D5.get 1
       refine skip_ (w1 := (wx.setCell ⟨g5, 0, none⟩ (.slice AM lM.length cM)).setCell ⟨g5, 1, none⟩ (.slice AF lF.length cF)) (by rfl) rfl ?_ ?_
       ·first | (go_simp; done) | (go_simp; rfl)
       replace RN := RN.far2 flat_int D5 nil_ne nil_ne (v := .slice AM lM.length cM) (sl_ne _ _ _) (.slice AF lF.length cF)
       replace RE := RE.far2 flat38 D5 nil_ne nil_ne (v := .slice AM lM.length cM) (sl_ne _ _ _) (.slice AF lF.length cF)
       replace RM := RM.far2 flat_int D5 nil_ne nil_ne (v := .slice AM lM.length cM) (sl_ne _ _ _) (.slice AF lF.length cF)
       replace RF := RF.far2 flat_int D5 nil_ne nil_ne (v := .slice AM lM.length cM) (sl_ne _ _ _) (.slice AF lF.length cF)
       replace D4 := D4.far2 N5 (.slice AM lM.length cM) (.slice AF lF.length cF)
       replace D5 := D5.put2 (.slice AM lM.length cM) (.slice AF lF.length cF)
       replace sb := sb.put2 n5 (.slice AM lM.length cM) (.slice AF lF.length cF)
       refine hK.out _ _ ?_
       generalize (wx.setCell _ _).setCell _ _ = wy at *
       clear hs0 hs1 hf0 hf1 hK K
       refine pl_end ?_
       go_wp2_with fail
       refine bodyPost_ret (results_list (rs := [.cell 4 25, .cell 5 27]) rfl (by simp) (.cell g4 25 #[.slice AN lN.length cN, .slice AE lE.length cE] (0, 0) _ rfl D4.get Try.underlying25 rfl (by kernel_rfl) (.cell g5 27 #[.slice AM lM.length cM, .slice AF lF.length cF] (0, 0) _ rfl D5.get Try.underlying27 rfl (by kernel_rfl) .nil))) rfl ?_
       have A_ := A2.out
       have L_ := A.out
       have V_ := validE_iff.mp hd_.out
       exact ⟨lN, lE, lM, lF, _, _, _, _, rfl, RN, RE, RM, RF, sb.get, mvalid_iff.mpr ⟨validE_iff.mpr ⟨by omega, by omega, L_.2.2.2.2.2, A_.2.2.2.2.2⟩, hd_.out, by omega, by omega, L_.2.2.2.2.1, A_.2.2.2.2.1⟩, by omega, by omega, by omega, by omega⟩
end Go.Proofs.Ytillofiphkmjjaa.X
