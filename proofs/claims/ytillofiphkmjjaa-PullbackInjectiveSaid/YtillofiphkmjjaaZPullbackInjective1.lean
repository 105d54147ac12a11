/- A part of the proof that the law PullbackInjective returns true at every input: contracts of the functions that it calls, and lemmas. -/
import Derived.Test.YtillofiphkmjjaaZPullbackInjective0
import Derived.Deep.Slices
import Derived.Deep.Fields
import Derived.ChangeSame
import Derived.OpenShut
import Derived.Test.YtillofiphkmjjaaProg
import Derived.Shelf.Abstract
import Derived.Lib.SliceRun
import Derived.BigRegion
import Derived.Deep.MidRow
import Derived.Shelf.Sort.Plain
import Derived.Ground.Names2Prog
import Derived.Shelf.Slices.CompactI
import Derived.Shelf.Slices.In.SortNone
import Derived.Sort.OwnSorted
import Derived.Sort.Grow
import Derived.Lib.OwnBridge
import Derived.ProofKit
import Derived.ShutString
import Derived.ChangeOld
import Derived.SizedLaws
import Derived.Carry
/- What an argument reads as, said in the words of the contracts: of a type t and a kind d, 'Opens': whatever can be read at t is told by d. -/
namespace Go.Proofs.Ytillofiphkmjjaa.Open
open Go.ChangeShapes Go.WideShapes Go.Deep Go.RowKit Go.Proofs.YtillofiphkmjjaaW.PrintWords
set_option linter.unusedVariables false

def Opens {α : Type} (P : Program) (t : TypeId) (d : Kd α) (good : α → Prop) : Prop :=
  ∀ {H : Type} {enc : TypeId × Value → H} {w : World} {spare : Nat → Bool} {held : Bool} {fuel : Nat} {cs : List Value} {x : DataW H × List MemPlace},
    DataW.trod enc P w 0 spare held fuel t cs = some x → ∃ a : α, d.K w a cs ∧ good a

section
variable {P : Program} {α β γ : Type}

theorem opens_int {t : TypeId} {k : IntKind} (ht : P.underlying t = some (.int k)) : Opens P t (Kd.int k) (fun n => (Lit.int k n).wf = true) := by
  intro H enc w spare held fuel cs x h
  obtain ⟨n, rfl, _, hw⟩ := DataW.trod_int ht h
  exact ⟨n, rfl, hw⟩

theorem opens_iso {t : TypeId} {d : Kd α} {good : α → Prop} (h : Opens P t d good) (f : β → α) (g : α → β) (hfg : ∀ a, f (g a) = a) : Opens P t (Kd.iso d f) (fun b => good (f b)) := by
  intro H enc w spare held fuel cs x hx
  obtain ⟨a, hk, hg⟩ := h hx
  exact ⟨g a, by show d.K w (f (g a)) cs; rw [hfg]; exact hk, by show good (f (g a)); rw [hfg]; exact hg⟩

theorem build {w : World} {d : Kd α} {good : α → Prop} {ad : Addr} (n : Nat) (h : ∀ i, i < n → ∃ a c, d.K w a c ∧ good a ∧ ∀ j u, c[j]? = some u → w.cell? (ad.add (i * d.sz + j)) = some u) :
    ∃ l : List α, l.length = n ∧ (∀ x ∈ l, good x) ∧ ∀ (j : Nat) (p : α), l[j]? = some p → ∃ c, c.length = d.sz ∧ d.K w p c ∧ ∀ i u, c[i]? = some u → w.cell? (ad.add (j * d.sz + i)) = some u := by
  induction n with
  | zero => exact ⟨[], rfl, by simp, by simp⟩
  | succ n ih =>
    obtain ⟨l, hl, hg, hc⟩ := ih (fun i hi => h i (by omega))
    obtain ⟨a, c, hk, hga, hca⟩ := h n (by omega)
    refine ⟨l ++ [a], by simp [hl], ?_, ?_⟩
    · intro x hx
      rcases List.mem_append.mp hx with hx | hx
      · exact hg x hx
      · rw [List.mem_singleton.mp hx]; exact hga
    · intro j p hj
      by_cases e : j < n
      · rw [List.getElem?_append_left (by omega)] at hj
        exact hc j p hj
      · have e2 : j = n := by
          have := (List.getElem?_eq_some_iff.mp hj).1
          simp [hl] at this; omega
        subst e2
        rw [List.getElem?_append_right (by omega)] at hj
        simp [hl] at hj
        subst hj
        exact ⟨c, d.K_len hk, hk, hca⟩

theorem opens_slice {t e : TypeId} {d : Kd α} {good : α → Prop} (ht : P.underlying t = some (.slice e)) (hE : Opens P e d good) (hC : P.cellsOf e = d.sz) :
    Opens P t (Kd.slice e d) (fun l => ∀ x ∈ l, good x) := by
  intro H enc w spare held fuel cs x h
  rcases open_slice ht h with ⟨rfl, _⟩ | ⟨ad, len, cap, m, n, D, Pl, rfl, _, hl, hm, hmm, _, hi⟩
  · exact ⟨[], ⟨none, 0, rfl, Nat.le_refl _, Kd.C_nil d w⟩, by simp⟩
  · have hlm : len ≤ m := by rw [hmm]; split <;> omega
    have hcells : ∀ i, i < len → ∃ a c, d.K w a c ∧ good a ∧ ∀ j u, c[j]? = some u → w.cell? (ad.add (i * d.sz + j)) = some u := by
      intro i hil
      obtain ⟨cs', hc, ht'⟩ := hi i (by omega)
      obtain ⟨a, hk, hg⟩ := hE ht'
      obtain ⟨_, hcl, hat⟩ := World.cells?_some hc
      refine ⟨a, cs', hk, hg, fun j u hj => ?_⟩
      have hj2 : j < P.cellsOf e := by rw [← hcl]; exact (List.getElem?_eq_some_iff.mp hj).1
      rw [← hC, ← Deep.add_add, hat j hj2, hj]
    obtain ⟨l, hll, hg, hc⟩ := build len hcells
    refine ⟨l, ⟨some ad, cap, by rw [hll], by omega, ⟨rfl, ?_, fun _ => ⟨ad, rfl, hc⟩⟩⟩, hg⟩
    unfold maxLen at hm
    omega

theorem opens_struct2 {t : TypeId} {f0 f1 : Field} {d0 : Kd α} {d1 : Kd β} {g0 : α → Prop} {g1 : β → Prop} (ht : P.underlying t = some (.struct #[f0, f1])) (h0 : f0.offset = 0) (h1 : f1.offset = P.cellsOf f0.type)
    (hs : P.cellsOf t = P.cellsOf f0.type + P.cellsOf f1.type) (o0 : Opens P f0.type d0 g0) (o1 : Opens P f1.type d1 g1) : Opens P t (Kd.pair d0 d1) (fun x => g0 x.1 ∧ g1 x.2) := by
  intro H enc w spare held fuel cs x h
  obtain ⟨xs, n, _, _, hl, hlen, hf⟩ := DataW.trod_struct ht h
  match xs, hlen with
  | [y0, y1], _ =>
    obtain ⟨a0, k0, q0⟩ := o0 (hf 0 f0 rfl)
    obtain ⟨a1, k1, q1⟩ := o1 (hf 1 f1 rfl)
    refine ⟨(a0, a1), ⟨_, _, ?_, k0, k1⟩, q0, q1⟩
    rw [h0, h1, List.drop_zero, List.take_of_length_le (l := cs.drop _) (by rw [List.length_drop]; omega), List.take_append_drop]

theorem opens_struct3 {t : TypeId} {f0 f1 f2 : Field} {d0 : Kd α} {d1 : Kd β} {d2 : Kd γ} {g0 : α → Prop} {g1 : β → Prop} {g2 : γ → Prop} (ht : P.underlying t = some (.struct #[f0, f1, f2])) (h0 : f0.offset = 0) (h1 : f1.offset = P.cellsOf f0.type) (h2 : f2.offset = P.cellsOf f0.type + P.cellsOf f1.type)
    (hs : P.cellsOf t = P.cellsOf f0.type + P.cellsOf f1.type + P.cellsOf f2.type) (o0 : Opens P f0.type d0 g0) (o1 : Opens P f1.type d1 g1) (o2 : Opens P f2.type d2 g2) : Opens P t (Kd.pair d0 (Kd.pair d1 d2)) (fun x => g0 x.1 ∧ g1 x.2.1 ∧ g2 x.2.2) := by
  intro H enc w spare held fuel cs x h
  obtain ⟨xs, n, _, _, hl, hlen, hf⟩ := DataW.trod_struct ht h
  match xs, hlen with
  | [y0, y1, y2], _ =>
    obtain ⟨a0, k0, q0⟩ := o0 (hf 0 f0 rfl)
    obtain ⟨a1, k1, q1⟩ := o1 (hf 1 f1 rfl)
    obtain ⟨a2, k2, q2⟩ := o2 (hf 2 f2 rfl)
    refine ⟨(a0, a1, a2), ⟨_, _, ?_, k0, _, _, rfl, k1, k2⟩, q0, q1, q2⟩
    rw [h0, h1, h2, List.drop_zero, List.take_of_length_le (l := cs.drop (_ + _)) (by rw [List.length_drop]; omega), ← List.drop_drop, List.take_append_drop, List.take_append_drop]
end
end Go.Proofs.Ytillofiphkmjjaa.Open

namespace Go.Proofs.Ytillofiphkmjjaa.X
open Go.RowKit Go.Proofs.YtillofiphkmjjaaW.PrintWords Go.Proofs.YtillofiphkmjjaaW.PrintLast Go.Proofs.YtillofiphkmjjaaW.PrintMore
open Go.Proofs.YtillofiphkmjjaaW.PrintWords renaming blk_drewN → bN, blk_drew → bD, blk_alloc → bA, below_alloc → wA, pw_below_drewN → wN, below_drew1 → wD, blk_below → bB, below_step → wS, blk_at → bT, blk_grown → bG
open Go.Proofs.YtillofiphkmjjaaW.PrintWords.Kd renaming R_alloc → rA, R_drewN → rN, R_drew → rD, R_below → rB, R_grown → rG, C_below → cB, C_alloc → cA, C_drewN → cN, C_drew → cD
attribute [local go_sem] max2_int min2_int max_two min_two max_three min_three max_four min_four
set_option linter.unusedVariables false
set_option linter.unusedSimpArgs false
def errW : Option Int → Value
 | none => .nilIface
 | some c => .iface 0 (.int .i64 c)
theorem errW_none : errW none = .nilIface := rfl
theorem errW_some (c : Int) : errW (some c) = .iface 0 (.int .i64 c) := rfl
theorem info3 : (Try.prog.info? 3).map (fun i => (i.zero, i.size, i.bytes)) = some (some (.int .i64 0), 1, 8) := by kernel_rfl
theorem info79 : (Try.prog.info? 79).map (fun i => (i.zero, i.size, i.bytes)) = some (some (.agg #[(.int .i64 0), (.int .i64 0)]), 2, 16) := by kernel_rfl
theorem info94 : (Try.prog.info? 94).map (fun i => (i.zero, i.size, i.bytes)) = some (some (.agg #[(.int .i64 0), (.int .i64 0), (.int .i64 0)]), 3, 24) := by kernel_rfl
-- the values' own types
/-! #### struct type 79 -/
structure S79 where
 f0 : Int
 f1 : Int
def z79 : S79 := ⟨(0 : Int), (0 : Int)⟩
def k79 : Kd S79 := Kd.iso (Kd.pair (Kd.int .i64) (Kd.int .i64)) (fun x : S79 => (x.f0, x.f1))
theorem k79_open {w : World} {x : S79} {cs : List Value} (h : k79.K w x cs) : cs = [.int .i64 x.f0, .int .i64 x.f1] := by
 obtain ⟨_, _, rfl, rfl, rfl⟩ := h
 exact rfl
theorem k79_openM {w : World} {base : Nat} {ok : Nat → Prop} {x : S79} {cs : List Value} (h : k79.M w base ok x cs) : cs = [.int .i64 x.f0, .int .i64 x.f1] := by
 obtain ⟨_, _, rfl, rfl, rfl⟩ := h
 exact rfl
theorem k79_mk (w : World) (x : S79)  : k79.K w x [.int .i64 x.f0, .int .i64 x.f1] := ⟨[.int .i64 x.f0], [.int .i64 x.f1], rfl, rfl, rfl⟩
theorem k79_mkM (w : World) (base : Nat) (ok : Nat → Prop) (x : S79)  : k79.M w base ok x [.int .i64 x.f0, .int .i64 x.f1] := ⟨[.int .i64 x.f0], [.int .i64 x.f1], rfl, rfl, rfl⟩
theorem k79_mkF (W : World) (ok : Nat → Prop) (x : S79) : Kd.FK k79 W ok x [.int .i64 x.f0, .int .i64 x.f1] := fun W2 _ => k79_mk W2 x
def rd_T79 (xs : List S79) (i : Int) : S79 := xs.getD i.toNat z79
theorem at_T79 {w : World} {A : Option Addr} {n : Nat} {xs : List S79} (h : Kd.C k79 w A n xs) (i : Int) (h0 : 0 ≤ i) (h1 : i < n) : ∃ ad , A = some ad ∧ w.cell? (ad.add (i.toNat * 2)) = some (.int .i64 (rd_T79 xs i).f0) ∧ w.cell? ⟨(ad.add (i.toNat * 2)).block, (ad.add (i.toNat * 2)).off + 1, none⟩ = some (.int .i64 (rd_T79 xs i).f1) := by
 obtain ⟨ad, c, e, _, hK, hc0⟩ := Kd.C_get h z79 i h0 h1
 have hc : ∀ j u, c[j]? = some u → w.cell? (ad.add (i.toNat * 2 + j)) = some u := hc0
 obtain rfl := k79_open hK
 exact ⟨ad, e, hc 0 _ rfl, by rw [← add_field _ _ 1 (by omega)]; exact hc 1 _ rfl⟩
/-! #### struct type 94 -/
structure S94 where
 f0 : Int
 f1 : Int
 f2 : Int
def z94 : S94 := ⟨(0 : Int), (0 : Int), (0 : Int)⟩
def k94 : Kd S94 := Kd.iso (Kd.pair (Kd.int .i64) (Kd.pair (Kd.int .i64) (Kd.int .i64))) (fun x : S94 => (x.f0, x.f1, x.f2))
theorem k94_open {w : World} {x : S94} {cs : List Value} (h : k94.K w x cs) : cs = [.int .i64 x.f0, .int .i64 x.f1, .int .i64 x.f2] := by
 obtain ⟨_, _, rfl, rfl, ⟨_, _, rfl, rfl, rfl⟩⟩ := h
 exact rfl
theorem k94_openM {w : World} {base : Nat} {ok : Nat → Prop} {x : S94} {cs : List Value} (h : k94.M w base ok x cs) : cs = [.int .i64 x.f0, .int .i64 x.f1, .int .i64 x.f2] := by
 obtain ⟨_, _, rfl, rfl, ⟨_, _, rfl, rfl, rfl⟩⟩ := h
 exact rfl
theorem k94_mk (w : World) (x : S94)  : k94.K w x [.int .i64 x.f0, .int .i64 x.f1, .int .i64 x.f2] := ⟨[.int .i64 x.f0], [.int .i64 x.f1, .int .i64 x.f2], rfl, rfl, ⟨[.int .i64 x.f1], [.int .i64 x.f2], rfl, rfl, rfl⟩⟩
theorem k94_mkM (w : World) (base : Nat) (ok : Nat → Prop) (x : S94)  : k94.M w base ok x [.int .i64 x.f0, .int .i64 x.f1, .int .i64 x.f2] := ⟨[.int .i64 x.f0], [.int .i64 x.f1, .int .i64 x.f2], rfl, rfl, ⟨[.int .i64 x.f1], [.int .i64 x.f2], rfl, rfl, rfl⟩⟩
theorem k94_mkF (W : World) (ok : Nat → Prop) (x : S94) : Kd.FK k94 W ok x [.int .i64 x.f0, .int .i64 x.f1, .int .i64 x.f2] := fun W2 _ => k94_mk W2 x
def rd_T94 (xs : List S94) (i : Int) : S94 := xs.getD i.toNat z94
theorem at_T94 {w : World} {A : Option Addr} {n : Nat} {xs : List S94} (h : Kd.C k94 w A n xs) (i : Int) (h0 : 0 ≤ i) (h1 : i < n) : ∃ ad , A = some ad ∧ w.cell? (ad.add (i.toNat * 3)) = some (.int .i64 (rd_T94 xs i).f0) ∧ w.cell? ⟨(ad.add (i.toNat * 3)).block, (ad.add (i.toNat * 3)).off + 1, none⟩ = some (.int .i64 (rd_T94 xs i).f1) ∧ w.cell? ⟨(ad.add (i.toNat * 3)).block, (ad.add (i.toNat * 3)).off + 2, none⟩ = some (.int .i64 (rd_T94 xs i).f2) := by
 obtain ⟨ad, c, e, _, hK, hc0⟩ := Kd.C_get h z94 i h0 h1
 have hc : ∀ j u, c[j]? = some u → w.cell? (ad.add (i.toNat * 3 + j)) = some u := hc0
 obtain rfl := k94_open hK
 exact ⟨ad, e, hc 0 _ rfl, by rw [← add_field _ _ 1 (by omega)]; exact hc 1 _ rfl, by rw [← add_field _ _ 2 (by omega)]; exact hc 2 _ rfl⟩
def rd_L3 (xs : List (List Int)) (i : Int) : (List Int) := xs.getD i.toNat ([] : List Int)
theorem at_L3 {w : World} {A : Option Addr} {n : Nat} {xs : List (List Int)} (h : Kd.C (Kd.slice 3 (Kd.int .i64)) w A n xs) (i : Int) (h0 : 0 ≤ i) (h1 : i < n) : ∃ ad A0 c0, A = some ad ∧ w.cell? (ad.add i.toNat) = some (.slice A0 (rd_L3 xs i).length c0) ∧ (rd_L3 xs i).length ≤ c0 ∧ (Kd.int .i64).C w A0 (rd_L3 xs i).length (rd_L3 xs i) := by
 obtain ⟨ad, c, e, _, hK, hc0⟩ := Kd.C_get h ([] : List Int) i h0 h1
 have hc : ∀ j u, c[j]? = some u → w.cell? (ad.add (i.toNat * 1 + j)) = some u := hc0
 obtain ⟨A0, c0, rfl, l0, g0⟩ := hK
 exact ⟨ad, A0, c0, e, by have hq := hc 0 _ rfl; rwa [Nat.mul_one, Nat.add_zero] at hq, l0, g0⟩
def rd_L4 (xs : List (List S94)) (i : Int) : (List S94) := xs.getD i.toNat ([] : List S94)
theorem at_L4 {w : World} {A : Option Addr} {n : Nat} {xs : List (List S94)} (h : Kd.C (Kd.slice 94 k94) w A n xs) (i : Int) (h0 : 0 ≤ i) (h1 : i < n) : ∃ ad A0 c0, A = some ad ∧ w.cell? (ad.add i.toNat) = some (.slice A0 (rd_L4 xs i).length c0) ∧ (rd_L4 xs i).length ≤ c0 ∧ k94.C w A0 (rd_L4 xs i).length (rd_L4 xs i) := by
 obtain ⟨ad, c, e, _, hK, hc0⟩ := Kd.C_get h ([] : List S94) i h0 h1
 have hc : ∀ j u, c[j]? = some u → w.cell? (ad.add (i.toNat * 1 + j)) = some u := hc0
 obtain ⟨A0, c0, rfl, l0, g0⟩ := hK
 exact ⟨ad, A0, c0, e, by have hq := hc 0 _ rfl; rwa [Nat.mul_one, Nat.add_zero] at hq, l0, g0⟩
/-! #### struct type 25 -/
structure S25 where
 f0 : (List Int)
 f1 : (List S94)
def z25 : S25 := ⟨([] : List Int), ([] : List S94)⟩
def k25 : Kd S25 := Kd.iso (Kd.pair (Kd.slice 3 (Kd.int .i64)) (Kd.slice 94 k94)) (fun x : S25 => (x.f0, x.f1))
theorem k25_open {w : World} {x : S25} {cs : List Value} (h : k25.K w x cs) : ∃ A0 c0 A1 c1, cs = [.slice A0 x.f0.length c0, .slice A1 x.f1.length c1] ∧ x.f0.length ≤ c0 ∧ (Kd.int .i64).C w A0 x.f0.length x.f0 ∧ x.f1.length ≤ c1 ∧ k94.C w A1 x.f1.length x.f1 := by
 obtain ⟨_, _, rfl, ⟨A0, c0, rfl, l0, g0⟩, ⟨A1, c1, rfl, l1, g1⟩⟩ := h
 exact ⟨A0, c0, A1, c1, rfl, l0, g0, l1, g1⟩
theorem k25_openM {w : World} {base : Nat} {ok : Nat → Prop} {x : S25} {cs : List Value} (h : k25.M w base ok x cs) : ∃ v0 v1, cs = [v0, v1] ∧ (Kd.int .i64).R 3 w base ok v0 x.f0 ∧ k94.R 94 w base ok v1 x.f1 := by
 obtain ⟨_, _, rfl, ⟨v0, rfl, g0⟩, ⟨v1, rfl, g1⟩⟩ := h
 exact ⟨v0, v1, rfl, g0, g1⟩
theorem k25_mk (w : World) (x : S25) {A0 : Option Addr} {c0 : Nat} (l0 : x.f0.length ≤ c0) (g0 : (Kd.int .i64).C w A0 x.f0.length x.f0) {A1 : Option Addr} {c1 : Nat} (l1 : x.f1.length ≤ c1) (g1 : k94.C w A1 x.f1.length x.f1) : k25.K w x [.slice A0 x.f0.length c0, .slice A1 x.f1.length c1] := ⟨[.slice A0 x.f0.length c0], [.slice A1 x.f1.length c1], rfl, ⟨A0, c0, rfl, l0, g0⟩, ⟨A1, c1, rfl, l1, g1⟩⟩
theorem k25_mkM (w : World) (base : Nat) (ok : Nat → Prop) (x : S25) {v0 : Value} (g0 : (Kd.int .i64).R 3 w base ok v0 x.f0) {v1 : Value} (g1 : k94.R 94 w base ok v1 x.f1) : k25.M w base ok x [v0, v1] := ⟨[v0], [v1], rfl, ⟨v0, rfl, g0⟩, ⟨v1, rfl, g1⟩⟩
theorem k25_openF {W : World} {ok : Nat → Prop} {x : S25} {cs : List Value} (h : Kd.FK k25 W ok x cs) : ∃ A0 c0 A1 c1, cs = [.slice A0 x.f0.length c0, .slice A1 x.f1.length c1] ∧ x.f0.length ≤ c0 ∧ Kd.F (Kd.int .i64) W ok A0 x.f0.length x.f0 ∧ x.f1.length ≤ c1 ∧ Kd.F k94 W ok A1 x.f1.length x.f1 := by
 obtain ⟨A0, c0, A1, c1, rfl, l0, _, l1, _⟩ := k25_open (Kd.FK_now h)
 exact ⟨A0, c0, A1, c1, rfl, l0, (fun W' hW => by obtain ⟨A0_, c0_, A1_, c1_, he, l0_, g0_, l1_, g1_⟩ := k25_open (h W' hW); injection (Option.some.inj (show some (Value.slice A0 x.f0.length c0) = some (Value.slice A0_ x.f0.length c0_) from congrArg (fun l => l[0]?) he)) with ha_ _ _; rw [ha_]; exact g0_), l1, (fun W' hW => by obtain ⟨A0_, c0_, A1_, c1_, he, l0_, g0_, l1_, g1_⟩ := k25_open (h W' hW); injection (Option.some.inj (show some (Value.slice A1 x.f1.length c1) = some (Value.slice A1_ x.f1.length c1_) from congrArg (fun l => l[1]?) he)) with ha_ _ _; rw [ha_]; exact g1_)⟩
theorem k25_mkF (W : World) (ok : Nat → Prop) (x : S25) {A0 : Option Addr} {c0 : Nat} (l0 : x.f0.length ≤ c0) (g0 : Kd.F (Kd.int .i64) W ok A0 x.f0.length x.f0) {A1 : Option Addr} {c1 : Nat} (l1 : x.f1.length ≤ c1) (g1 : Kd.F k94 W ok A1 x.f1.length x.f1) : Kd.FK k25 W ok x [.slice A0 x.f0.length c0, .slice A1 x.f1.length c1] := fun W2 hW => k25_mk W2 x l0 (g0 W2 hW) l1 (g1 W2 hW)
def rd_T25 (xs : List S25) (i : Int) : S25 := xs.getD i.toNat z25
theorem at_T25 {w : World} {A : Option Addr} {n : Nat} {xs : List S25} (h : Kd.C k25 w A n xs) (i : Int) (h0 : 0 ≤ i) (h1 : i < n) : ∃ ad A0 c0 A1 c1, A = some ad ∧ w.cell? (ad.add (i.toNat * 2)) = some (.slice A0 (rd_T25 xs i).f0.length c0) ∧ w.cell? ⟨(ad.add (i.toNat * 2)).block, (ad.add (i.toNat * 2)).off + 1, none⟩ = some (.slice A1 (rd_T25 xs i).f1.length c1) ∧ (rd_T25 xs i).f0.length ≤ c0 ∧ (Kd.int .i64).C w A0 (rd_T25 xs i).f0.length (rd_T25 xs i).f0 ∧ (rd_T25 xs i).f1.length ≤ c1 ∧ k94.C w A1 (rd_T25 xs i).f1.length (rd_T25 xs i).f1 := by
 obtain ⟨ad, c, e, _, hK, hc0⟩ := Kd.C_get h z25 i h0 h1
 have hc : ∀ j u, c[j]? = some u → w.cell? (ad.add (i.toNat * 2 + j)) = some u := hc0
 obtain ⟨A0, c0, A1, c1, rfl, l0, g0, l1, g1⟩ := k25_open hK
 exact ⟨ad, A0, c0, A1, c1, e, hc 0 _ rfl, by rw [← add_field _ _ 1 (by omega)]; exact hc 1 _ rfl, l0, g0, l1, g1⟩
/-! #### struct type 27 -/
structure S27 where
 f0 : (List Int)
 f1 : (List Int)
def z27 : S27 := ⟨([] : List Int), ([] : List Int)⟩
def k27 : Kd S27 := Kd.iso (Kd.pair (Kd.slice 3 (Kd.int .i64)) (Kd.slice 3 (Kd.int .i64))) (fun x : S27 => (x.f0, x.f1))
theorem k27_open {w : World} {x : S27} {cs : List Value} (h : k27.K w x cs) : ∃ A0 c0 A1 c1, cs = [.slice A0 x.f0.length c0, .slice A1 x.f1.length c1] ∧ x.f0.length ≤ c0 ∧ (Kd.int .i64).C w A0 x.f0.length x.f0 ∧ x.f1.length ≤ c1 ∧ (Kd.int .i64).C w A1 x.f1.length x.f1 := by
 obtain ⟨_, _, rfl, ⟨A0, c0, rfl, l0, g0⟩, ⟨A1, c1, rfl, l1, g1⟩⟩ := h
 exact ⟨A0, c0, A1, c1, rfl, l0, g0, l1, g1⟩
theorem k27_openM {w : World} {base : Nat} {ok : Nat → Prop} {x : S27} {cs : List Value} (h : k27.M w base ok x cs) : ∃ v0 v1, cs = [v0, v1] ∧ (Kd.int .i64).R 3 w base ok v0 x.f0 ∧ (Kd.int .i64).R 3 w base ok v1 x.f1 := by
 obtain ⟨_, _, rfl, ⟨v0, rfl, g0⟩, ⟨v1, rfl, g1⟩⟩ := h
 exact ⟨v0, v1, rfl, g0, g1⟩
theorem k27_mk (w : World) (x : S27) {A0 : Option Addr} {c0 : Nat} (l0 : x.f0.length ≤ c0) (g0 : (Kd.int .i64).C w A0 x.f0.length x.f0) {A1 : Option Addr} {c1 : Nat} (l1 : x.f1.length ≤ c1) (g1 : (Kd.int .i64).C w A1 x.f1.length x.f1) : k27.K w x [.slice A0 x.f0.length c0, .slice A1 x.f1.length c1] := ⟨[.slice A0 x.f0.length c0], [.slice A1 x.f1.length c1], rfl, ⟨A0, c0, rfl, l0, g0⟩, ⟨A1, c1, rfl, l1, g1⟩⟩
theorem k27_mkM (w : World) (base : Nat) (ok : Nat → Prop) (x : S27) {v0 : Value} (g0 : (Kd.int .i64).R 3 w base ok v0 x.f0) {v1 : Value} (g1 : (Kd.int .i64).R 3 w base ok v1 x.f1) : k27.M w base ok x [v0, v1] := ⟨[v0], [v1], rfl, ⟨v0, rfl, g0⟩, ⟨v1, rfl, g1⟩⟩
theorem k27_openF {W : World} {ok : Nat → Prop} {x : S27} {cs : List Value} (h : Kd.FK k27 W ok x cs) : ∃ A0 c0 A1 c1, cs = [.slice A0 x.f0.length c0, .slice A1 x.f1.length c1] ∧ x.f0.length ≤ c0 ∧ Kd.F (Kd.int .i64) W ok A0 x.f0.length x.f0 ∧ x.f1.length ≤ c1 ∧ Kd.F (Kd.int .i64) W ok A1 x.f1.length x.f1 := by
 obtain ⟨A0, c0, A1, c1, rfl, l0, _, l1, _⟩ := k27_open (Kd.FK_now h)
 exact ⟨A0, c0, A1, c1, rfl, l0, (fun W' hW => by obtain ⟨A0_, c0_, A1_, c1_, he, l0_, g0_, l1_, g1_⟩ := k27_open (h W' hW); injection (Option.some.inj (show some (Value.slice A0 x.f0.length c0) = some (Value.slice A0_ x.f0.length c0_) from congrArg (fun l => l[0]?) he)) with ha_ _ _; rw [ha_]; exact g0_), l1, (fun W' hW => by obtain ⟨A0_, c0_, A1_, c1_, he, l0_, g0_, l1_, g1_⟩ := k27_open (h W' hW); injection (Option.some.inj (show some (Value.slice A1 x.f1.length c1) = some (Value.slice A1_ x.f1.length c1_) from congrArg (fun l => l[1]?) he)) with ha_ _ _; rw [ha_]; exact g1_)⟩
theorem k27_mkF (W : World) (ok : Nat → Prop) (x : S27) {A0 : Option Addr} {c0 : Nat} (l0 : x.f0.length ≤ c0) (g0 : Kd.F (Kd.int .i64) W ok A0 x.f0.length x.f0) {A1 : Option Addr} {c1 : Nat} (l1 : x.f1.length ≤ c1) (g1 : Kd.F (Kd.int .i64) W ok A1 x.f1.length x.f1) : Kd.FK k27 W ok x [.slice A0 x.f0.length c0, .slice A1 x.f1.length c1] := fun W2 hW => k27_mk W2 x l0 (g0 W2 hW) l1 (g1 W2 hW)
def rd_T27 (xs : List S27) (i : Int) : S27 := xs.getD i.toNat z27
theorem at_T27 {w : World} {A : Option Addr} {n : Nat} {xs : List S27} (h : Kd.C k27 w A n xs) (i : Int) (h0 : 0 ≤ i) (h1 : i < n) : ∃ ad A0 c0 A1 c1, A = some ad ∧ w.cell? (ad.add (i.toNat * 2)) = some (.slice A0 (rd_T27 xs i).f0.length c0) ∧ w.cell? ⟨(ad.add (i.toNat * 2)).block, (ad.add (i.toNat * 2)).off + 1, none⟩ = some (.slice A1 (rd_T27 xs i).f1.length c1) ∧ (rd_T27 xs i).f0.length ≤ c0 ∧ (Kd.int .i64).C w A0 (rd_T27 xs i).f0.length (rd_T27 xs i).f0 ∧ (rd_T27 xs i).f1.length ≤ c1 ∧ (Kd.int .i64).C w A1 (rd_T27 xs i).f1.length (rd_T27 xs i).f1 := by
 obtain ⟨ad, c, e, _, hK, hc0⟩ := Kd.C_get h z27 i h0 h1
 have hc : ∀ j u, c[j]? = some u → w.cell? (ad.add (i.toNat * 2 + j)) = some u := hc0
 obtain ⟨A0, c0, A1, c1, rfl, l0, g0, l1, g1⟩ := k27_open hK
 exact ⟨ad, A0, c0, A1, c1, e, hc 0 _ rfl, by rw [← add_field _ _ 1 (by omega)]; exact hc 1 _ rfl, l0, g0, l1, g1⟩
/-! #### struct type 29 -/
structure S29 where
 f0 : S25
 f1 : S25
 f2 : S25
 f3 : S27
 f4 : S27
def z29 : S29 := ⟨z25, z25, z25, z27, z27⟩
def k29 : Kd S29 := Kd.iso (Kd.pair k25 (Kd.pair k25 (Kd.pair k25 (Kd.pair k27 k27)))) (fun x : S29 => (x.f0, x.f1, x.f2, x.f3, x.f4))
theorem k29_open {w : World} {x : S29} {cs : List Value} (h : k29.K w x cs) : ∃ A0 c0 A1 c1 A2 c2 A3 c3 A4 c4 A5 c5 A6 c6 A7 c7 A8 c8 A9 c9, cs = [.slice A0 x.f0.f0.length c0, .slice A1 x.f0.f1.length c1, .slice A2 x.f1.f0.length c2, .slice A3 x.f1.f1.length c3, .slice A4 x.f2.f0.length c4, .slice A5 x.f2.f1.length c5, .slice A6 x.f3.f0.length c6, .slice A7 x.f3.f1.length c7, .slice A8 x.f4.f0.length c8, .slice A9 x.f4.f1.length c9] ∧ x.f0.f0.length ≤ c0 ∧ (Kd.int .i64).C w A0 x.f0.f0.length x.f0.f0 ∧ x.f0.f1.length ≤ c1 ∧ k94.C w A1 x.f0.f1.length x.f0.f1 ∧ x.f1.f0.length ≤ c2 ∧ (Kd.int .i64).C w A2 x.f1.f0.length x.f1.f0 ∧ x.f1.f1.length ≤ c3 ∧ k94.C w A3 x.f1.f1.length x.f1.f1 ∧ x.f2.f0.length ≤ c4 ∧ (Kd.int .i64).C w A4 x.f2.f0.length x.f2.f0 ∧ x.f2.f1.length ≤ c5 ∧ k94.C w A5 x.f2.f1.length x.f2.f1 ∧ x.f3.f0.length ≤ c6 ∧ (Kd.int .i64).C w A6 x.f3.f0.length x.f3.f0 ∧ x.f3.f1.length ≤ c7 ∧ (Kd.int .i64).C w A7 x.f3.f1.length x.f3.f1 ∧ x.f4.f0.length ≤ c8 ∧ (Kd.int .i64).C w A8 x.f4.f0.length x.f4.f0 ∧ x.f4.f1.length ≤ c9 ∧ (Kd.int .i64).C w A9 x.f4.f1.length x.f4.f1 := by
 obtain ⟨_, _, rfl, s0, ⟨_, _, rfl, s2, ⟨_, _, rfl, s4, ⟨_, _, rfl, s6, s8⟩⟩⟩⟩ := h
 obtain ⟨A0, c0, A1, c1, rfl, l0, g0, l1, g1⟩ := k25_open s0
 obtain ⟨A2, c2, A3, c3, rfl, l2, g2, l3, g3⟩ := k25_open s2
 obtain ⟨A4, c4, A5, c5, rfl, l4, g4, l5, g5⟩ := k25_open s4
 obtain ⟨A6, c6, A7, c7, rfl, l6, g6, l7, g7⟩ := k27_open s6
 obtain ⟨A8, c8, A9, c9, rfl, l8, g8, l9, g9⟩ := k27_open s8
 exact ⟨A0, c0, A1, c1, A2, c2, A3, c3, A4, c4, A5, c5, A6, c6, A7, c7, A8, c8, A9, c9, rfl, l0, g0, l1, g1, l2, g2, l3, g3, l4, g4, l5, g5, l6, g6, l7, g7, l8, g8, l9, g9⟩
theorem k29_openM {w : World} {base : Nat} {ok : Nat → Prop} {x : S29} {cs : List Value} (h : k29.M w base ok x cs) : ∃ v0 v1 v2 v3 v4 v5 v6 v7 v8 v9, cs = [v0, v1, v2, v3, v4, v5, v6, v7, v8, v9] ∧ (Kd.int .i64).R 3 w base ok v0 x.f0.f0 ∧ k94.R 94 w base ok v1 x.f0.f1 ∧ (Kd.int .i64).R 3 w base ok v2 x.f1.f0 ∧ k94.R 94 w base ok v3 x.f1.f1 ∧ (Kd.int .i64).R 3 w base ok v4 x.f2.f0 ∧ k94.R 94 w base ok v5 x.f2.f1 ∧ (Kd.int .i64).R 3 w base ok v6 x.f3.f0 ∧ (Kd.int .i64).R 3 w base ok v7 x.f3.f1 ∧ (Kd.int .i64).R 3 w base ok v8 x.f4.f0 ∧ (Kd.int .i64).R 3 w base ok v9 x.f4.f1 := by
 obtain ⟨_, _, rfl, s0, ⟨_, _, rfl, s2, ⟨_, _, rfl, s4, ⟨_, _, rfl, s6, s8⟩⟩⟩⟩ := h
 obtain ⟨v0, v1, rfl, g0, g1⟩ := k25_openM s0
 obtain ⟨v2, v3, rfl, g2, g3⟩ := k25_openM s2
 obtain ⟨v4, v5, rfl, g4, g5⟩ := k25_openM s4
 obtain ⟨v6, v7, rfl, g6, g7⟩ := k27_openM s6
 obtain ⟨v8, v9, rfl, g8, g9⟩ := k27_openM s8
 exact ⟨v0, v1, v2, v3, v4, v5, v6, v7, v8, v9, rfl, g0, g1, g2, g3, g4, g5, g6, g7, g8, g9⟩
theorem k29_mk (w : World) (x : S29) {A0 : Option Addr} {c0 : Nat} (l0 : x.f0.f0.length ≤ c0) (g0 : (Kd.int .i64).C w A0 x.f0.f0.length x.f0.f0) {A1 : Option Addr} {c1 : Nat} (l1 : x.f0.f1.length ≤ c1) (g1 : k94.C w A1 x.f0.f1.length x.f0.f1) {A2 : Option Addr} {c2 : Nat} (l2 : x.f1.f0.length ≤ c2) (g2 : (Kd.int .i64).C w A2 x.f1.f0.length x.f1.f0) {A3 : Option Addr} {c3 : Nat} (l3 : x.f1.f1.length ≤ c3) (g3 : k94.C w A3 x.f1.f1.length x.f1.f1) {A4 : Option Addr} {c4 : Nat} (l4 : x.f2.f0.length ≤ c4) (g4 : (Kd.int .i64).C w A4 x.f2.f0.length x.f2.f0) {A5 : Option Addr} {c5 : Nat} (l5 : x.f2.f1.length ≤ c5) (g5 : k94.C w A5 x.f2.f1.length x.f2.f1) {A6 : Option Addr} {c6 : Nat} (l6 : x.f3.f0.length ≤ c6) (g6 : (Kd.int .i64).C w A6 x.f3.f0.length x.f3.f0) {A7 : Option Addr} {c7 : Nat} (l7 : x.f3.f1.length ≤ c7) (g7 : (Kd.int .i64).C w A7 x.f3.f1.length x.f3.f1) {A8 : Option Addr} {c8 : Nat} (l8 : x.f4.f0.length ≤ c8) (g8 : (Kd.int .i64).C w A8 x.f4.f0.length x.f4.f0) {A9 : Option Addr} {c9 : Nat} (l9 : x.f4.f1.length ≤ c9) (g9 : (Kd.int .i64).C w A9 x.f4.f1.length x.f4.f1) : k29.K w x [.slice A0 x.f0.f0.length c0, .slice A1 x.f0.f1.length c1, .slice A2 x.f1.f0.length c2, .slice A3 x.f1.f1.length c3, .slice A4 x.f2.f0.length c4, .slice A5 x.f2.f1.length c5, .slice A6 x.f3.f0.length c6, .slice A7 x.f3.f1.length c7, .slice A8 x.f4.f0.length c8, .slice A9 x.f4.f1.length c9] := ⟨[.slice A0 x.f0.f0.length c0, .slice A1 x.f0.f1.length c1], [.slice A2 x.f1.f0.length c2, .slice A3 x.f1.f1.length c3, .slice A4 x.f2.f0.length c4, .slice A5 x.f2.f1.length c5, .slice A6 x.f3.f0.length c6, .slice A7 x.f3.f1.length c7, .slice A8 x.f4.f0.length c8, .slice A9 x.f4.f1.length c9], rfl, (k25_mk w x.f0 l0 g0 l1 g1), ⟨[.slice A2 x.f1.f0.length c2, .slice A3 x.f1.f1.length c3], [.slice A4 x.f2.f0.length c4, .slice A5 x.f2.f1.length c5, .slice A6 x.f3.f0.length c6, .slice A7 x.f3.f1.length c7, .slice A8 x.f4.f0.length c8, .slice A9 x.f4.f1.length c9], rfl, (k25_mk w x.f1 l2 g2 l3 g3), ⟨[.slice A4 x.f2.f0.length c4, .slice A5 x.f2.f1.length c5], [.slice A6 x.f3.f0.length c6, .slice A7 x.f3.f1.length c7, .slice A8 x.f4.f0.length c8, .slice A9 x.f4.f1.length c9], rfl, (k25_mk w x.f2 l4 g4 l5 g5), ⟨[.slice A6 x.f3.f0.length c6, .slice A7 x.f3.f1.length c7], [.slice A8 x.f4.f0.length c8, .slice A9 x.f4.f1.length c9], rfl, (k27_mk w x.f3 l6 g6 l7 g7), (k27_mk w x.f4 l8 g8 l9 g9)⟩⟩⟩⟩
theorem k29_mkM (w : World) (base : Nat) (ok : Nat → Prop) (x : S29) {v0 : Value} (g0 : (Kd.int .i64).R 3 w base ok v0 x.f0.f0) {v1 : Value} (g1 : k94.R 94 w base ok v1 x.f0.f1) {v2 : Value} (g2 : (Kd.int .i64).R 3 w base ok v2 x.f1.f0) {v3 : Value} (g3 : k94.R 94 w base ok v3 x.f1.f1) {v4 : Value} (g4 : (Kd.int .i64).R 3 w base ok v4 x.f2.f0) {v5 : Value} (g5 : k94.R 94 w base ok v5 x.f2.f1) {v6 : Value} (g6 : (Kd.int .i64).R 3 w base ok v6 x.f3.f0) {v7 : Value} (g7 : (Kd.int .i64).R 3 w base ok v7 x.f3.f1) {v8 : Value} (g8 : (Kd.int .i64).R 3 w base ok v8 x.f4.f0) {v9 : Value} (g9 : (Kd.int .i64).R 3 w base ok v9 x.f4.f1) : k29.M w base ok x [v0, v1, v2, v3, v4, v5, v6, v7, v8, v9] := ⟨[v0, v1], [v2, v3, v4, v5, v6, v7, v8, v9], rfl, (k25_mkM w base ok x.f0 g0 g1), ⟨[v2, v3], [v4, v5, v6, v7, v8, v9], rfl, (k25_mkM w base ok x.f1 g2 g3), ⟨[v4, v5], [v6, v7, v8, v9], rfl, (k25_mkM w base ok x.f2 g4 g5), ⟨[v6, v7], [v8, v9], rfl, (k27_mkM w base ok x.f3 g6 g7), (k27_mkM w base ok x.f4 g8 g9)⟩⟩⟩⟩
theorem k29_openF {W : World} {ok : Nat → Prop} {x : S29} {cs : List Value} (h : Kd.FK k29 W ok x cs) : ∃ A0 c0 A1 c1 A2 c2 A3 c3 A4 c4 A5 c5 A6 c6 A7 c7 A8 c8 A9 c9, cs = [.slice A0 x.f0.f0.length c0, .slice A1 x.f0.f1.length c1, .slice A2 x.f1.f0.length c2, .slice A3 x.f1.f1.length c3, .slice A4 x.f2.f0.length c4, .slice A5 x.f2.f1.length c5, .slice A6 x.f3.f0.length c6, .slice A7 x.f3.f1.length c7, .slice A8 x.f4.f0.length c8, .slice A9 x.f4.f1.length c9] ∧ x.f0.f0.length ≤ c0 ∧ Kd.F (Kd.int .i64) W ok A0 x.f0.f0.length x.f0.f0 ∧ x.f0.f1.length ≤ c1 ∧ Kd.F k94 W ok A1 x.f0.f1.length x.f0.f1 ∧ x.f1.f0.length ≤ c2 ∧ Kd.F (Kd.int .i64) W ok A2 x.f1.f0.length x.f1.f0 ∧ x.f1.f1.length ≤ c3 ∧ Kd.F k94 W ok A3 x.f1.f1.length x.f1.f1 ∧ x.f2.f0.length ≤ c4 ∧ Kd.F (Kd.int .i64) W ok A4 x.f2.f0.length x.f2.f0 ∧ x.f2.f1.length ≤ c5 ∧ Kd.F k94 W ok A5 x.f2.f1.length x.f2.f1 ∧ x.f3.f0.length ≤ c6 ∧ Kd.F (Kd.int .i64) W ok A6 x.f3.f0.length x.f3.f0 ∧ x.f3.f1.length ≤ c7 ∧ Kd.F (Kd.int .i64) W ok A7 x.f3.f1.length x.f3.f1 ∧ x.f4.f0.length ≤ c8 ∧ Kd.F (Kd.int .i64) W ok A8 x.f4.f0.length x.f4.f0 ∧ x.f4.f1.length ≤ c9 ∧ Kd.F (Kd.int .i64) W ok A9 x.f4.f1.length x.f4.f1 := by
 obtain ⟨A0, c0, A1, c1, A2, c2, A3, c3, A4, c4, A5, c5, A6, c6, A7, c7, A8, c8, A9, c9, rfl, l0, _, l1, _, l2, _, l3, _, l4, _, l5, _, l6, _, l7, _, l8, _, l9, _⟩ := k29_open (Kd.FK_now h)
 exact ⟨A0, c0, A1, c1, A2, c2, A3, c3, A4, c4, A5, c5, A6, c6, A7, c7, A8, c8, A9, c9, rfl, l0, (fun W' hW => by obtain ⟨A0_, c0_, A1_, c1_, A2_, c2_, A3_, c3_, A4_, c4_, A5_, c5_, A6_, c6_, A7_, c7_, A8_, c8_, A9_, c9_, he, l0_, g0_, l1_, g1_, l2_, g2_, l3_, g3_, l4_, g4_, l5_, g5_, l6_, g6_, l7_, g7_, l8_, g8_, l9_, g9_⟩ := k29_open (h W' hW); injection (Option.some.inj (show some (Value.slice A0 x.f0.f0.length c0) = some (Value.slice A0_ x.f0.f0.length c0_) from congrArg (fun l => l[0]?) he)) with ha_ _ _; rw [ha_]; exact g0_), l1, (fun W' hW => by obtain ⟨A0_, c0_, A1_, c1_, A2_, c2_, A3_, c3_, A4_, c4_, A5_, c5_, A6_, c6_, A7_, c7_, A8_, c8_, A9_, c9_, he, l0_, g0_, l1_, g1_, l2_, g2_, l3_, g3_, l4_, g4_, l5_, g5_, l6_, g6_, l7_, g7_, l8_, g8_, l9_, g9_⟩ := k29_open (h W' hW); injection (Option.some.inj (show some (Value.slice A1 x.f0.f1.length c1) = some (Value.slice A1_ x.f0.f1.length c1_) from congrArg (fun l => l[1]?) he)) with ha_ _ _; rw [ha_]; exact g1_), l2, (fun W' hW => by obtain ⟨A0_, c0_, A1_, c1_, A2_, c2_, A3_, c3_, A4_, c4_, A5_, c5_, A6_, c6_, A7_, c7_, A8_, c8_, A9_, c9_, he, l0_, g0_, l1_, g1_, l2_, g2_, l3_, g3_, l4_, g4_, l5_, g5_, l6_, g6_, l7_, g7_, l8_, g8_, l9_, g9_⟩ := k29_open (h W' hW); injection (Option.some.inj (show some (Value.slice A2 x.f1.f0.length c2) = some (Value.slice A2_ x.f1.f0.length c2_) from congrArg (fun l => l[2]?) he)) with ha_ _ _; rw [ha_]; exact g2_), l3, (fun W' hW => by obtain ⟨A0_, c0_, A1_, c1_, A2_, c2_, A3_, c3_, A4_, c4_, A5_, c5_, A6_, c6_, A7_, c7_, A8_, c8_, A9_, c9_, he, l0_, g0_, l1_, g1_, l2_, g2_, l3_, g3_, l4_, g4_, l5_, g5_, l6_, g6_, l7_, g7_, l8_, g8_, l9_, g9_⟩ := k29_open (h W' hW); injection (Option.some.inj (show some (Value.slice A3 x.f1.f1.length c3) = some (Value.slice A3_ x.f1.f1.length c3_) from congrArg (fun l => l[3]?) he)) with ha_ _ _; rw [ha_]; exact g3_), l4, (fun W' hW => by obtain ⟨A0_, c0_, A1_, c1_, A2_, c2_, A3_, c3_, A4_, c4_, A5_, c5_, A6_, c6_, A7_, c7_, A8_, c8_, A9_, c9_, he, l0_, g0_, l1_, g1_, l2_, g2_, l3_, g3_, l4_, g4_, l5_, g5_, l6_, g6_, l7_, g7_, l8_, g8_, l9_, g9_⟩ := k29_open (h W' hW); injection (Option.some.inj (show some (Value.slice A4 x.f2.f0.length c4) = some (Value.slice A4_ x.f2.f0.length c4_) from congrArg (fun l => l[4]?) he)) with ha_ _ _; rw [ha_]; exact g4_), l5, (fun W' hW => by obtain ⟨A0_, c0_, A1_, c1_, A2_, c2_, A3_, c3_, A4_, c4_, A5_, c5_, A6_, c6_, A7_, c7_, A8_, c8_, A9_, c9_, he, l0_, g0_, l1_, g1_, l2_, g2_, l3_, g3_, l4_, g4_, l5_, g5_, l6_, g6_, l7_, g7_, l8_, g8_, l9_, g9_⟩ := k29_open (h W' hW); injection (Option.some.inj (show some (Value.slice A5 x.f2.f1.length c5) = some (Value.slice A5_ x.f2.f1.length c5_) from congrArg (fun l => l[5]?) he)) with ha_ _ _; rw [ha_]; exact g5_), l6, (fun W' hW => by obtain ⟨A0_, c0_, A1_, c1_, A2_, c2_, A3_, c3_, A4_, c4_, A5_, c5_, A6_, c6_, A7_, c7_, A8_, c8_, A9_, c9_, he, l0_, g0_, l1_, g1_, l2_, g2_, l3_, g3_, l4_, g4_, l5_, g5_, l6_, g6_, l7_, g7_, l8_, g8_, l9_, g9_⟩ := k29_open (h W' hW); injection (Option.some.inj (show some (Value.slice A6 x.f3.f0.length c6) = some (Value.slice A6_ x.f3.f0.length c6_) from congrArg (fun l => l[6]?) he)) with ha_ _ _; rw [ha_]; exact g6_), l7, (fun W' hW => by obtain ⟨A0_, c0_, A1_, c1_, A2_, c2_, A3_, c3_, A4_, c4_, A5_, c5_, A6_, c6_, A7_, c7_, A8_, c8_, A9_, c9_, he, l0_, g0_, l1_, g1_, l2_, g2_, l3_, g3_, l4_, g4_, l5_, g5_, l6_, g6_, l7_, g7_, l8_, g8_, l9_, g9_⟩ := k29_open (h W' hW); injection (Option.some.inj (show some (Value.slice A7 x.f3.f1.length c7) = some (Value.slice A7_ x.f3.f1.length c7_) from congrArg (fun l => l[7]?) he)) with ha_ _ _; rw [ha_]; exact g7_), l8, (fun W' hW => by obtain ⟨A0_, c0_, A1_, c1_, A2_, c2_, A3_, c3_, A4_, c4_, A5_, c5_, A6_, c6_, A7_, c7_, A8_, c8_, A9_, c9_, he, l0_, g0_, l1_, g1_, l2_, g2_, l3_, g3_, l4_, g4_, l5_, g5_, l6_, g6_, l7_, g7_, l8_, g8_, l9_, g9_⟩ := k29_open (h W' hW); injection (Option.some.inj (show some (Value.slice A8 x.f4.f0.length c8) = some (Value.slice A8_ x.f4.f0.length c8_) from congrArg (fun l => l[8]?) he)) with ha_ _ _; rw [ha_]; exact g8_), l9, (fun W' hW => by obtain ⟨A0_, c0_, A1_, c1_, A2_, c2_, A3_, c3_, A4_, c4_, A5_, c5_, A6_, c6_, A7_, c7_, A8_, c8_, A9_, c9_, he, l0_, g0_, l1_, g1_, l2_, g2_, l3_, g3_, l4_, g4_, l5_, g5_, l6_, g6_, l7_, g7_, l8_, g8_, l9_, g9_⟩ := k29_open (h W' hW); injection (Option.some.inj (show some (Value.slice A9 x.f4.f1.length c9) = some (Value.slice A9_ x.f4.f1.length c9_) from congrArg (fun l => l[9]?) he)) with ha_ _ _; rw [ha_]; exact g9_)⟩
theorem k29_mkF (W : World) (ok : Nat → Prop) (x : S29) {A0 : Option Addr} {c0 : Nat} (l0 : x.f0.f0.length ≤ c0) (g0 : Kd.F (Kd.int .i64) W ok A0 x.f0.f0.length x.f0.f0) {A1 : Option Addr} {c1 : Nat} (l1 : x.f0.f1.length ≤ c1) (g1 : Kd.F k94 W ok A1 x.f0.f1.length x.f0.f1) {A2 : Option Addr} {c2 : Nat} (l2 : x.f1.f0.length ≤ c2) (g2 : Kd.F (Kd.int .i64) W ok A2 x.f1.f0.length x.f1.f0) {A3 : Option Addr} {c3 : Nat} (l3 : x.f1.f1.length ≤ c3) (g3 : Kd.F k94 W ok A3 x.f1.f1.length x.f1.f1) {A4 : Option Addr} {c4 : Nat} (l4 : x.f2.f0.length ≤ c4) (g4 : Kd.F (Kd.int .i64) W ok A4 x.f2.f0.length x.f2.f0) {A5 : Option Addr} {c5 : Nat} (l5 : x.f2.f1.length ≤ c5) (g5 : Kd.F k94 W ok A5 x.f2.f1.length x.f2.f1) {A6 : Option Addr} {c6 : Nat} (l6 : x.f3.f0.length ≤ c6) (g6 : Kd.F (Kd.int .i64) W ok A6 x.f3.f0.length x.f3.f0) {A7 : Option Addr} {c7 : Nat} (l7 : x.f3.f1.length ≤ c7) (g7 : Kd.F (Kd.int .i64) W ok A7 x.f3.f1.length x.f3.f1) {A8 : Option Addr} {c8 : Nat} (l8 : x.f4.f0.length ≤ c8) (g8 : Kd.F (Kd.int .i64) W ok A8 x.f4.f0.length x.f4.f0) {A9 : Option Addr} {c9 : Nat} (l9 : x.f4.f1.length ≤ c9) (g9 : Kd.F (Kd.int .i64) W ok A9 x.f4.f1.length x.f4.f1) : Kd.FK k29 W ok x [.slice A0 x.f0.f0.length c0, .slice A1 x.f0.f1.length c1, .slice A2 x.f1.f0.length c2, .slice A3 x.f1.f1.length c3, .slice A4 x.f2.f0.length c4, .slice A5 x.f2.f1.length c5, .slice A6 x.f3.f0.length c6, .slice A7 x.f3.f1.length c7, .slice A8 x.f4.f0.length c8, .slice A9 x.f4.f1.length c9] := fun W2 hW => k29_mk W2 x l0 (g0 W2 hW) l1 (g1 W2 hW) l2 (g2 W2 hW) l3 (g3 W2 hW) l4 (g4 W2 hW) l5 (g5 W2 hW) l6 (g6 W2 hW) l7 (g7 W2 hW) l8 (g8 W2 hW) l9 (g9 W2 hW)
def rd_T29 (xs : List S29) (i : Int) : S29 := xs.getD i.toNat z29
theorem at_T29 {w : World} {A : Option Addr} {n : Nat} {xs : List S29} (h : Kd.C k29 w A n xs) (i : Int) (h0 : 0 ≤ i) (h1 : i < n) : ∃ ad A0 c0 A1 c1 A2 c2 A3 c3 A4 c4 A5 c5 A6 c6 A7 c7 A8 c8 A9 c9, A = some ad ∧ w.cell? (ad.add (i.toNat * 10)) = some (.slice A0 (rd_T29 xs i).f0.f0.length c0) ∧ w.cell? ⟨(ad.add (i.toNat * 10)).block, (ad.add (i.toNat * 10)).off + 1, none⟩ = some (.slice A1 (rd_T29 xs i).f0.f1.length c1) ∧ w.cell? ⟨(ad.add (i.toNat * 10)).block, (ad.add (i.toNat * 10)).off + 2, none⟩ = some (.slice A2 (rd_T29 xs i).f1.f0.length c2) ∧ w.cell? ⟨(ad.add (i.toNat * 10)).block, (ad.add (i.toNat * 10)).off + 3, none⟩ = some (.slice A3 (rd_T29 xs i).f1.f1.length c3) ∧ w.cell? ⟨(ad.add (i.toNat * 10)).block, (ad.add (i.toNat * 10)).off + 4, none⟩ = some (.slice A4 (rd_T29 xs i).f2.f0.length c4) ∧ w.cell? ⟨(ad.add (i.toNat * 10)).block, (ad.add (i.toNat * 10)).off + 5, none⟩ = some (.slice A5 (rd_T29 xs i).f2.f1.length c5) ∧ w.cell? ⟨(ad.add (i.toNat * 10)).block, (ad.add (i.toNat * 10)).off + 6, none⟩ = some (.slice A6 (rd_T29 xs i).f3.f0.length c6) ∧ w.cell? ⟨(ad.add (i.toNat * 10)).block, (ad.add (i.toNat * 10)).off + 7, none⟩ = some (.slice A7 (rd_T29 xs i).f3.f1.length c7) ∧ w.cell? ⟨(ad.add (i.toNat * 10)).block, (ad.add (i.toNat * 10)).off + 8, none⟩ = some (.slice A8 (rd_T29 xs i).f4.f0.length c8) ∧ w.cell? ⟨(ad.add (i.toNat * 10)).block, (ad.add (i.toNat * 10)).off + 9, none⟩ = some (.slice A9 (rd_T29 xs i).f4.f1.length c9) ∧ (rd_T29 xs i).f0.f0.length ≤ c0 ∧ (Kd.int .i64).C w A0 (rd_T29 xs i).f0.f0.length (rd_T29 xs i).f0.f0 ∧ (rd_T29 xs i).f0.f1.length ≤ c1 ∧ k94.C w A1 (rd_T29 xs i).f0.f1.length (rd_T29 xs i).f0.f1 ∧ (rd_T29 xs i).f1.f0.length ≤ c2 ∧ (Kd.int .i64).C w A2 (rd_T29 xs i).f1.f0.length (rd_T29 xs i).f1.f0 ∧ (rd_T29 xs i).f1.f1.length ≤ c3 ∧ k94.C w A3 (rd_T29 xs i).f1.f1.length (rd_T29 xs i).f1.f1 ∧ (rd_T29 xs i).f2.f0.length ≤ c4 ∧ (Kd.int .i64).C w A4 (rd_T29 xs i).f2.f0.length (rd_T29 xs i).f2.f0 ∧ (rd_T29 xs i).f2.f1.length ≤ c5 ∧ k94.C w A5 (rd_T29 xs i).f2.f1.length (rd_T29 xs i).f2.f1 ∧ (rd_T29 xs i).f3.f0.length ≤ c6 ∧ (Kd.int .i64).C w A6 (rd_T29 xs i).f3.f0.length (rd_T29 xs i).f3.f0 ∧ (rd_T29 xs i).f3.f1.length ≤ c7 ∧ (Kd.int .i64).C w A7 (rd_T29 xs i).f3.f1.length (rd_T29 xs i).f3.f1 ∧ (rd_T29 xs i).f4.f0.length ≤ c8 ∧ (Kd.int .i64).C w A8 (rd_T29 xs i).f4.f0.length (rd_T29 xs i).f4.f0 ∧ (rd_T29 xs i).f4.f1.length ≤ c9 ∧ (Kd.int .i64).C w A9 (rd_T29 xs i).f4.f1.length (rd_T29 xs i).f4.f1 := by
 obtain ⟨ad, c, e, _, hK, hc0⟩ := Kd.C_get h z29 i h0 h1
 have hc : ∀ j u, c[j]? = some u → w.cell? (ad.add (i.toNat * 10 + j)) = some u := hc0
 obtain ⟨A0, c0, A1, c1, A2, c2, A3, c3, A4, c4, A5, c5, A6, c6, A7, c7, A8, c8, A9, c9, rfl, l0, g0, l1, g1, l2, g2, l3, g3, l4, g4, l5, g5, l6, g6, l7, g7, l8, g8, l9, g9⟩ := k29_open hK
 exact ⟨ad, A0, c0, A1, c1, A2, c2, A3, c3, A4, c4, A5, c5, A6, c6, A7, c7, A8, c8, A9, c9, e, hc 0 _ rfl, by rw [← add_field _ _ 1 (by omega)]; exact hc 1 _ rfl, by rw [← add_field _ _ 2 (by omega)]; exact hc 2 _ rfl, by rw [← add_field _ _ 3 (by omega)]; exact hc 3 _ rfl, by rw [← add_field _ _ 4 (by omega)]; exact hc 4 _ rfl, by rw [← add_field _ _ 5 (by omega)]; exact hc 5 _ rfl, by rw [← add_field _ _ 6 (by omega)]; exact hc 6 _ rfl, by rw [← add_field _ _ 7 (by omega)]; exact hc 7 _ rfl, by rw [← add_field _ _ 8 (by omega)]; exact hc 8 _ rfl, by rw [← add_field _ _ 9 (by omega)]; exact hc 9 _ rfl, l0, g0, l1, g1, l2, g2, l3, g3, l4, g4, l5, g5, l6, g6, l7, g7, l8, g8, l9, g9⟩
/-! #### struct type 95 -/
structure S95 where
 f0 : Int
 f1 : Int
 f2 : Int
def z95 : S95 := ⟨(0 : Int), (0 : Int), (0 : Int)⟩
def k95 : Kd S95 := Kd.iso (Kd.pair (Kd.int .u8) (Kd.pair (Kd.int .u8) (Kd.int .u8))) (fun x : S95 => (x.f0, x.f1, x.f2))
theorem k95_open {w : World} {x : S95} {cs : List Value} (h : k95.K w x cs) : cs = [.int .u8 x.f0, .int .u8 x.f1, .int .u8 x.f2] := by
 obtain ⟨_, _, rfl, rfl, ⟨_, _, rfl, rfl, rfl⟩⟩ := h
 exact rfl
theorem k95_openM {w : World} {base : Nat} {ok : Nat → Prop} {x : S95} {cs : List Value} (h : k95.M w base ok x cs) : cs = [.int .u8 x.f0, .int .u8 x.f1, .int .u8 x.f2] := by
 obtain ⟨_, _, rfl, rfl, ⟨_, _, rfl, rfl, rfl⟩⟩ := h
 exact rfl
theorem k95_mk (w : World) (x : S95)  : k95.K w x [.int .u8 x.f0, .int .u8 x.f1, .int .u8 x.f2] := ⟨[.int .u8 x.f0], [.int .u8 x.f1, .int .u8 x.f2], rfl, rfl, ⟨[.int .u8 x.f1], [.int .u8 x.f2], rfl, rfl, rfl⟩⟩
theorem k95_mkM (w : World) (base : Nat) (ok : Nat → Prop) (x : S95)  : k95.M w base ok x [.int .u8 x.f0, .int .u8 x.f1, .int .u8 x.f2] := ⟨[.int .u8 x.f0], [.int .u8 x.f1, .int .u8 x.f2], rfl, rfl, ⟨[.int .u8 x.f1], [.int .u8 x.f2], rfl, rfl, rfl⟩⟩
theorem k95_mkF (W : World) (ok : Nat → Prop) (x : S95) : Kd.FK k95 W ok x [.int .u8 x.f0, .int .u8 x.f1, .int .u8 x.f2] := fun W2 _ => k95_mk W2 x
def rd_T95 (xs : List S95) (i : Int) : S95 := xs.getD i.toNat z95
theorem at_T95 {w : World} {A : Option Addr} {n : Nat} {xs : List S95} (h : Kd.C k95 w A n xs) (i : Int) (h0 : 0 ≤ i) (h1 : i < n) : ∃ ad , A = some ad ∧ w.cell? (ad.add (i.toNat * 3)) = some (.int .u8 (rd_T95 xs i).f0) ∧ w.cell? ⟨(ad.add (i.toNat * 3)).block, (ad.add (i.toNat * 3)).off + 1, none⟩ = some (.int .u8 (rd_T95 xs i).f1) ∧ w.cell? ⟨(ad.add (i.toNat * 3)).block, (ad.add (i.toNat * 3)).off + 2, none⟩ = some (.int .u8 (rd_T95 xs i).f2) := by
 obtain ⟨ad, c, e, _, hK, hc0⟩ := Kd.C_get h z95 i h0 h1
 have hc : ∀ j u, c[j]? = some u → w.cell? (ad.add (i.toNat * 3 + j)) = some u := hc0
 obtain rfl := k95_open hK
 exact ⟨ad, e, hc 0 _ rfl, by rw [← add_field _ _ 1 (by omega)]; exact hc 1 _ rfl, by rw [← add_field _ _ 2 (by omega)]; exact hc 2 _ rfl⟩
theorem oT {p : Prop} [Decidable p] (h : decide p = true := by first | (with_reducible assumption) | assumption) : p := of_decide_eq_true h
theorem rS {p : Prop} (h : p := by first | rfl | (simp; done) | (simp [*]; done)) : p := h
theorem hB {p : Prop} (h : p := by repeat (first | (with_reducible first | exact HB.out | apply below_alloc | apply pw_below_drewN | apply below_drew1) | exact HB.out)) : p := h
theorem aM {p : Prop} (h : p := by (try simp only [List.map_toArray, List.map_cons, List.map_nil]); first | done | rfl | (simp only [List.length_drop, List.length_take]; rfl)) : p := h
theorem pB {w0 w : World} {g : Nat} {o : Obj} (x : Aside0 (w0.heap[g]? = some o)) (m : w0.heap[g]? = some o → w.heap[g]? = some o := by intro h; (with_reducible repeat (first | refine bN ?_ _ | refine bD ?_ | refine bA ?_ _)); exact h) : w.heap[g]? = some o := m x.out
theorem uB {w0 w w1 : World} {g : Nat} {o : Obj} (x : Aside0 (w0.heap[g]? = some o)) (hb : Below w.heap.size w w1) (m : w0.heap[g]? = some o → w.heap[g]? = some o := by intro h; (with_reducible repeat (first | refine bN ?_ _ | refine bD ?_ | refine bA ?_ _)); exact h) : Aside0 (w1.heap[g]? = some o) := ⟨bB (m x.out) hb⟩
theorem uL {w0 w : World} {g g' : Nat} {o : Obj} (x : Aside0 (w0.heap[g]? = some o)) (hg : g' = w.heap.size) (m : w0.heap[g]? = some o → w.heap[g]? = some o := by intro h; (with_reducible repeat (first | refine bN ?_ _ | refine bD ?_ | refine bA ?_ _)); exact h) : Aside0 (g ≠ g') := ⟨by rw [hg]; exact Nat.ne_of_lt (blk_lt (m x.out))⟩
theorem uG {w0 w : World} {g g' : Nat} {o : Obj} (x : Aside0 (w0.heap[g]? = some o)) (hg : g' = w.heap.size) (m : w0.heap[g]? = some o → w.heap[g]? = some o := by intro h; (with_reducible repeat (first | refine bN ?_ _ | refine bD ?_ | refine bA ?_ _)); exact h) : Aside0 (g' ≠ g) := ⟨by rw [hg]; exact Nat.ne_of_gt (blk_lt (m x.out))⟩
theorem pH {w w0 w1 : World} (x : Aside0 (Below w.heap.size w w0)) (m : Below w.heap.size w w0 → Below w.heap.size w w1 := by intro h; repeat (first | (with_reducible first | exact h | apply wA | apply wN | apply wD | refine below_set ?_ (Aside0.out (by assumption))) | exact h)) : Below w.heap.size w w1 := m x.out
theorem uH {w w0 w1 w2 : World} (x : Aside0 (Below w.heap.size w w0)) (hb : Below w1.heap.size w1 w2) (m : Below w.heap.size w w0 → Below w.heap.size w w1 := by intro h; repeat (first | (with_reducible first | exact h | apply wA | apply wN | apply wD | refine below_set ?_ (Aside0.out (by assumption))) | exact h)) : Aside0 (Below w.heap.size w w2) := ⟨wS (m x.out) hb⟩
theorem uS {w w0 w1 : World} {g : Nat} (x : Aside0 (Below w.heap.size w w0)) (hg : g = w1.heap.size) (m : Below w.heap.size w w0 → Below w.heap.size w w1 := by intro h; repeat (first | (with_reducible first | exact h | apply wA | apply wN | apply wD | refine below_set ?_ (Aside0.out (by assumption))) | exact h)) : Aside0 (w.heap.size ≤ g) := ⟨by rw [hg]; exact below_size (m x.out)⟩
theorem bC {w : World} {g t : Nat} {cs : Array Value} (h : Aside0 (w.heap[g]? = some (.cells cs t (0, 0)))) (i : Nat) {v : Value} (e : cs[i]? = some v := by rfl) : w.cell? ⟨g, i, none⟩ = some v := (blk_cell h.out i).trans e
theorem bS {w w1 w2 : World} (hb : Below w1.heap.size w1 w2) (m : Below w.heap.size w w1 := by repeat (first | exact Below.refl _ _ | apply wA | apply wN | apply wD)) : Below w.heap.size w w2 := wS m hb
abbrev aD (n : Nat) : _root_.Go.Edge := { on := n, ground := Ground.data }
abbrev aG (n : Nat) : _root_.Go.Edge := { on := n, ground := Ground.guard }
abbrev aP (n : Nat) : _root_.Go.Edge := { on := n, ground := Ground.phase }
theorem aB {p q : Prop} (h : p) (m : p → q := by intro h; first | exact h | (rw [add_block]; exact h) | (show (Addr.add _ _).block ≠ _; rw [add_block]; exact h) | (dsimp only; exact h)) : q := m h
theorem bL {w : World} {p : Addr} {v : Value} {g : Nat} (hw : w.cell? p = some v) (h : w.heap.size ≤ g) : p.block ≠ g := Nat.ne_of_lt (Nat.lt_of_lt_of_le (World.block_lt_of_cell? _ _ hw) h)
theorem cG {w : World} {p q : Addr} {u v : Value} (n : q.block ≠ p.block) (h : w.cell? q = some v) : (w.setCell p u).cell? q = some v := (cell_far n u).trans h
theorem cX {α : Type} {d : Kd α} {w0 w : World} {A : Option Addr} {n : Nat} {l : List α} (h : Kd.C d w0 A n l) (m : Kd.C d w0 A n l → Kd.C d w A n l := by intro h; repeat (first | exact h | (with_reducible refine cA ?_ _) | (with_reducible refine cN ?_ _) | (with_reducible refine cD ?_))) : Kd.C d w A n l := m h
theorem pV {α : Type} {d : Kd α} {e b : Nat} {ok : Nat → Prop} {v : Value} {l : List α} {w0 w : World} (x : Aside0 (Kd.V d e w0 b ok v l)) (m : Kd.V d e w0 b ok v l → Kd.V d e w b ok v l := by intro h; (with_reducible repeat (first | apply Kd.V_alloc | apply Kd.V_drewN | apply Kd.V_drew)); exact h) : Kd.V d e w b ok v l := m x.out
theorem uV {α : Type} {d : Kd α} {e b : Nat} {ok : Nat → Prop} {v : Value} {l : List α} {w0 w : World} {w1 : World} (x : Aside0 (Kd.V d e w0 b ok v l)) (hb : Below w.heap.size w w1) (m : Kd.V d e w0 b ok v l → Kd.V d e w b ok v l := by intro h; (with_reducible repeat (first | apply Kd.V_alloc | apply Kd.V_drewN | apply Kd.V_drew)); exact h) : Aside0 (Kd.V d e w1 b ok v l) := ⟨Kd.V_below (m x.out) hb⟩
theorem eV {α : Type} {d : Kd α} {e b : Nat} {ok : Nat → Prop} {v : Value} {l : List α} {w0 w : World} {w1 : World} {u : Value} (x : Aside0 (Kd.V d e w0 b ok v l)) (hu : ∀ k, u.ownBlock = some k → w.heap.size ≤ k) (hb : Below w.heap.size w w1) (m : Kd.V d e w0 b ok v l → Kd.V d e w b ok v l := by intro h; (with_reducible repeat (first | apply Kd.V_alloc | apply Kd.V_drewN | apply Kd.V_drew)); exact h) : Aside0 (Kd.V d e w1 b (fun k => ok k ∧ some k ≠ u.ownBlock) v l) := ⟨Kd.V_elder' (m x.out) hu hb⟩
theorem gV {α : Type} {d : Kd α} {e b : Nat} {ok : Nat → Prop} {v : Value} {l : List α} {w0 w : World} {w1 : World} (x : Aside0 (Kd.V d e w0 b ok v l)) (a : Nat) (hg : a = w.heap.size) (hb : Below w.heap.size w w1) (m : Kd.V d e w0 b ok v l → Kd.V d e w b ok v l := by intro h; (with_reducible repeat (first | apply Kd.V_alloc | apply Kd.V_drewN | apply Kd.V_drew)); exact h) : Aside0 (Kd.V d e w1 b (fun k => ok k ∧ k ≠ a) v l) := ⟨Kd.V_below (Kd.V_elderB (m x.out) a (Nat.le_of_eq hg.symm)) hb⟩
theorem pR {α : Type} {d : Kd α} {e b : Nat} {ok : Nat → Prop} {v : Value} {l : List α} {w0 w : World} (x : Aside0 (Kd.R d e w0 b ok v l)) (m : Kd.R d e w0 b ok v l → Kd.R d e w b ok v l := by intro h; (with_reducible repeat (first | apply rA | apply rN | apply rD)); exact h) : Kd.R d e w b ok v l := m x.out
theorem uR {α : Type} {d : Kd α} {e b : Nat} {ok : Nat → Prop} {v : Value} {l : List α} {w0 w : World} {w1 : World} (x : Aside0 (Kd.R d e w0 b ok v l)) (hb : Below w.heap.size w w1) (m : Kd.R d e w0 b ok v l → Kd.R d e w b ok v l := by intro h; (with_reducible repeat (first | apply rA | apply rN | apply rD)); exact h) : Aside0 (Kd.R d e w1 b ok v l) := ⟨rB (m x.out) hb⟩
theorem eR {α : Type} {d : Kd α} {e b : Nat} {ok : Nat → Prop} {v : Value} {l : List α} {w0 w : World} {w1 : World} {u : Value} (x : Aside0 (Kd.R d e w0 b ok v l)) (hu : ∀ k, u.ownBlock = some k → w.heap.size ≤ k) (hb : Below w.heap.size w w1) (m : Kd.R d e w0 b ok v l → Kd.R d e w b ok v l := by intro h; (with_reducible repeat (first | apply rA | apply rN | apply rD)); exact h) : Aside0 (Kd.R d e w1 b (fun k => ok k ∧ some k ≠ u.ownBlock) v l) := ⟨Kd.R_elder' (m x.out) hu hb⟩
theorem gR {α : Type} {d : Kd α} {e b : Nat} {ok : Nat → Prop} {v : Value} {l : List α} {w0 w : World} {w1 : World} (x : Aside0 (Kd.R d e w0 b ok v l)) (a : Nat) (hg : a = w.heap.size) (hb : Below w.heap.size w w1) (m : Kd.R d e w0 b ok v l → Kd.R d e w b ok v l := by intro h; (with_reducible repeat (first | apply rA | apply rN | apply rD)); exact h) : Aside0 (Kd.R d e w1 b (fun k => ok k ∧ k ≠ a) v l) := ⟨rB (Kd.R_elderB (m x.out) a (Nat.le_of_eq hg.symm)) hb⟩
theorem pN {α : Type} {d : Kd α} {e b : Nat} {ok : Nat → Prop} {v : Value} {l : List α} {w0 w : World} (x : Aside0 (Kd.N d e w0 b ok v l)) (m : Kd.N d e w0 b ok v l → Kd.N d e w b ok v l := by intro h; (with_reducible repeat (first | apply Kd.N_alloc | apply Kd.N_drewN | apply Kd.N_drew)); exact h) : Kd.N d e w b ok v l := m x.out
theorem uN {α : Type} {d : Kd α} {e b : Nat} {ok : Nat → Prop} {v : Value} {l : List α} {w0 w : World} {w1 : World} (x : Aside0 (Kd.N d e w0 b ok v l)) (hb : Below w.heap.size w w1) (m : Kd.N d e w0 b ok v l → Kd.N d e w b ok v l := by intro h; (with_reducible repeat (first | apply Kd.N_alloc | apply Kd.N_drewN | apply Kd.N_drew)); exact h) : Aside0 (Kd.N d e w1 b ok v l) := ⟨Kd.N_below (m x.out) hb⟩
theorem eN {α : Type} {d : Kd α} {e b : Nat} {ok : Nat → Prop} {v : Value} {l : List α} {w0 w : World} {w1 : World} {u : Value} (x : Aside0 (Kd.N d e w0 b ok v l)) (hu : ∀ k, u.ownBlock = some k → w.heap.size ≤ k) (hb : Below w.heap.size w w1) (m : Kd.N d e w0 b ok v l → Kd.N d e w b ok v l := by intro h; (with_reducible repeat (first | apply Kd.N_alloc | apply Kd.N_drewN | apply Kd.N_drew)); exact h) : Aside0 (Kd.N d e w1 b (fun k => ok k ∧ some k ≠ u.ownBlock) v l) := ⟨Kd.N_elder' (m x.out) hu hb⟩
theorem gN {α : Type} {d : Kd α} {e b : Nat} {ok : Nat → Prop} {v : Value} {l : List α} {w0 w : World} {w1 : World} (x : Aside0 (Kd.N d e w0 b ok v l)) (a : Nat) (hg : a = w.heap.size) (hb : Below w.heap.size w w1) (m : Kd.N d e w0 b ok v l → Kd.N d e w b ok v l := by intro h; (with_reducible repeat (first | apply Kd.N_alloc | apply Kd.N_drewN | apply Kd.N_drew)); exact h) : Aside0 (Kd.N d e w1 b (fun k => ok k ∧ k ≠ a) v l) := ⟨Kd.N_below (Kd.N_elderB (m x.out) a (Nat.le_of_eq hg.symm)) hb⟩
end Go.Proofs.Ytillofiphkmjjaa.X

/- Words for walks by hand: what is held of blocks and of rows that are only read. -/
namespace Go.Proofs.Ytillofiphkmjjaa.X
open Go.RowKit Go.Proofs.YtillofiphkmjjaaW.PrintWords Go.Proofs.YtillofiphkmjjaaW.PrintLast Go.Proofs.YtillofiphkmjjaaW.PrintMore
set_option linter.unusedVariables false

/-- Variable g of type t holds two cells. -/
structure Box2 (W : World) (g t : Nat) (a b : Value) : Prop where
  get : W.heap[g]? = some (.cells #[a, b] t (0, 0))
theorem Box2.below {W W' : World} {g t : Nat} {a b : Value} (h : Box2 W g t a b) (hb : Below W.heap.size W W') : Box2 W' g t a b := ⟨blk_below h.get hb⟩
theorem Box2.c0 {W : World} {g t : Nat} {a b : Value} (h : Box2 W g t a b) : W.cell? ⟨g, 0, none⟩ = some a := (blk_cell h.get 0).trans rfl
theorem Box2.c1 {W : World} {g t : Nat} {a b : Value} (h : Box2 W g t a b) : W.cell? ⟨g, 1, none⟩ = some b := (blk_cell h.get 1).trans rfl
theorem two_new (w : World) (a b : Value) (t : Nat) (a' b' : Value) (t' : Nat) :
    Box2 ((w.alloc (.cells #[a, b] t)).alloc (.cells #[a', b'] t')) w.heap.size t a b ∧ Box2 ((w.alloc (.cells #[a, b] t)).alloc (.cells #[a', b'] t')) (w.heap.size + 1) t' a' b' ∧
    Below w.heap.size w ((w.alloc (.cells #[a, b] t)).alloc (.cells #[a', b'] t')) := by
  refine ⟨⟨blk_alloc (heap_alloc_new w _) _⟩, ⟨?_⟩, below_alloc (below_alloc (Below.refl _ _) _) _⟩
  have h := heap_alloc_new (w.alloc (.cells #[a, b] t)) (.cells #[a', b'] t')
  rw [show (w.alloc (.cells #[a, b] t)).heap.size = w.heap.size + 1 from by simp] at h
  exact h
theorem one_new (w : World) (a b : Value) (t : Nat) : Box2 (w.alloc (.cells #[a, b] t)) w.heap.size t a b ∧ Below w.heap.size w (w.alloc (.cells #[a, b] t)) := ⟨⟨heap_alloc_new w _⟩, below_alloc (Below.refl _ _) _⟩
/-- Variable g of type t holds three cells. -/
structure Box3 (W : World) (g t : Nat) (a b c : Value) : Prop where
  get : W.heap[g]? = some (.cells #[a, b, c] t (0, 0))
theorem Box3.below {W W' : World} {g t : Nat} {a b c : Value} (h : Box3 W g t a b c) (hb : Below W.heap.size W W') : Box3 W' g t a b c := ⟨blk_below h.get hb⟩
theorem Box3.c0 {W : World} {g t : Nat} {a b c : Value} (h : Box3 W g t a b c) : W.cell? ⟨g, 0, none⟩ = some a := (blk_cell h.get 0).trans rfl
theorem Box3.c1 {W : World} {g t : Nat} {a b c : Value} (h : Box3 W g t a b c) : W.cell? ⟨g, 1, none⟩ = some b := (blk_cell h.get 1).trans rfl
theorem Box3.c2 {W : World} {g t : Nat} {a b c : Value} (h : Box3 W g t a b c) : W.cell? ⟨g, 2, none⟩ = some c := (blk_cell h.get 2).trans rfl
theorem three_new (w : World) (a b c : Value) (t : Nat) : Box3 (w.alloc (.cells #[a, b, c] t)) w.heap.size t a b c ∧ Below w.heap.size w (w.alloc (.cells #[a, b, c] t)) := ⟨⟨heap_alloc_new w _⟩, below_alloc (Below.refl _ _) _⟩
/-- A row that is only read. -/
structure Row {α : Type} (d : Kd α) (W : World) (A : Option Addr) (c : Nat) (l : List α) : Prop where
  cap : l.length ≤ c
  at_ : Kd.C d W A l.length l
theorem Row.below {α : Type} {d : Kd α} {W W' : World} {A : Option Addr} {c : Nat} {l : List α} (h : Row d W A c l) (hb : Below W.heap.size W W') : Row d W' A c l := ⟨h.cap, Kd.C_below h.at_ hb⟩
theorem Row.of_R {α : Type} {d : Kd α} {e : Nat} {W : World} {base : Nat} {ok : Nat → Prop} {v : Value} {l : List α} (h : d.R e W base ok v l) : ∃ A c, v = .slice A l.length c ∧ Row d W A c l := by
  obtain ⟨A, c, e, h1, h2⟩ := Kd.R_reads h
  exact ⟨A, c, e, h1, h2⟩
/-- Everything below a mark is as it was. -/
structure Since (W W' : World) : Prop where
  get : Below W.heap.size W W'
theorem Since.refl (W : World) : Since W W := ⟨Below.refl _ _⟩
theorem Since.step {W W' W'' : World} (h : Since W W') (hb : Below W'.heap.size W' W'') : Since W W'' := ⟨below_step h.get hb⟩
section
variable {P : Program} {ops : Array Oper} {Q : Exit → Act → World → Prop} {md : Region.Mode}
theorem count_set (l : List Bool) (i : Nat) (h : l.getD i true = false) : (l.set i true).count false + 1 = l.count false := by
  induction l generalizing i with
  | nil => simp at h
  | cons b r ih =>
    cases i with
    | zero =>
      have : b = false := by simpa using h
      subst this
      simp
    | succ i =>
      have := ih i (by simpa using h)
      cases b <;> simp <;> omega
theorem ready_of {T : List (List Nat × List Nat)} {l : List Bool} {i : Nat} (h : i ∈ readyT T l) : readyAt T l i = true ∧ i < T.length := by
  unfold readyT at h
  rw [List.mem_filter, List.mem_range] at h
  exact ⟨h.2, h.1⟩
theorem inv_ (J : List Bool → Act → World → Prop) (T : Bool × List (List Nat × List Nat)) (hT : rtab md ops = T)
    (hstep : ∀ l a w i, J l a w → l.length = ops.size → readyAt T.2 l i = true → i < T.2.length → wpOp P ops Q i (fun a' w' => J (l.set i true) a' w') a w)
    (hend : ∀ l a w, J l a w → l.length = ops.size → readyT T.2 l = [] → Q .normal a w) :
    ∀ (n : Nat) (l : Array Bool) (a : Act) (w : World), J l.toList a w → l.size = ops.size → l.toList.count false ≤ n → wpAnyLast P md ops Q (fun _ => True) [] n l a w := by
  intro n
  induction n with
  | zero =>
    intro l a w hJ hl hn
    have hr : readyT T.2 l.toList = [] := by
      unfold readyT
      rw [List.filter_eq_nil_iff]
      intro i _ h
      unfold readyAt at h
      simp only [Bool.and_eq_true, Bool.not_eq_true'] at h
      have := count_set l.toList i h.1
      omega
    exact ⟨by rw [ready_eq, hT]; exact hr, hend _ _ _ hJ (by simpa using hl) hr⟩
  | succ n ih =>
    intro l a w hJ hl hn
    refine ⟨fun hr => hend _ _ _ hJ (by simpa using hl) (by rw [← hT, ← ready_eq]; exact hr), fun i hi => ?_⟩
    rw [ready_eq, hT] at hi
    obtain ⟨h1, h2⟩ := ready_of hi
    refine wpOp_mono (fun a' w' h => ⟨fun _ _ => trivial, ?_⟩) (hstep _ a w i hJ (by simpa using hl) h1 h2)
    refine ih _ a' w' (by simpa using h) (by simpa using hl) ?_
    unfold readyAt at h1
    simp only [Bool.and_eq_true, Bool.not_eq_true'] at h1
    have := count_set l.toList i h1.1
    simp
    omega
theorem drawn_ {id : Nat} {a : Act} {w : World} (J : List Bool → Act → World → Prop) (T : Bool × List (List Nat × List Nat)) (hT : rtab .any ops = T) (hm : P.follows .mixedOrders = true)
    (h0 : J (List.replicate ops.size false) a w.drew)
    (hstep : ∀ l a w i, J l a w → l.length = ops.size → readyAt T.2 l i = true → i < T.2.length → wpOp P ops Q i (fun a' w' => J (l.set i true) a' w') a w)
    (hend : ∀ l a w, J l a w → l.length = ops.size → readyT T.2 l = [] → Q .normal a w) : (Code.region id ops true).wp P Q a w := by
  refine start_ (S := fun _ => True) (ds := []) (Array.replicate ops.size false) hm rfl rfl trivial (fun _ => ?_)
  exact inv_ J T hT hstep hend _ _ _ _ (by simpa using h0) (by simp) (by simp)
end

theorem cell_in {w : World} {a : Addr} {u : Value} {cs : Array Value} {t : TypeId} (h : w.cell? a = some u) (hb : w.heap[a.block]? = some (.cells cs t (0, 0))) : u ∈ cs.toList := by
  unfold World.cell? at h
  rw [hb] at h
  simp only at h
  split at h
  · cases h
  · obtain ⟨hi, e⟩ := Array.getElem?_eq_some_iff.mp h
    rw [← e]
    exact Array.mem_toList_iff.mpr (Array.getElem_mem hi)
/-- A kind whose cells are whole numbers. -/
def Flat {α : Type} (d : Kd α) : Prop := ∀ w x cs, d.K w x cs → (∀ w', d.K w' x cs) ∧ ∀ u ∈ cs, ∃ n, u = .int .i64 n
theorem flat_int : Flat (Kd.int .i64) := by
  intro w x cs h
  obtain rfl : cs = [.int .i64 x] := h
  exact ⟨fun _ => rfl, fun u hu => ⟨x, List.mem_singleton.mp hu⟩⟩
theorem flat38 : Flat k94 := by
  intro w x cs h
  obtain rfl := k94_open h
  refine ⟨fun w' => k94_mk w' x, fun u hu => ?_⟩
  rcases List.mem_cons.mp hu with rfl | hu
  · exact ⟨_, rfl⟩
  rcases List.mem_cons.mp hu with rfl | hu
  · exact ⟨_, rfl⟩
  exact ⟨_, List.mem_singleton.mp hu⟩
/-- A row of numbers stays where a variable of two rows is written. -/
theorem Row.far {α : Type} {d : Kd α} (hd : Flat d) {W : World} {A : Option Addr} {c : Nat} {l : List α} (h : Row d W A c l) {g t : Nat} {a b : Value} (hb : Box2 W g t a b) (na : ∀ n, a ≠ .int .i64 n) (nb : ∀ n, b ≠ .int .i64 n) (j : Nat) (v : Value) :
    Row d (W.setCell ⟨g, j, none⟩ v) A c l := by
  refine ⟨h.cap, h.at_.1, h.at_.2.1, fun hn => ?_⟩
  obtain ⟨ad, e, hc⟩ := h.at_.2.2 hn
  refine ⟨ad, e, fun i p hp => ?_⟩
  obtain ⟨cs, h1, h2, h3⟩ := hc i p hp
  obtain ⟨f1, f2⟩ := hd _ _ _ h2
  refine ⟨cs, h1, f1 _, fun k u hu => ?_⟩
  have h4 := h3 k u hu
  rw [cell_far ?_]
  · exact h4
  · intro hg
    have hm := cell_in h4 (by rw [show (ad.add (i * d.sz + k)).block = g from hg]; exact hb.get)
    obtain ⟨n, rfl⟩ := f2 u (List.mem_of_getElem? hu)
    simp at hm
    rcases hm with hm | hm
    · exact na n hm.symm
    · exact nb n hm.symm
theorem Box2.far {W : World} {g t : Nat} {a b : Value} (h : Box2 W g t a b) {p : Addr} (hp : g ≠ p.block) (u : Value) : Box2 (W.setCell p u) g t a b := ⟨blk_far h.get hp u⟩
theorem Box2.put0 {W : World} {g t : Nat} {a b : Value} (h : Box2 W g t a b) (u : Value) : Box2 (W.setCell ⟨g, 0, none⟩ u) g t u b := ⟨blk_put h.get 0 u rfl⟩
theorem Box2.put1 {W : World} {g t : Nat} {a b : Value} (h : Box2 W g t a b) (u : Value) : Box2 (W.setCell ⟨g, 1, none⟩ u) g t a u := ⟨blk_put h.get 1 u rfl⟩
theorem Since.put {W W' : World} (h : Since W W') {g j : Nat} (hg : W.heap.size ≤ g) (u : Value) : Since W (W'.setCell ⟨g, j, none⟩ u) := ⟨below_set h.get hg⟩
/-- A value that is a row, only read. -/
structure Vr {α : Type} (d : Kd α) (W : World) (v : Value) (l : List α) : Prop where
  get : ∃ A c, v = .slice A l.length c ∧ Row d W A c l
theorem Vr.below {α : Type} {d : Kd α} {W W' : World} {v : Value} {l : List α} (h : Vr d W v l) (hb : Below W.heap.size W W') : Vr d W' v l := by
  obtain ⟨A, c, e, r⟩ := h.get
  exact ⟨A, c, e, r.below hb⟩
theorem Vr.of_R {α : Type} {d : Kd α} {e : Nat} {W : World} {base : Nat} {ok : Nat → Prop} {v : Value} {l : List α} (h : d.R e W base ok v l) : Vr d W v l := ⟨Row.of_R h⟩
theorem Vr.far {α : Type} {d : Kd α} (hd : Flat d) {W : World} {u : Value} {l : List α} (h : Vr d W u l) {g t : Nat} {a b : Value} (hb : Box2 W g t a b) (na : ∀ n, a ≠ .int .i64 n) (nb : ∀ n, b ≠ .int .i64 n) (j : Nat) (v : Value) : Vr d (W.setCell ⟨g, j, none⟩ v) u l := by
  obtain ⟨A, c, e, r⟩ := h.get
  exact ⟨A, c, e, r.far hd hb na nb j v⟩
theorem Vr.ne {α : Type} {d : Kd α} {W : World} {u : Value} {l : List α} (h : Vr d W u l) : ∀ n, u ≠ .int .i64 n := by
  obtain ⟨A, c, rfl, r⟩ := h.get
  intro n e
  cases e
theorem Row.V {α : Type} {d : Kd α} (hd : Kd.Heap d) {W : World} {A : Option Addr} {c : Nat} {l : List α} (h : Row d W A c l) (e base : Nat) : Kd.V d e W base (fun k => k < W.heap.size) (.slice A l.length c) l := Kd.V_mk h.cap (Kd.C_F hd h.at_)
theorem Vr.far2 {α : Type} {d : Kd α} (hd : Flat d) {W : World} {u : Value} {l : List α} (h : Vr d W u l) {g t : Nat} {a b v : Value} (hb : Box2 W g t a b) (na : ∀ n, a ≠ .int .i64 n) (nb : ∀ n, b ≠ .int .i64 n) (nv : ∀ n, v ≠ .int .i64 n) (v' : Value) :
    Vr d ((W.setCell ⟨g, 0, none⟩ v).setCell ⟨g, 1, none⟩ v') u l := (h.far hd hb na nb 0 v).far hd (hb.put0 v) nv nb 1 v'
theorem Box2.put2 {W : World} {g t : Nat} {a b : Value} (h : Box2 W g t a b) (v v' : Value) : Box2 ((W.setCell ⟨g, 0, none⟩ v).setCell ⟨g, 1, none⟩ v') g t v v' := (h.put0 v).put1 v'
theorem Box2.far2 {W : World} {g t : Nat} {a b : Value} (h : Box2 W g t a b) {g' : Nat} (hp : g ≠ g') (v v' : Value) : Box2 ((W.setCell ⟨g', 0, none⟩ v).setCell ⟨g', 1, none⟩ v') g t a b := (h.far (p := ⟨g', 0, none⟩) hp v).far (p := ⟨g', 1, none⟩) hp v'
theorem Since.put2 {W W' : World} (h : Since W W') {g : Nat} (hg : W.heap.size ≤ g) (v v' : Value) : Since W ((W'.setCell ⟨g, 0, none⟩ v).setCell ⟨g, 1, none⟩ v') := (h.put hg v).put hg v'
theorem size_put2 {W : World} {g g' : Nat} (h : g < W.heap.size) (v v' : Value) : g < ((W.setCell ⟨g', 0, none⟩ v).setCell ⟨g', 1, none⟩ v').heap.size := by simpa [World.setCell] using h
theorem need {T : List (List Nat × List Nat)} {l : List Bool} {i j : Nat} {r : List Nat × List Nat} (h : readyAt T l i = true) (hT : T[i]? = some r) (hj : j ∈ r.1) : l.getD j false = true := by
  unfold readyAt at h
  rw [hT] at h
  simp only [Bool.and_eq_true, Bool.not_eq_true', List.all_eq_true] at h
  exact h.2 j hj
theorem need_not {T : List (List Nat × List Nat)} {l : List Bool} {i : Nat} (h : readyAt T l i = true) : l.getD i true = false := by
  unfold readyAt at h
  simp only [Bool.and_eq_true, Bool.not_eq_true'] at h
  exact h.1
theorem all_done {T : List (List Nat × List Nat)} {l : List Bool} (h : readyT T l = []) (i : Nat) {r : List Nat × List Nat} (hT : T[i]? = some r) (hn : r.1.all (fun j => l.getD j false) = true) : l.getD i true = true := by
  unfold readyT at h
  rw [List.filter_eq_nil_iff] at h
  have h1 := h i (List.mem_range.mpr (by
    obtain ⟨hi, _⟩ := List.getElem?_eq_some_iff.mp hT
    exact hi))
  unfold readyAt at h1
  rw [hT] at h1
  simp only [hn, Bool.and_true, Bool.not_eq_true', Bool.not_eq_false] at h1
  exact h1
theorem nil_ne : ∀ n, (Value.slice none 0 0) ≠ .int .i64 n := fun _ e => by cases e
theorem heap38 : Kd.Heap k94 := Kd.heap_iso _ (Kd.heap_pair (Kd.heap_int _) (Kd.heap_pair (Kd.heap_int _) (Kd.heap_int _)))
theorem tri_new (w : World) (a b : Value) (t : Nat) (a' b' : Value) (t' : Nat) (a'' b'' : Value) (t'' : Nat) :
    Box2 (((w.alloc (.cells #[a, b] t)).alloc (.cells #[a', b'] t')).alloc (.cells #[a'', b''] t'')) w.heap.size t a b ∧
    Box2 (((w.alloc (.cells #[a, b] t)).alloc (.cells #[a', b'] t')).alloc (.cells #[a'', b''] t'')) (w.heap.size + 1) t' a' b' ∧
    Box2 (((w.alloc (.cells #[a, b] t)).alloc (.cells #[a', b'] t')).alloc (.cells #[a'', b''] t'')) (w.heap.size + 2) t'' a'' b'' ∧
    Below w.heap.size w (((w.alloc (.cells #[a, b] t)).alloc (.cells #[a', b'] t')).alloc (.cells #[a'', b''] t'')) := by
  obtain ⟨h1, h2, h3⟩ := two_new w a b t a' b' t'
  have h4 := below_alloc (Below.refl ((w.alloc (.cells #[a, b] t)).alloc (.cells #[a', b'] t')).heap.size ((w.alloc (.cells #[a, b] t)).alloc (.cells #[a', b'] t'))) (.cells #[a'', b''] t'')
  refine ⟨h1.below h4, h2.below h4, ⟨?_⟩, below_step h3 h4⟩
  have h := heap_alloc_new ((w.alloc (.cells #[a, b] t)).alloc (.cells #[a', b'] t')) (.cells #[a'', b''] t'')
  rw [show ((w.alloc (.cells #[a, b] t)).alloc (.cells #[a', b'] t')).heap.size = w.heap.size + 2 from by simp] at h
  exact h
theorem duo3_new (w : World) (a b c : Value) (t : Nat) (a' b' c' : Value) (t' : Nat) :
    Box3 (((w.alloc (.cells #[a, b, c] t)).alloc (.cells #[a', b', c'] t')).drew) w.heap.size t a b c ∧ Box3 (((w.alloc (.cells #[a, b, c] t)).alloc (.cells #[a', b', c'] t')).drew) (w.heap.size + 1) t' a' b' c' ∧
    Below w.heap.size w (((w.alloc (.cells #[a, b, c] t)).alloc (.cells #[a', b', c'] t')).drew) := by
  refine ⟨⟨blk_drew (blk_alloc (heap_alloc_new w _) _)⟩, ⟨blk_drew ?_⟩, below_drew1 (below_alloc (below_alloc (Below.refl _ _) _) _)⟩
  have h := heap_alloc_new (w.alloc (.cells #[a, b, c] t)) (.cells #[a', b', c'] t')
  rw [show (w.alloc (.cells #[a, b, c] t)).heap.size = w.heap.size + 1 from by simp] at h
  exact h
theorem Row.of_V {α : Type} {d : Kd α} {e : Nat} {W : World} {base : Nat} {ok : Nat → Prop} {v : Value} {l : List α} (h : Kd.V d e W base ok v l) : ∃ A c, v = .slice A l.length c ∧ Row d W A c l := by
 obtain ⟨A, c, rfl⟩ := Kd.V_slice h
 exact ⟨A, c, rfl, (Kd.V_reads' h).2.1, (Kd.V_reads' h).2.2⟩
theorem Row.nil {α : Type} (d : Kd α) (W : World) : Row d W none 0 [] := ⟨Nat.le_refl _, rfl, Nat.zero_le _, fun h => absurd h (Nat.lt_irrefl 0)⟩
/-- Block g holds these cells. -/
structure Blk (W : World) (g t : Nat) (cs : Array Value) : Prop where
 get : W.heap[g]? = some (.cells cs t (0, 0))
theorem Blk.below {W W' : World} {g t : Nat} {cs : Array Value} (h : Blk W g t cs) (hb : Below W.heap.size W W') : Blk W' g t cs := ⟨blk_below h.get hb⟩
theorem Blk.c {W : World} {g t : Nat} {cs : Array Value} (h : Blk W g t cs) (i : Nat) : W.cell? ⟨g, i, none⟩ = cs[i]? := blk_cell h.get i
theorem Blk.at {W : World} {g t : Nat} {cs : Array Value} (h : Blk W g t cs) (i : Nat) {v : Value} (e : cs[i]? = some v) : W.cell? ⟨g, i, none⟩ = some v := (blk_cell h.get i).trans e
theorem blk_new1 (w : World) (t : Nat) (cs : Array Value) : Blk (w.alloc (.cells cs t)) w.heap.size t cs ∧ Below w.heap.size w (w.alloc (.cells cs t)) := ⟨⟨heap_alloc_new w _⟩, below_alloc (Below.refl _ _) _⟩
theorem Drawn0.below {w w' : World} (h : Drawn0 w w') : Below w.heap.size w w' := by
 obtain ⟨n, rfl⟩ := h.out
 exact pw_below_drewN (Below.refl _ _) _
theorem Blk.row {W : World} {g : Nat} {l : List Int} (h : Blk W g 3 (l.map (Value.int .i64)).toArray) (hl : l.length ≤ 9223372036854775807) : Row (Kd.int .i64) W (some ⟨g, 0, none⟩) l.length l := by
 refine ⟨Nat.le_refl _, rfl, hl, fun _ => ⟨_, rfl, fun j p hj => ⟨[.int .i64 p], rfl, rfl, fun i u hu => ?_⟩⟩⟩
 have ad : ∀ k : Nat, (⟨g, 0, none⟩ : Addr).add k = ⟨g, k, none⟩ := by intro k; unfold Addr.add; split <;> simp_all
 match i with
 | 0 =>
  obtain rfl : Value.int .i64 p = u := by simpa using hu
  rw [show (Kd.int .i64).sz = 1 from rfl, ad, h.c]
  simp [hj]
 | i + 1 => simp at hu
theorem Blk.row79 {W : World} {g : Nat} {x : S79} (h : Blk W g 79 #[.int .i64 x.f0, .int .i64 x.f1]) : Row k79 W (some ⟨g, 0, none⟩) 1 [x] := by
 refine ⟨Nat.le_refl _, rfl, by simp, fun _ => ⟨_, rfl, fun j p hj => ?_⟩⟩
 have ad : ∀ k : Nat, (⟨g, 0, none⟩ : Addr).add k = ⟨g, k, none⟩ := by intro k; unfold Addr.add; split <;> simp_all
 match j with
 | 0 =>
  obtain rfl : x = p := by simpa using hj
  refine ⟨[.int .i64 x.f0, .int .i64 x.f1], rfl, k79_mk W x, fun i u hu => ?_⟩
  rw [show k79.sz = 2 from rfl, ad, h.c]
  match i with
  | 0 => simpa using hu
  | 1 => simpa using hu
  | i + 2 => simp at hu
 | j + 1 => simp at hj
theorem size_alloc1 (w : World) (o : Obj) : (w.alloc o).heap.size = w.heap.size + 1 := by simp
theorem flat79 : Flat k79 := by
 intro w x cs h
 obtain rfl := k79_open h
 refine ⟨fun w' => k79_mk w' x, fun u hu => ?_⟩
 rcases List.mem_cons.mp hu with rfl | hu
 ·exact ⟨_, rfl⟩
 exact ⟨_, List.mem_singleton.mp hu⟩
theorem Blk.far {W : World} {g t : Nat} {cs : Array Value} (h : Blk W g t cs) {p : Addr} (hp : g ≠ p.block) (u : Value) : Blk (W.setCell p u) g t cs := ⟨blk_far h.get hp u⟩
theorem sl_ne (A : Option Addr) (n c : Nat) : ∀ k, Value.slice A n c ≠ .int .i64 k := fun _ e => by cases e
/-- What holds of a world and stays where the world grows. -/
class Mo (P : World → Prop) : Prop where
 mo : ∀ {W W' : World}, Below W.heap.size W W' → P W → P W'
theorem mo {P : World → Prop} [Mo P] {W W' : World} (hb : Below W.heap.size W W') (h : P W) : P W' := Mo.mo hb h
structure RowW {α : Type} (d : Kd α) (A : Option Addr) (c : Nat) (l : List α) (W : World) : Prop where
 r : Row d W A c l
structure BlkW (g t : Nat) (cs : Array Value) (W : World) : Prop where
 r : Blk W g t cs
structure EndW (w W : World) : Prop where
 r : Since w W
structure Two (P Q : World → Prop) (W : World) : Prop where
 l : P W
 r : Q W
instance {α : Type} {d : Kd α} {A : Option Addr} {c : Nat} {l : List α} : Mo (RowW d A c l) := ⟨fun hb h => ⟨h.r.below hb⟩⟩
instance {g t : Nat} {cs : Array Value} : Mo (BlkW g t cs) := ⟨fun hb h => ⟨h.r.below hb⟩⟩
instance {w : World} : Mo (EndW w) := ⟨fun hb h => ⟨h.r.step hb⟩⟩
instance {P Q : World → Prop} [Mo P] [Mo Q] : Mo (Two P Q) := ⟨fun hb h => ⟨mo hb h.l, mo hb h.r⟩⟩
theorem cR {α : Type} {d : Kd α} {A : Option Addr} {c : Nat} {l : List α} {W : World} {Q : World → Prop} (x : Row d W A c l) (y : Q W) : Two (RowW d A c l) Q W := ⟨⟨x⟩, y⟩
theorem cK {g t : Nat} {cs : Array Value} {W : World} {Q : World → Prop} (x : Blk W g t cs) (y : Q W) : Two (BlkW g t cs) Q W := ⟨⟨x⟩, y⟩
theorem cE {w W : World} (x : Since w W) : EndW w W := ⟨x⟩
theorem Blk.q2 {W : World} {g t : Nat} {a b : Value} (h : Blk W g t #[a, b]) : W.cell? ⟨g, 0, none⟩ = some a ∧ W.cell? ⟨g, 1, none⟩ = some b := ⟨h.at 0 rfl, h.at 1 rfl⟩
theorem Blk.q4 {W : World} {g t : Nat} {a b c d : Value} (h : Blk W g t #[a, b, c, d]) : W.cell? ⟨g, 0, none⟩ = some a ∧ W.cell? ⟨g, 1, none⟩ = some b ∧ W.cell? ⟨g, 2, none⟩ = some c ∧ W.cell? ⟨g, 3, none⟩ = some d := ⟨h.at 0 rfl, h.at 1 rfl, h.at 2 rfl, h.at 3 rfl⟩
theorem Blk.q6 {W : World} {g t : Nat} {a b c d e f : Value} (h : Blk W g t #[a, b, c, d, e, f]) : W.cell? ⟨g, 0, none⟩ = some a ∧ W.cell? ⟨g, 1, none⟩ = some b ∧ W.cell? ⟨g, 2, none⟩ = some c ∧ W.cell? ⟨g, 3, none⟩ = some d ∧ W.cell? ⟨g, 4, none⟩ = some e ∧ W.cell? ⟨g, 5, none⟩ = some f := ⟨h.at 0 rfl, h.at 1 rfl, h.at 2 rfl, h.at 3 rfl, h.at 4 rfl, h.at 5 rfl⟩
theorem Blk.q10 {W : World} {g t : Nat} {a b c d e f i j k l : Value} (h : Blk W g t #[a, b, c, d, e, f, i, j, k, l]) : W.cell? ⟨g, 0, none⟩ = some a ∧ W.cell? ⟨g, 1, none⟩ = some b ∧ W.cell? ⟨g, 2, none⟩ = some c ∧ W.cell? ⟨g, 3, none⟩ = some d ∧ W.cell? ⟨g, 4, none⟩ = some e ∧ W.cell? ⟨g, 5, none⟩ = some f ∧ W.cell? ⟨g, 6, none⟩ = some i ∧ W.cell? ⟨g, 7, none⟩ = some j ∧ W.cell? ⟨g, 8, none⟩ = some k ∧ W.cell? ⟨g, 9, none⟩ = some l := ⟨h.at 0 rfl, h.at 1 rfl, h.at 2 rfl, h.at 3 rfl, h.at 4 rfl, h.at 5 rfl, h.at 6 rfl, h.at 7 rfl, h.at 8 rfl, h.at 9 rfl⟩
theorem blk_new2 (w : World) (t : Nat) (cs : Array Value) (t' : Nat) (cs' : Array Value) : Blk ((w.alloc (.cells cs t)).alloc (.cells cs' t')) w.heap.size t cs ∧ Blk ((w.alloc (.cells cs t)).alloc (.cells cs' t')) (w.heap.size + 1) t' cs' ∧ Below w.heap.size w ((w.alloc (.cells cs t)).alloc (.cells cs' t')) := by
 obtain ⟨h1, h2⟩ := blk_new1 w t cs
 obtain ⟨h3, h4⟩ := blk_new1 (w.alloc (.cells cs t)) t' cs'
 rw [size_alloc1] at h3
 exact ⟨h1.below h4, h3, below_step h2 h4⟩
theorem blk_new3 (w : World) (t : Nat) (cs : Array Value) (t' : Nat) (cs' : Array Value) (t'' : Nat) (cs'' : Array Value) : Blk (((w.alloc (.cells cs t)).alloc (.cells cs' t')).alloc (.cells cs'' t'')) w.heap.size t cs ∧ Blk (((w.alloc (.cells cs t)).alloc (.cells cs' t')).alloc (.cells cs'' t'')) (w.heap.size + 1) t' cs' ∧ Blk (((w.alloc (.cells cs t)).alloc (.cells cs' t')).alloc (.cells cs'' t'')) (w.heap.size + 1 + 1) t'' cs'' ∧ Below w.heap.size w (((w.alloc (.cells cs t)).alloc (.cells cs' t')).alloc (.cells cs'' t'')) := by
 obtain ⟨h1, h2, h3⟩ := blk_new2 w t cs t' cs'
 obtain ⟨h4, h5⟩ := blk_new1 ((w.alloc (.cells cs t)).alloc (.cells cs' t')) t'' cs''
 rw [size_alloc1, size_alloc1] at h4
 exact ⟨h1.below h5, h2.below h5, h4, below_step h3 h5⟩
theorem nw5 (w : World) (t1 : Nat) (c1 : Array Value) (t2 : Nat) (c2 : Array Value) (t3 : Nat) (c3 : Array Value) (t4 : Nat) (c4 : Array Value) (t5 : Nat) (c5 : Array Value) : ∃ W, W = ((((w.alloc (.cells c1 t1)).alloc (.cells c2 t2)).alloc (.cells c3 t3)).alloc (.cells c4 t4)).alloc (.cells c5 t5) ∧ Blk W w.heap.size t1 c1 ∧ Blk W (w.heap.size + 1) t2 c2 ∧ Blk W (w.heap.size + 1 + 1) t3 c3 ∧ Blk W (w.heap.size + 1 + 1 + 1) t4 c4 ∧ Blk W (w.heap.size + 1 + 1 + 1 + 1) t5 c5 ∧ Below w.heap.size w W := by
 obtain ⟨h1, h2, h3, h4⟩ := blk_new3 w t1 c1 t2 c2 t3 c3
 obtain ⟨h5, h6, h7⟩ := blk_new2 (((w.alloc (.cells c1 t1)).alloc (.cells c2 t2)).alloc (.cells c3 t3)) t4 c4 t5 c5
 rw [size_alloc1, size_alloc1, size_alloc1] at h5 h6
 exact ⟨_, rfl, h1.below h7, h2.below h7, h3.below h7, h5, h6, below_step h4 h7⟩
theorem nw4 (w : World) (t1 : Nat) (c1 : Array Value) (t2 : Nat) (c2 : Array Value) (t3 : Nat) (c3 : Array Value) (t4 : Nat) (c4 : Array Value) : ∃ W, W = (((w.alloc (.cells c1 t1)).alloc (.cells c2 t2)).alloc (.cells c3 t3)).alloc (.cells c4 t4) ∧ Blk W w.heap.size t1 c1 ∧ Blk W (w.heap.size + 1) t2 c2 ∧ Blk W (w.heap.size + 1 + 1) t3 c3 ∧ Blk W (w.heap.size + 1 + 1 + 1) t4 c4 ∧ Below w.heap.size w W := by
 obtain ⟨h1, h2, h3, h4⟩ := blk_new3 w t1 c1 t2 c2 t3 c3
 obtain ⟨h5, h6⟩ := blk_new1 (((w.alloc (.cells c1 t1)).alloc (.cells c2 t2)).alloc (.cells c3 t3)) t4 c4
 rw [size_alloc1, size_alloc1, size_alloc1] at h5
 exact ⟨_, rfl, h1.below h6, h2.below h6, h3.below h6, h5, below_step h4 h6⟩
theorem nw1 (w : World) (t1 : Nat) (c1 : Array Value) : ∃ W, W = w.alloc (.cells c1 t1) ∧ Blk W w.heap.size t1 c1 ∧ Below w.heap.size w W := ⟨_, rfl, (blk_new1 w t1 c1).1, (blk_new1 w t1 c1).2⟩
theorem nw2 (w : World) (t1 : Nat) (c1 : Array Value) (t2 : Nat) (c2 : Array Value) : ∃ W, W = (w.alloc (.cells c1 t1)).alloc (.cells c2 t2) ∧ Blk W w.heap.size t1 c1 ∧ Blk W (w.heap.size + 1) t2 c2 ∧ Below w.heap.size w W := ⟨_, rfl, blk_new2 w t1 c1 t2 c2⟩
theorem nw3 (w : World) (t1 : Nat) (c1 : Array Value) (t2 : Nat) (c2 : Array Value) (t3 : Nat) (c3 : Array Value) : ∃ W, W = ((w.alloc (.cells c1 t1)).alloc (.cells c2 t2)).alloc (.cells c3 t3) ∧ Blk W w.heap.size t1 c1 ∧ Blk W (w.heap.size + 1) t2 c2 ∧ Blk W (w.heap.size + 1 + 1) t3 c3 ∧ Below w.heap.size w W := ⟨_, rfl, blk_new3 w t1 c1 t2 c2 t3 c3⟩
section
variable {P : Program} {ops : Array Oper} {Q : Exit → Act → World → Prop} {md : Region.Mode} {S : World → Prop} {ds : List Nat}
/-- 0: alone it may come up now, S behind it. 1: it yields in every world. 2: it yields where S holds. Else: alone it may come up, nothing behind it. -/
def wpPlan (P : Program) (ops : Array Oper) (Q : Exit → Act → World → Prop) (S : World → Prop) (E : Act → World → Prop) : List (Nat × Nat × Option Tmp) → Act → World → Prop
  | [], a, w => E a w
  | (i, k, N) :: r, a, w => match ops[i]? with
    | none => False
    | some o => o.dst = N ∧ match k with
      | 0 => ∀ K : Act → World → Prop, Shut (∀ a' w', S w' → (S w' → wpPlan P ops Q S E r a' w') → K a' w') → if Region.wanted o (yielded ops a.tmps) = true then Oper.wp P o a w K Q else K (a.put N undef) w
      | 1 => ∃ v, Yields P ops o v a ∧ wpPlan P ops Q S E r (a.put N v) w
      | 2 => S w ∧ ∃ v, YieldsIf P ops S o v a ∧ wpPlan P ops Q S E r (a.put N v) w
      | _ => ∀ K : Act → World → Prop, Shut (∀ a' w', wpPlan P ops Q S E r a' w' → K a' w') → if Region.wanted o (yielded ops a.tmps) = true then Oper.wp P o a w K Q else K (a.put N undef) w
def setAll : List Bool → List (Nat × Nat × Option Tmp) → List Bool
  | l, [] => l
  | l, (i, _, _) :: r => setAll (l.set i true) r
/-- B: what each operation waits for, as bits. -/
def planT (T : Bool × List (List Nat × List Nat)) (B : List Nat) (ds : List Nat) : List Bool → List (Nat × Nat × Option Tmp) → Bool
  | _, [] => true
  | l, (i, k, _) :: r => (match k with
    | 0 => (readyT T.2 l == [i]) && !ds.contains i
    | 1 => T.1 && freeT T.2 l i && readyAt T.2 l i
    | 2 => T.1 && freeT T.2 l i && readyAt T.2 l i && closedT T.2 l && lastW T.2 B l ds i
    | _ => (readyT T.2 l == [i]) && ds.contains i) && planT T B ds (l.set i true) r
theorem set_nil (l : List Bool) (i : Nat) : (l.toArray.setIfInBounds i true) = (l.set i true).toArray := by simp
theorem plan_sound {E : Act → World → Prop} {T : Bool × List (List Nat × List Nat)} {B : List Nat} {n : Nat} (hT : rtab md ops = T) (hB : waitsOk T.2 B = true) (hQ : ∀ c a d v w, Q (.panic c) (a.put d v) w → Q (.panic c) a w) :
    ∀ (idx : List (Nat × Nat × Option Tmp)) (l : List Bool) (a : Act) (w : World), planT T B ds l idx = true → (∀ a w, E a w → wpAnyLast P md ops Q S ds n (setAll l idx).toArray a w) → wpPlan P ops Q S E idx a w → wpAnyLast P md ops Q S ds (n + idx.length) l.toArray a w := by
  intro idx
  induction idx with
  | nil =>
    intro l a w _ hE h
    exact hE a w h
  | cons x r ih =>
    obtain ⟨i, k, N⟩ := x
    intro l a w hc hE h
    simp only [planT, Bool.and_eq_true] at hc
    obtain ⟨hc, hr⟩ := hc
    have ih' := fun a w => ih (l.set i true) a w hr hE
    rw [← set_nil] at ih'
    unfold wpPlan at h
    rw [List.length_cons, ← Nat.add_assoc]
    cases ho : ops[i]? with
    | none => rw [ho] at h; exact h.elim
    | some o =>
      rw [ho] at h
      simp only at h
      obtain ⟨hN, h⟩ := h
      match k, hc, h with
      | 0, hc, h =>
        simp only [Bool.and_eq_true] at hc
        exact one_ (l.toArray.setIfInBounds i true) ho hN (one_of hT (by rw [hc.1, Array.toList_setIfInBounds]; simp)) (by simpa using hc.2) (fun K hK => h K (fun a1 w1 hS hP => hK.out a1 w1 hS (fun h1 => ih' _ _ (hP h1))))
      | 1, hc, h =>
        simp only [Bool.and_eq_true] at hc
        obtain ⟨v, hy, h⟩ := h
        exact pure_ (l.toArray.setIfInBounds i true) ho hN (any_of hT (by simp only [anyT, Bool.and_eq_true]; exact ⟨⟨⟨hc.1.1, hc.1.2⟩, hc.2⟩, by simp⟩)) (fun c a w => hQ c a _ _ w) hy rfl (ih' _ _ h)
      | 2, hc, h =>
        simp only [Bool.and_eq_true] at hc
        obtain ⟨hS, v, hy, h⟩ := h
        exact take_ (l.toArray.setIfInBounds i true) ho hN (take_ofW hT hB (by simp only [takeW, Bool.and_eq_true]; exact ⟨⟨⟨⟨⟨hc.1.1.1.1, hc.1.1.1.2⟩, hc.1.1.2⟩, hc.1.2⟩, hc.2⟩, by simp⟩)) (fun c a w => hQ c a _ _ w) hy hS rfl (ih' _ _ h)
      | k + 3, hc, h =>
        simp only [Bool.and_eq_true] at hc
        exact last_ (l.toArray.setIfInBounds i true) ho hN (one_of hT (by rw [hc.1, Array.toList_setIfInBounds]; simp)) (by simpa using hc.2) (fun K hK => h K (fun a1 w1 hP => hK.out a1 w1 (ih' _ _ hP)))
/-- The region, by a plan of all its operations. -/
theorem plan_ {id : Nat} {a : Act} {w : World} (S : World → Prop) (ds : List Nat) (idx : List (Nat × Nat × Option Tmp)) (T : Bool × List (List Nat × List Nat)) (B : List Nat) (hT : rtab .any ops = T) (hB : waitsOk T.2 B = true) (hm : P.follows .mixedOrders = true) (hn : (ops.size == idx.length) = true)
    (hc : planT T B ds (List.replicate idx.length false) idx = true) (he : (readyT T.2 (setAll (List.replicate idx.length false) idx) == []) = true) (hQ : ∀ c a d v w, Q (.panic c) (a.put d v) w → Q (.panic c) a w) (h : wpPlan P ops Q S (Q .normal) idx a w.drew) : (Code.region id ops true).wp P Q a w := by
  refine wp_region_last (S := S) (ds := ds) hm ?_
  rw [beq_iff_eq] at hn
  rw [hn]
  have := plan_sound (P := P) (S := S) (ds := ds) (n := 0) hT hB hQ idx (List.replicate idx.length false) a w.drew hc (fun a w h => done_ (done_of hT (by simpa using he)) h) h
  simpa using this
/-- The region's first operations by a plan. -/
theorem plan_pre {id : Nat} {a : Act} {w : World} (S : World → Prop) (ds : List Nat) (idx : List (Nat × Nat × Option Tmp)) (n : Nat) (T : Bool × List (List Nat × List Nat)) (B : List Nat) (hT : rtab .any ops = T) (hB : waitsOk T.2 B = true) (hm : P.follows .mixedOrders = true) (hn : (ops.size == n + idx.length) = true)
    (hc : planT T B ds (List.replicate (n + idx.length) false) idx = true) (hQ : ∀ c a d v w, Q (.panic c) (a.put d v) w → Q (.panic c) a w) (h : wpPlan P ops Q S (fun a w => wpAnyLast P .any ops Q S ds n (setAll (List.replicate (n + idx.length) false) idx).toArray a w) idx a w.drew) : (Code.region id ops true).wp P Q a w := by
  refine wp_region_last (S := S) (ds := ds) hm ?_
  rw [beq_iff_eq] at hn
  rw [hn]
  have := plan_sound (P := P) (S := S) (ds := ds) (n := n) hT hB hQ idx (List.replicate (n + idx.length) false) a w.drew hc (fun a w h => h) h
  simpa using this
/-- Its last ones. -/
theorem plan_post {a : Act} {w : World} {l : List Bool} {n : Nat} (idx : List (Nat × Nat × Option Tmp)) (T : Bool × List (List Nat × List Nat)) (B : List Nat) (hT : rtab md ops = T) (hB : waitsOk T.2 B = true) (hn : (n == idx.length) = true)
    (hc : planT T B ds l idx = true) (he : (readyT T.2 (setAll l idx) == []) = true) (hQ : ∀ c a d v w, Q (.panic c) (a.put d v) w → Q (.panic c) a w) (h : wpPlan P ops Q S (Q .normal) idx a w) : wpAnyLast P md ops Q S ds n l.toArray a w := by
  rw [beq_iff_eq] at hn
  rw [hn]
  have := plan_sound (P := P) (S := S) (ds := ds) (n := 0) hT hB hQ idx l a w hc (fun a w h => done_ (done_of hT (by simpa using he)) h) h
  simpa using this
section
variable {E : Act → World → Prop}
theorem pl1 {i : Nat} {N : Option Tmp} {o : Oper} {v : Value} {r : List (Nat × Nat × Option Tmp)} {a : Act} {w : World} (ho : ops[i]? = some o) (hN : o.dst = N) (hy : Yields P ops o v a) {a' : Act} (ha : a.put N v = a') (h : wpPlan P ops Q S E r a' w) : wpPlan P ops Q S E ((i, 1, N) :: r) a w := by
  subst ha
  unfold wpPlan
  rw [ho]
  exact ⟨hN, v, hy, h⟩
theorem pl2 {i : Nat} {N : Option Tmp} {o : Oper} {v : Value} {r : List (Nat × Nat × Option Tmp)} {a : Act} {w : World} (ho : ops[i]? = some o) (hN : o.dst = N) (hS : S w) (hy : YieldsIf P ops S o v a) {a' : Act} (ha : a.put N v = a') (h : wpPlan P ops Q S E r a' w) : wpPlan P ops Q S E ((i, 2, N) :: r) a w := by
  subst ha
  unfold wpPlan
  rw [ho]
  exact ⟨hN, hS, v, hy, h⟩
theorem pl0 {i : Nat} {o : Oper} {N : Option Tmp} {r : List (Nat × Nat × Option Tmp)} {a : Act} {w : World} (ho : ops[i]? = some o) (hN : o.dst = N)
    (h : ∀ K : Act → World → Prop, Shut (∀ a' w', S w' → (S w' → wpPlan P ops Q S E r a' w') → K a' w') → if Region.wanted o (yielded ops a.tmps) = true then Oper.wp P o a w K Q else K (a.put N undef) w) : wpPlan P ops Q S E ((i, 0, N) :: r) a w := by
  unfold wpPlan
  rw [ho]
  exact ⟨hN, h⟩
theorem pl3 {i : Nat} {o : Oper} {N : Option Tmp} {r : List (Nat × Nat × Option Tmp)} {a : Act} {w : World} (ho : ops[i]? = some o) (hN : o.dst = N)
    (h : ∀ K : Act → World → Prop, Shut (∀ a' w', wpPlan P ops Q S E r a' w' → K a' w') → if Region.wanted o (yielded ops a.tmps) = true then Oper.wp P o a w K Q else K (a.put N undef) w) : wpPlan P ops Q S E ((i, 3, N) :: r) a w := by
  unfold wpPlan
  rw [ho]
  exact ⟨hN, h⟩
theorem plN {r : List (Nat × Nat × Option Tmp)} {a a' : Act} {w : World} (ha : a = a') (h : wpPlan P ops Q S E r a' w) : wpPlan P ops Q S E r a w := by
  subst ha
  exact h
theorem pl_end {a : Act} {w : World} (h : E a w) : wpPlan P ops Q S E [] a w := h
end
end
theorem Since.c {W W' : World} {a : Addr} {v : Value} (h : Since W W') (hc : W.cell? a = some v) : W'.cell? a = some v := (Below.cell h.get (World.block_lt_of_cell? _ _ hc)).trans hc
theorem Blk.row94 {W : World} {g : Nat} {x : S94} (h : Blk W g 94 #[.int .i64 x.f0, .int .i64 x.f1, .int .i64 x.f2]) : Row k94 W (some ⟨g, 0, none⟩) 1 [x] := by
  refine ⟨Nat.le_refl _, rfl, by simp, fun _ => ⟨_, rfl, fun j p hj => ?_⟩⟩
  have ad : ∀ k : Nat, (⟨g, 0, none⟩ : Addr).add k = ⟨g, k, none⟩ := by intro k; unfold Addr.add; split <;> simp_all
  match j with
  | 0 =>
    obtain rfl : x = p := by simpa using hj
    refine ⟨[.int .i64 x.f0, .int .i64 x.f1, .int .i64 x.f2], rfl, k94_mk W x, fun i u hu => ?_⟩
    rw [show k94.sz = 3 from rfl, ad, h.c]
    match i with
    | 0 => simpa using hu
    | 1 => simpa using hu
    | 2 => simpa using hu
    | i + 3 => simp at hu
  | j + 1 => simp at hj
/-- None of these cells is a number. -/
def NoInt (cs : List Value) : Prop := ∀ u ∈ cs, ∀ n, u ≠ .int .i64 n
theorem noInt_nil : NoInt [] := fun _ h => by cases h
theorem noInt_cons (A : Option Addr) (n c : Nat) {cs : List Value} (h : NoInt cs) : NoInt (.slice A n c :: cs) := fun u hu => by
  rcases List.mem_cons.mp hu with rfl | hu
  · exact sl_ne _ _ _
  · exact h u hu
theorem noInt_set {cs : List Value} (h : NoInt cs) {v : Value} (hv : ∀ n, v ≠ .int .i64 n) (j : Nat) : NoInt (cs.set j v) := fun u hu => by
  rcases List.mem_or_eq_of_mem_set hu with hu | rfl
  · exact h u hu
  · exact hv
theorem Vr.farB {α : Type} {d : Kd α} (hd : Flat d) {W : World} {u : Value} {l : List α} (h : Vr d W u l) {g t : Nat} {cs : Array Value} (hb : Blk W g t cs) (hn : NoInt cs.toList) (j : Nat) (v : Value) : Vr d (W.setCell ⟨g, j, none⟩ v) u l := by
  obtain ⟨A, c, e, r⟩ := h.get
  refine ⟨A, c, e, r.cap, r.at_.1, r.at_.2.1, fun hn' => ?_⟩
  obtain ⟨ad, e, hc⟩ := r.at_.2.2 hn'
  refine ⟨ad, e, fun i p hp => ?_⟩
  obtain ⟨cs', h1, h2, h3⟩ := hc i p hp
  obtain ⟨f1, f2⟩ := hd _ _ _ h2
  refine ⟨cs', h1, f1 _, fun k u hu => ?_⟩
  have h4 := h3 k u hu
  rw [cell_far ?_]
  · exact h4
  · intro hg
    have hm := cell_in h4 (by rw [show (ad.add (i * d.sz + k)).block = g from hg]; exact hb.get)
    obtain ⟨n, rfl⟩ := f2 u (List.mem_of_getElem? hu)
    exact hn _ hm n rfl
/-- What holds of a world and stays where a variable without numbers is written. -/
class Fa (P : World → Prop) : Prop where
  fa : ∀ {W : World} {g t : Nat} {cs : Array Value}, Blk W g t cs → NoInt cs.toList → ∀ (j : Nat) (v : Value), P W → P (W.setCell ⟨g, j, none⟩ v)
structure VrW {α : Type} (d : Kd α) (v : Value) (l : List α) (W : World) : Prop where
  r : Vr d W v l
instance {α : Type} {d : Kd α} {v : Value} {l : List α} : Mo (VrW d v l) := ⟨fun hb h => ⟨h.r.below hb⟩⟩
instance {v : Value} {l : List Int} : Fa (VrW (Kd.int .i64) v l) := ⟨fun hb hn j u h => ⟨h.r.farB flat_int hb hn j u⟩⟩
instance {v : Value} {l : List S94} : Fa (VrW k94 v l) := ⟨fun hb hn j u h => ⟨h.r.farB flat38 hb hn j u⟩⟩
instance {v : Value} {l : List S79} : Fa (VrW k79 v l) := ⟨fun hb hn j u h => ⟨h.r.farB flat79 hb hn j u⟩⟩
instance {P Q : World → Prop} [Fa P] [Fa Q] : Fa (Two P Q) := ⟨fun hb hn j v h => ⟨Fa.fa hb hn j v h.l, Fa.fa hb hn j v h.r⟩⟩
structure TrueW (W : World) : Prop where
  r : True
instance : Mo TrueW := ⟨fun _ _ => ⟨trivial⟩⟩
instance : Fa TrueW := ⟨fun _ _ _ _ _ => ⟨trivial⟩⟩
theorem cV {α : Type} {d : Kd α} {v : Value} {l : List α} {W : World} {Q : World → Prop} (x : Vr d W v l) (y : Q W) : Two (VrW d v l) Q W := ⟨⟨x⟩, y⟩
/-- Slices. -/
def Slc : List Value → Prop
  | [] => True
  | v :: r => (∃ A n c, v = .slice A n c) ∧ Slc r
theorem Slc.no : ∀ {vs : List Value}, Slc vs → NoInt vs
  | [], _ => noInt_nil
  | v :: r, h => fun u hu => by
    rcases List.mem_cons.mp hu with rfl | hu
    · obtain ⟨⟨A, n, c, rfl⟩, _⟩ := h
      exact sl_ne _ _ _
    · exact Slc.no h.2 u hu
theorem Slc.one : ∀ {vs : List Value}, Slc vs → ∀ u ∈ vs, u.oneCell' = true
  | [], _ => fun _ h => by cases h
  | v :: r, h => fun u hu => by
    rcases List.mem_cons.mp hu with rfl | hu
    · obtain ⟨⟨A, n, c, rfl⟩, _⟩ := h
      rfl
    · exact Slc.one h.2 u hu
def fillL (cs : List Value) : Nat → List Value → List Value
  | _, [] => cs
  | j, v :: r => fillL (cs.set j v) (j + 1) r
theorem fill_all {P : World → Prop} [Fa P] {w W : World} {g t : Nat} {cs : List Value} (h : P W) (hb : Blk W g t cs.toArray) (hn : NoInt cs) (hs : Since w W) (hg : w.heap.size ≤ g) :
    ∀ (vs : List Value) (j : Nat), NoInt vs → P (W.setCells g j vs) ∧ Blk (W.setCells g j vs) g t (fillL cs j vs).toArray ∧ Since w (W.setCells g j vs) := by
  intro vs
  induction vs generalizing W cs with
  | nil => intro j _; exact ⟨h, hb, hs⟩
  | cons v r ih =>
    intro j hv
    have h1 : NoInt (cs.set j v) := noInt_set hn (hv v List.mem_cons_self) j
    exact ih (Fa.fa hb (by simpa using hn) j v h) ⟨blk_put hb.get j v (by simp)⟩ h1 (hs.put hg v) (j + 1) (fun u hu => hv u (List.mem_cons_of_mem _ hu))
theorem there_of {W : World} {g t : Nat} {cs : List Value} (hb : Blk W g t cs.toArray) {j n : Nat} (h : j + n ≤ cs.length) : W.there g j n := fun k hk => by
  refine ⟨?_, blk_frozen hb.get _⟩
  rw [hb.c]
  simp
  omega
/-- Slices are stored into variable g, from cell j on. -/
theorem wpl_store {P : Program} {ops : Array Oper} {rest : List Oper} {op : Oper} {a : Act} {w W : World} {Q : Exit → Act → World → Prop} {F : World → Prop} [Fa F] (hgd : op.guard = none) (hN : op.dst = none) (ty : TypeId) (x y : Operand) (ho : op.op = .store ty x y)
    (g j t : Nat) (cs vs : List Value) (hx : a.eval x = .pointer (some ⟨g, j, none⟩)) (hy : a.eval y = .agg vs.toArray) (hi : (P.info? ty).map (·.size) = some vs.length) (hv : Slc vs) (hb : Blk W g t cs.toArray) (hc : Slc cs) (hl : j + vs.length ≤ cs.length) (hF : F W) (hs : Since w W) (hg : w.heap.size ≤ g)
    (h : ∀ W', F W' → Blk W' g t (fillL cs j vs).toArray → Since w W' → wpList P ops Q rest a W') : wpList P ops Q (op :: rest) a W := by
  refine wpList_store_mid hgd ty x y ho g j vs.toArray hx hy (there_of hb hl) (by simpa using hi) (by simpa using hv.one) ?_
  rw [hN]
  obtain ⟨h1, h2, h3⟩ := fill_all hF hb hc.no hs hg vs j hv.no
  exact h _ h1 h2 h3
/-- Two values are not rows of one block. -/
def Ap (u v : Value) : Prop := ∀ k, u.ownBlock = some k → v.ownBlock ≠ some k
theorem Ap.symm {u v : Value} (h : Ap u v) : Ap v u := fun k h1 h2 => h k h2 h1
theorem ap_nil (v : Value) (n c : Nat) : Ap (.slice none n c) v := fun k h => by simp [Value.ownBlock] at h
theorem ap_grown {α : Type} {d : Kd α} {e base : Nat} {ok : Nat → Prop} {W : World} {c u v1 : Value} {xs : List α} (h : Ap c u) (hu : Kd.R d e W base ok u xs) (hat : v1.ownBlock = c.ownBlock ∨ ∃ b, v1.ownBlock = some b ∧ W.heap.size ≤ b) : Ap v1 u := by
  intro k h1 h2
  rcases hat with e | ⟨b, e, hb⟩
  · exact h k (e ▸ h1) h2
  · rw [e] at h1
    cases h1
    have := Kd.R_lt hu _ h2
    omega
theorem ap_ne {c u : Value} (h : Ap c u) : ∀ k, c.ownBlock = some k → some k ≠ u.ownBlock := fun k h1 h2 => h k h1 h2.symm
/-- Variables g (a graph) and m (a morphism): b.. what they hold, c.. the rows as they grow, l.. what these rows read as. -/
structure Ov (W1 : World) (g m : Nat) (bN bE bM bF cN cE cM cF : Value) (lN : List Int) (lE : List S94) (lM lF : List Int) (W : World) : Prop where
  sb : Since W1 W
  bg : Box2 W g 25 bN bE
  bm : Box2 W m 27 bM bF
  hg : W1.heap.size ≤ g
  hm : W1.heap.size ≤ m
  oN : Kd.R (Kd.int .i64) 3 W W1.heap.size (fun _ => True) cN lN
  oE : Kd.R k94 94 W W1.heap.size (fun _ => True) cE lE
  oM : Kd.R (Kd.int .i64) 3 W W1.heap.size (fun _ => True) cM lM
  oF : Kd.R (Kd.int .i64) 3 W W1.heap.size (fun _ => True) cF lF
  aNM : Ap cN cM
  aNF : Ap cN cF
  aMF : Ap cM cF
section
variable {W1 W W' : World} {g m : Nat} {bN bE bM bF cN cE cM cF v1 : Value} {lN lM lF : List Int} {lE : List S94}
theorem Ov.below (h : Ov W1 g m bN bE bM bF cN cE cM cF lN lE lM lF W) (hb : Below W.heap.size W W') : Ov W1 g m bN bE bM bF cN cE cM cF lN lE lM lF W' :=
  ⟨h.sb.step hb, h.bg.below hb, h.bm.below hb, h.hg, h.hm, Kd.R_below h.oN hb, Kd.R_below h.oE hb, Kd.R_below h.oM hb, Kd.R_below h.oF hb, h.aNM, h.aNF, h.aMF⟩
theorem Ov.appN {l' : List Int} (h : Ov W1 g m bN bE bM bF cN cE cM cF lN lE lM lF W) (ho : Kd.R (Kd.int .i64) 3 W' W1.heap.size (fun _ => True) v1 l') (hb : Below W1.heap.size W1 W') (hg : W.grownBy W' cN.ownBlock) (hat : v1.ownBlock = cN.ownBlock ∨ ∃ b, v1.ownBlock = some b ∧ W.heap.size ≤ b) : Ov W1 g m bN bE bM bF v1 cE cM cF l' lE lM lF W' :=
  ⟨⟨hb⟩, ⟨blk_grown h.bg.get hg (Kd.R_ne h.oN h.bg.get (by decide))⟩, ⟨blk_grown h.bm.get hg (Kd.R_ne h.oN h.bm.get (by decide))⟩, h.hg, h.hm, ho, Kd.R_over h.oE h.oN (by decide) hg, Kd.R_grown2 h.oM rfl hg (ap_ne h.aNM), Kd.R_grown2 h.oF rfl hg (ap_ne h.aNF), ap_grown h.aNM h.oM hat, ap_grown h.aNF h.oF hat, h.aMF⟩
theorem Ov.appM {l' : List Int} (h : Ov W1 g m bN bE bM bF cN cE cM cF lN lE lM lF W) (ho : Kd.R (Kd.int .i64) 3 W' W1.heap.size (fun _ => True) v1 l') (hb : Below W1.heap.size W1 W') (hg : W.grownBy W' cM.ownBlock) (hat : v1.ownBlock = cM.ownBlock ∨ ∃ b, v1.ownBlock = some b ∧ W.heap.size ≤ b) : Ov W1 g m bN bE bM bF cN cE v1 cF lN lE l' lF W' :=
  ⟨⟨hb⟩, ⟨blk_grown h.bg.get hg (Kd.R_ne h.oM h.bg.get (by decide))⟩, ⟨blk_grown h.bm.get hg (Kd.R_ne h.oM h.bm.get (by decide))⟩, h.hg, h.hm, Kd.R_grown2 h.oN rfl hg (ap_ne h.aNM.symm), Kd.R_over h.oE h.oM (by decide) hg, ho, Kd.R_grown2 h.oF rfl hg (ap_ne h.aMF), (ap_grown h.aNM.symm h.oN hat).symm, h.aNF, ap_grown h.aMF h.oF hat⟩
theorem Ov.appF {l' : List Int} (h : Ov W1 g m bN bE bM bF cN cE cM cF lN lE lM lF W) (ho : Kd.R (Kd.int .i64) 3 W' W1.heap.size (fun _ => True) v1 l') (hb : Below W1.heap.size W1 W') (hg : W.grownBy W' cF.ownBlock) (hat : v1.ownBlock = cF.ownBlock ∨ ∃ b, v1.ownBlock = some b ∧ W.heap.size ≤ b) : Ov W1 g m bN bE bM bF cN cE cM v1 lN lE lM l' W' :=
  ⟨⟨hb⟩, ⟨blk_grown h.bg.get hg (Kd.R_ne h.oF h.bg.get (by decide))⟩, ⟨blk_grown h.bm.get hg (Kd.R_ne h.oF h.bm.get (by decide))⟩, h.hg, h.hm, Kd.R_grown2 h.oN rfl hg (ap_ne h.aNF.symm), Kd.R_over h.oE h.oF (by decide) hg, Kd.R_grown2 h.oM rfl hg (ap_ne h.aMF.symm), ho, h.aNM, (ap_grown h.aNF.symm h.oN hat).symm, (ap_grown h.aMF.symm h.oM hat).symm⟩
theorem Ov.appE {l' : List S94} (h : Ov W1 g m bN bE bM bF cN cE cM cF lN lE lM lF W) (ho : Kd.R k94 94 W' W1.heap.size (fun _ => True) v1 l') (hb : Below W1.heap.size W1 W') (hg : W.grownBy W' cE.ownBlock) : Ov W1 g m bN bE bM bF cN v1 cM cF lN l' lM lF W' :=
  ⟨⟨hb⟩, ⟨blk_grown h.bg.get hg (Kd.R_ne h.oE h.bg.get (by decide))⟩, ⟨blk_grown h.bm.get hg (Kd.R_ne h.oE h.bm.get (by decide))⟩, h.hg, h.hm, Kd.R_over h.oN h.oE (by decide) hg, ho, Kd.R_over h.oM h.oE (by decide) hg, Kd.R_over h.oF h.oE (by decide) hg, h.aNM, h.aNF, h.aMF⟩
theorem Ov.ne (h : Ov W1 g m bN bE bM bF cN cE cM cF lN lE lM lF W) : m ≠ g := blk_ne h.bm.get h.bg.get (by decide)
theorem Ov.put0 (h : Ov W1 g m bN bE bM bF cN cE cM cF lN lE lM lF W) (v : Value) : Ov W1 g m v bE bM bF cN cE cM cF lN lE lM lF (W.setCell ⟨g, 0, none⟩ v) :=
  ⟨h.sb.put h.hg v, h.bg.put0 v, h.bm.far (p := ⟨g, 0, none⟩) h.ne v, h.hg, h.hm, Kd.R_set h.oN h.bg.get (by decide) 0 v, Kd.R_set h.oE h.bg.get (by decide) 0 v, Kd.R_set h.oM h.bg.get (by decide) 0 v, Kd.R_set h.oF h.bg.get (by decide) 0 v, h.aNM, h.aNF, h.aMF⟩
theorem Ov.put1 (h : Ov W1 g m bN bE bM bF cN cE cM cF lN lE lM lF W) (v : Value) : Ov W1 g m bN v bM bF cN cE cM cF lN lE lM lF (W.setCell ⟨g, 1, none⟩ v) :=
  ⟨h.sb.put h.hg v, h.bg.put1 v, h.bm.far (p := ⟨g, 1, none⟩) h.ne v, h.hg, h.hm, Kd.R_set h.oN h.bg.get (by decide) 1 v, Kd.R_set h.oE h.bg.get (by decide) 1 v, Kd.R_set h.oM h.bg.get (by decide) 1 v, Kd.R_set h.oF h.bg.get (by decide) 1 v, h.aNM, h.aNF, h.aMF⟩
theorem Ov.put2 (h : Ov W1 g m bN bE bM bF cN cE cM cF lN lE lM lF W) (v : Value) : Ov W1 g m bN bE v bF cN cE cM cF lN lE lM lF (W.setCell ⟨m, 0, none⟩ v) :=
  ⟨h.sb.put h.hm v, h.bg.far (p := ⟨m, 0, none⟩) h.ne.symm v, h.bm.put0 v, h.hg, h.hm, Kd.R_set h.oN h.bm.get (by decide) 0 v, Kd.R_set h.oE h.bm.get (by decide) 0 v, Kd.R_set h.oM h.bm.get (by decide) 0 v, Kd.R_set h.oF h.bm.get (by decide) 0 v, h.aNM, h.aNF, h.aMF⟩
theorem Ov.put3 (h : Ov W1 g m bN bE bM bF cN cE cM cF lN lE lM lF W) (v : Value) : Ov W1 g m bN bE bM v cN cE cM cF lN lE lM lF (W.setCell ⟨m, 1, none⟩ v) :=
  ⟨h.sb.put h.hm v, h.bg.far (p := ⟨m, 1, none⟩) h.ne.symm v, h.bm.put1 v, h.hg, h.hm, Kd.R_set h.oN h.bm.get (by decide) 1 v, Kd.R_set h.oE h.bm.get (by decide) 1 v, Kd.R_set h.oM h.bm.get (by decide) 1 v, Kd.R_set h.oF h.bm.get (by decide) 1 v, h.aNM, h.aNF, h.aMF⟩
end
/-- Slices are stored into variable g, from cell j on: one step of a region that draws. -/
theorem opl_store {P : Program} {ops : Array Oper} {op : Oper} {a : Act} {w W : World} {Q : Exit → Act → World → Prop} {K : Act → World → Prop} {F : World → Prop} [Fa F] (hw : Region.wanted op (yielded ops a.tmps) = true) (hN : op.dst = none) (ty : TypeId) (x y : Operand) (ho : op.op = .store ty x y)
    (g j t : Nat) (cs vs : List Value) (hx : a.eval x = .pointer (some ⟨g, j, none⟩)) (hy : a.eval y = .agg vs.toArray) (hi : (P.info? ty).map (·.size) = some vs.length) (hv : Slc vs) (hb : Blk W g t cs.toArray) (hc : Slc cs) (hl : j + vs.length ≤ cs.length) (hF : F W) (hs : Since w W) (hg : w.heap.size ≤ g)
    (h : ∀ W', F W' → Blk W' g t (fillL cs j vs).toArray → Since w W' → K a W') : if Region.wanted op (yielded ops a.tmps) = true then Oper.wp P op a W K Q else K (a.put none undef) W := by
  rw [if_pos hw]
  refine wp_store_mid ty x y ho g j vs.toArray hx hy (there_of hb hl) (by simpa using hi) (by simpa using hv.one) ?_
  rw [hN]
  obtain ⟨h1, h2, h3⟩ := fill_all hF hb hc.no hs hg vs j hv.no
  exact h _ h1 h2 h3
theorem R_cells {α : Type} {d : Kd α} {e base g t : Nat} {ok : Nat → Prop} {v : Value} {xs : List α} (ht : ∀ q, q ∈ e :: d.E → q ≠ t) : ∀ (vs : List Value) (j : Nat) {W : World} {cs : Array Value}, Kd.R d e W base ok v xs → W.heap[g]? = some (.cells cs t (0, 0)) → Kd.R d e (W.setCells g j vs) base ok v xs
  | [], _, _, _, h, _ => h
  | u :: r, j, W, cs, h, hb => R_cells ht r (j + 1) (Kd.R_set h hb ht j u) (blk_put hb j u rfl)
theorem opl_storeE {P : Program} {ops : Array Oper} {op : Oper} {a : Act} {w W : World} {Q : Exit → Act → World → Prop} {K : Act → World → Prop} (hw : Region.wanted op (yielded ops a.tmps) = true) (hN : op.dst = none) (ty : TypeId) (x y : Operand) (ho : op.op = .store ty x y)
    (g j t : Nat) (cs vs : List Value) (hx : a.eval x = .pointer (some ⟨g, j, none⟩)) (hy : a.eval y = .agg vs.toArray) (hi : (P.info? ty).map (·.size) = some vs.length) (hv : Slc vs) (hb : Blk W g t cs.toArray) (hc : Slc cs) (hl : j + vs.length ≤ cs.length) (hs : Since w W) (hg : w.heap.size ≤ g)
    (h : ∀ W', W' = W.setCells g j vs → Blk W' g t (fillL cs j vs).toArray → Since w W' → K a W') : if Region.wanted op (yielded ops a.tmps) = true then Oper.wp P op a W K Q else K (a.put none undef) W := by
  rw [if_pos hw]
  refine wp_store_mid ty x y ho g j vs.toArray hx hy (there_of hb hl) (by simpa using hi) (by simpa using hv.one) ?_
  rw [hN]
  obtain ⟨h1, h2, h3⟩ := fill_all (P := TrueW) ⟨trivial⟩ hb hc.no hs hg vs j hv.no
  exact h _ rfl h2 h3
theorem wpl_storeE {P : Program} {ops : Array Oper} {rest : List Oper} {op : Oper} {a : Act} {w W : World} {Q : Exit → Act → World → Prop} (hgd : op.guard = none) (hN : op.dst = none) (ty : TypeId) (x y : Operand) (ho : op.op = .store ty x y)
    (g j t : Nat) (cs vs : List Value) (hx : a.eval x = .pointer (some ⟨g, j, none⟩)) (hy : a.eval y = .agg vs.toArray) (hi : (P.info? ty).map (·.size) = some vs.length) (hv : Slc vs) (hb : Blk W g t cs.toArray) (hc : Slc cs) (hl : j + vs.length ≤ cs.length) (hs : Since w W) (hg : w.heap.size ≤ g)
    (h : ∀ W', W' = W.setCells g j vs → Blk W' g t (fillL cs j vs).toArray → Since w W' → wpList P ops Q rest a W') : wpList P ops Q (op :: rest) a W := by
  refine wpList_store_mid hgd ty x y ho g j vs.toArray hx hy (there_of hb hl) (by simpa using hi) (by simpa using hv.one) ?_
  rw [hN]
  obtain ⟨h1, h2, h3⟩ := fill_all (P := TrueW) ⟨trivial⟩ hb hc.no hs hg vs j hv.no
  exact h _ rfl h2 h3
theorem take_map {β : Type} (f : S79 → β) (P : List S79) (i : Nat) (h : i < P.length) : (P.take i).map f ++ [f (rd_T79 P (i : Int))] = (P.take (i + 1)).map f := by
  rw [List.take_add_one, List.getElem?_eq_getElem h, List.map_append]
  unfold rd_T79
  rw [Int.toNat_natCast, List.getD_eq_getElem?_getD, List.getElem?_eq_getElem h]
  rfl
theorem Blk.put3 {W : World} {g t : Nat} {a b c : Value} (h : Blk W g t #[a, b, c]) (u v x : Value) : Blk (((W.setCell ⟨g, 0, none⟩ u).setCell ⟨g, 1, none⟩ v).setCell ⟨g, 2, none⟩ x) g t #[u, v, x] := ⟨blk_put (blk_put (blk_put h.get 0 u rfl) 1 v rfl) 2 x rfl⟩
theorem Blk.far3 {W : World} {g g' t : Nat} {cs : Array Value} (h : Blk W g t cs) (hp : g ≠ g') (u v x : Value) : Blk (((W.setCell ⟨g', 0, none⟩ u).setCell ⟨g', 1, none⟩ v).setCell ⟨g', 2, none⟩ x) g t cs := Blk.far (p := ⟨g', 2, none⟩) (Blk.far (p := ⟨g', 1, none⟩) (Blk.far (p := ⟨g', 0, none⟩) h hp u) hp v) hp x
theorem Since.put3 {W W' : World} (h : Since W W') {g : Nat} (hg : W.heap.size ≤ g) (u v x : Value) : Since W (((W'.setCell ⟨g, 0, none⟩ u).setCell ⟨g, 1, none⟩ v).setCell ⟨g, 2, none⟩ x) := ((h.put hg u).put hg v).put hg x
theorem Blk.q3 {W : World} {g t : Nat} {a b c : Value} (h : Blk W g t #[a, b, c]) : W.cell? ⟨g, 0, none⟩ = some a ∧ W.cell? ⟨g, 1, none⟩ = some b ∧ W.cell? ⟨g, 2, none⟩ = some c := ⟨h.at 0 rfl, h.at 1 rfl, h.at 2 rfl⟩
theorem Blk.putB {W : World} {g t : Nat} {cs cs' : Array Value} (h : Blk W g t cs) (i : Nat) (v : Value) (e : cs.setIfInBounds i v = cs') : Blk (W.setCell ⟨g, i, none⟩ v) g t cs' := ⟨blk_put h.get i v e⟩
/-- Variable g (a square): P, Q its rows of pairs; b.. what it holds of the graph, c.. the rows as they grow, l.. what these read as. -/
structure Oq (W1 : World) (g : Nat) (P Q bN bE cN cE : Value) (lP lQ : List S79) (lN : List Int) (lE : List S94) (W : World) : Prop where
  sb : Since W1 W
  bg : Blk W g 81 #[P, Q, bN, bE]
  hg : W1.heap.size ≤ g
  oP : Kd.R k79 79 W W1.heap.size (fun _ => True) P lP
  oQ : Kd.R k79 79 W W1.heap.size (fun _ => True) Q lQ
  oN : Kd.R (Kd.int .i64) 3 W W1.heap.size (fun _ => True) cN lN
  oE : Kd.R k94 94 W W1.heap.size (fun _ => True) cE lE
section
variable {W1 W W' : World} {g : Nat} {P Q bN bE cN cE v1 : Value} {lP lQ : List S79} {lN : List Int} {lE : List S94}
theorem Oq.below (h : Oq W1 g P Q bN bE cN cE lP lQ lN lE W) (hb : Below W.heap.size W W') : Oq W1 g P Q bN bE cN cE lP lQ lN lE W' :=
  ⟨h.sb.step hb, h.bg.below hb, h.hg, Kd.R_below h.oP hb, Kd.R_below h.oQ hb, Kd.R_below h.oN hb, Kd.R_below h.oE hb⟩
theorem Oq.appN {l' : List Int} (h : Oq W1 g P Q bN bE cN cE lP lQ lN lE W) (ho : Kd.R (Kd.int .i64) 3 W' W1.heap.size (fun _ => True) v1 l') (hb : Below W1.heap.size W1 W') (hg : W.grownBy W' cN.ownBlock) : Oq W1 g P Q bN bE v1 cE lP lQ l' lE W' :=
  ⟨⟨hb⟩, ⟨blk_grown h.bg.get hg (Kd.R_ne h.oN h.bg.get (by decide))⟩, h.hg, Kd.R_over h.oP h.oN (by decide) hg, Kd.R_over h.oQ h.oN (by decide) hg, ho, Kd.R_over h.oE h.oN (by decide) hg⟩
theorem Oq.appE {l' : List S94} (h : Oq W1 g P Q bN bE cN cE lP lQ lN lE W) (ho : Kd.R k94 94 W' W1.heap.size (fun _ => True) v1 l') (hb : Below W1.heap.size W1 W') (hg : W.grownBy W' cE.ownBlock) : Oq W1 g P Q bN bE cN v1 lP lQ lN l' W' :=
  ⟨⟨hb⟩, ⟨blk_grown h.bg.get hg (Kd.R_ne h.oE h.bg.get (by decide))⟩, h.hg, Kd.R_over h.oP h.oE (by decide) hg, Kd.R_over h.oQ h.oE (by decide) hg, Kd.R_over h.oN h.oE (by decide) hg, ho⟩
theorem Oq.put2 (h : Oq W1 g P Q bN bE cN cE lP lQ lN lE W) (v : Value) : Oq W1 g P Q v bE cN cE lP lQ lN lE (W.setCell ⟨g, 2, none⟩ v) :=
  ⟨h.sb.put h.hg v, h.bg.putB 2 v rfl, h.hg, Kd.R_set h.oP h.bg.get (by decide) 2 v, Kd.R_set h.oQ h.bg.get (by decide) 2 v, Kd.R_set h.oN h.bg.get (by decide) 2 v, Kd.R_set h.oE h.bg.get (by decide) 2 v⟩
theorem Oq.put3 (h : Oq W1 g P Q bN bE cN cE lP lQ lN lE W) (v : Value) : Oq W1 g P Q bN v cN cE lP lQ lN lE (W.setCell ⟨g, 3, none⟩ v) :=
  ⟨h.sb.put h.hg v, h.bg.putB 3 v rfl, h.hg, Kd.R_set h.oP h.bg.get (by decide) 3 v, Kd.R_set h.oQ h.bg.get (by decide) 3 v, Kd.R_set h.oN h.bg.get (by decide) 3 v, Kd.R_set h.oE h.bg.get (by decide) 3 v⟩
theorem Oq.c (h : Oq W1 g P Q bN bE cN cE lP lQ lN lE W) : W.cell? ⟨g, 0, none⟩ = some P ∧ W.cell? ⟨g, 1, none⟩ = some Q ∧ W.cell? ⟨g, 2, none⟩ = some bN ∧ W.cell? ⟨g, 3, none⟩ = some bE := h.bg.q4
theorem Oq.rP {A : Option Addr} {c : Nat} (h : Oq W1 g (.slice A lP.length c) Q bN bE cN cE lP lQ lN lE W) : Row k79 W A c lP := ⟨(Kd.R_reads' h.oP).2.1, (Kd.R_reads' h.oP).2.2⟩
theorem Oq.rQ {A : Option Addr} {c : Nat} (h : Oq W1 g P (.slice A lQ.length c) bN bE cN cE lP lQ lN lE W) : Row k79 W A c lQ := ⟨(Kd.R_reads' h.oQ).2.1, (Kd.R_reads' h.oQ).2.2⟩
end
end Go.Proofs.Ytillofiphkmjjaa.X

namespace Go.Proofs.Ytillofiphkmjjaa.X
open Go.RowKit Go.Proofs.YtillofiphkmjjaaW.PrintWords Go.Proofs.YtillofiphkmjjaaW.PrintLast Go.Proofs.YtillofiphkmjjaaW.PrintMore
open Go.Proofs.YtillofiphkmjjaaW.PrintWords renaming blk_drewN → bN, blk_drew → bD, blk_alloc → bA, below_alloc → wA, pw_below_drewN → wN, below_drew1 → wD, blk_below → bB, below_step → wS, blk_at → bT, blk_grown → bG
open Go.Proofs.YtillofiphkmjjaaW.PrintWords.Kd renaming R_alloc → rA, R_drewN → rN, R_drew → rD, R_below → rB, R_grown → rG, C_below → cB, C_alloc → cA, C_drewN → cN, C_drew → cD
attribute [local go_sem] max2_int min2_int max_two min_two max_three min_three max_four min_four
set_option linter.unusedVariables false
set_option linter.unusedSimpArgs false
/-! ### graph_within: function 84 -/
def graph_within.f (a0 : Int) (a1 : Int) : Option (Bool) := if a0 ≥ 0 then (some (decide (a0 ≤ a1))) else (some false)
set_option maxHeartbeats 8000000 in
set_option maxRecDepth 100000 in
theorem graph_within.calls (a0 : Int) (a1 : Int) (r : Bool) (w : World) (h : graph_within.f a0 a1 = some r) :
  Calls Try.prog 84 #[.int .i64 a0, .int .i64 a1] w fun e w' => e = .returned (.bool r) ∧ Drawn0 w w' := by
 have H : (if a0 ≥ 0 then (some (decide (a0 ≤ a1))) else (some false)) = some r := h
 clear h
 by_cases c3 : a0 ≥ 0
 ·rw [if_pos c3] at H
  have c3b0 : decide (0 ≤ a0) = true := decide_eq_true c3
  clear c3
  obtain rfl := Option.some.inj H
  go_enter Try.func84, Try.ntmps84
  go_wp2
  go_ret
  exact ⟨by first | rfl | (simp; done) | (simp [*]; done), by repeat (first | exact Drawn0.refl _ | apply Drawn0.step)⟩
 ·rw [if_neg c3] at H
  have c3b0 : decide (0 ≤ a0) = false := decide_eq_false c3
  clear c3
  obtain rfl := Option.some.inj H
  go_enter Try.func84, Try.ntmps84
  go_wp2
  go_ret
  exact ⟨by first | rfl | (simp; done) | (simp [*]; done), by repeat (first | exact Drawn0.refl _ | apply Drawn0.step)⟩
/-! ### graph_fits: function 87 -/
def graph_fits.f (a0_0 : Int) (a0_1 : Int) (a0_2 : Int) (a1 : Int) : Option (Bool) := (graph_within.f a0_0 99).bind fun t102 => (if t102 = true then ((graph_within.f a0_1 (wrap64 (a1 - 1))).bind fun t103 => (if t103 = true then ((graph_within.f a0_2 (wrap64 (a1 - 1))).bind fun t104 => (some t104)) else (some false))) else (some false))
set_option maxHeartbeats 8000000 in
set_option maxRecDepth 100000 in
theorem graph_fits.calls (a0_0 : Int) (a0_1 : Int) (a0_2 : Int) (a1 : Int) (r : Bool) (w : World) (h : graph_fits.f a0_0 a0_1 a0_2 a1 = some r) :
  Calls Try.prog 87 #[.agg #[.int .i64 a0_0, .int .i64 a0_1, .int .i64 a0_2], .int .i64 a1] w fun e w' => e = .returned (.bool r) ∧ Below w.heap.size w w' := by
 have hu94 := Try.underlying94
 have HB := Aside0.mk (Below.refl w.heap.size w)
 have H : ((graph_within.f a0_0 99).bind fun t102 => (if t102 = true then ((graph_within.f a0_1 (wrap64 (a1 - 1))).bind fun t103 => (if t103 = true then ((graph_within.f a0_2 (wrap64 (a1 - 1))).bind fun t104 => (some t104)) else (some false))) else (some false))) = some r := h
 clear h
 replace H := Option.bind_eq_some_iff.mp H
 obtain ⟨t102, A30, H⟩ := H
 replace H : (if t102 = true then ((graph_within.f a0_1 (wrap64 (a1 - 1))).bind fun t103 => (if t103 = true then ((graph_within.f a0_2 (wrap64 (a1 - 1))).bind fun t104 => (some t104)) else (some false))) else (some false)) = some r := H
 have A3 := Aside0.mk A30
 clear A30
 by_cases c4 : t102 = true
 ·subst c4
  have H1 : ((graph_within.f a0_1 (wrap64 (a1 - 1))).bind fun t103 => (if t103 = true then ((graph_within.f a0_2 (wrap64 (a1 - 1))).bind fun t104 => (some t104)) else (some false))) = some r := by rw [if_pos rfl] at H; exact H
  clear H
  have H := H1
  clear H1
  replace H := Option.bind_eq_some_iff.mp H
  obtain ⟨t103, A50, H⟩ := H
  replace H : (if t103 = true then ((graph_within.f a0_2 (wrap64 (a1 - 1))).bind fun t104 => (some t104)) else (some false)) = some r := H
  have A5 := Aside0.mk A50
  clear A50
  by_cases c6 : t103 = true
  ·subst c6
   have H1 : ((graph_within.f a0_2 (wrap64 (a1 - 1))).bind fun t104 => (some t104)) = some r := by rw [if_pos rfl] at H; exact H
   clear H
   have H := H1
   clear H1
   replace H := Option.bind_eq_some_iff.mp H
   obtain ⟨t104, A70, H⟩ := H
   replace H : (some t104) = some r := H
   have A7 := Aside0.mk A70
   clear A70
   obtain rfl := Option.some.inj H
   go_enter Try.func87, Try.ntmps87
   go_wp2_with (first | ((with_reducible refine gate_dst (N := 2) rfl ?_); refine box_event ?hg (N := 2) ?hd (cs := #[.int .i64 a0_0, .int .i64 a0_1, .int .i64 a0_2]) (t := 94) ?hr ?_; (case hd => rfl); (case hg => rfl); (case hr => first | (go_simp; done) | (go_simp; rfl)); intro Q01 hg w8 hbox hb; have Q00 := Aside0.mk (hbox); have Q03 := Aside0.mk ((by rw [hg]; exact (below_size hB) : w.heap.size ≤ Q01)); have Q02 := Aside0.mk ((by rw [hg]; exact (below_size hB) : w.heap.size ≤ Q01)); replace HB := uH HB hb; clear hb hbox hg; have Q04 : w8.cell? ⟨Q01, 0, none⟩ = some (.int .i64 a0_0) := bC Q00 0; have Q05 : w8.cell? ⟨Q01, 1, none⟩ = some (.int .i64 a0_1) := bC Q00 1; have Q06 : w8.cell? ⟨Q01, 2, none⟩ = some (.int .i64 a0_2) := bC Q00 2; have Q07 := blk_frozen Q00.out 0; have Q08 := blk_frozen Q00.out 1; have Q09 := blk_frozen Q00.out 2) | ((with_reducible refine gate_callee (f := 84) rfl ?_); refine goesL_ (some 7) rfl rfl Try.func84 (by kernel_rfl) rfl #[.int .i64 a0_0, .int .i64 99] rfl aM ?_; (with_reducible refine (graph_within.calls a0_0 99 true _ A3.out).mono ?_); rintro e w' ⟨rfl, ⟨nd, rfl⟩⟩; refine ⟨_, rfl, ?_⟩) | (go_at_call 84; (with_reducible refine (graph_within.calls a0_1 (wrap64 (a1 - 1)) true _ A5.out).mono ?_); rintro e w' ⟨rfl, ⟨nd, rfl⟩⟩) | (go_at_call 84; (with_reducible refine (graph_within.calls a0_2 (wrap64 (a1 - 1)) t104 _ A7.out).mono ?_); rintro e w' ⟨rfl, ⟨nd, rfl⟩⟩))
   go_ret
   exact ⟨by first | rfl | (simp [errW_none, errW_some] <;> rfl) | (simp [*, errW_none, errW_some] <;> rfl), by repeat (first | (with_reducible first | exact HB.out | apply wA | apply wN | apply wD | refine below_set ?_ Q02.out) | exact HB.out)⟩
  ·replace c6 := Bool.eq_false_iff.mpr c6
   subst c6
   have H1 : (some false) = some r := by rw [if_neg (show ¬ (false = true) by decide)] at H; exact H
   clear H
   have H := H1
   clear H1
   obtain rfl := Option.some.inj H
   go_enter Try.func87, Try.ntmps87
   go_wp2_with (first | ((with_reducible refine gate_dst (N := 2) rfl ?_); refine box_event ?hg (N := 2) ?hd (cs := #[.int .i64 a0_0, .int .i64 a0_1, .int .i64 a0_2]) (t := 94) ?hr ?_; (case hd => rfl); (case hg => rfl); (case hr => first | (go_simp; done) | (go_simp; rfl)); intro Q01 hg w10 hbox hb; have Q00 := Aside0.mk (hbox); have Q03 := Aside0.mk ((by rw [hg]; exact (below_size hB) : w.heap.size ≤ Q01)); have Q02 := Aside0.mk ((by rw [hg]; exact (below_size hB) : w.heap.size ≤ Q01)); replace HB := uH HB hb; clear hb hbox hg; have Q0a : w10.cell? ⟨Q01, 0, none⟩ = some (.int .i64 a0_0) := bC Q00 0; have Q0b : w10.cell? ⟨Q01, 1, none⟩ = some (.int .i64 a0_1) := bC Q00 1; have Q0c : w10.cell? ⟨Q01, 2, none⟩ = some (.int .i64 a0_2) := bC Q00 2; have Q0d := blk_frozen Q00.out 0; have Q0e := blk_frozen Q00.out 1; have Q0f := blk_frozen Q00.out 2) | ((with_reducible refine gate_callee (f := 84) rfl ?_); refine goesL_ (some 7) rfl rfl Try.func84 (by kernel_rfl) rfl #[.int .i64 a0_0, .int .i64 99] rfl aM ?_; (with_reducible refine (graph_within.calls a0_0 99 true _ A3.out).mono ?_); rintro e w' ⟨rfl, ⟨nd, rfl⟩⟩; refine ⟨_, rfl, ?_⟩) | (go_at_call 84; (with_reducible refine (graph_within.calls a0_1 (wrap64 (a1 - 1)) false _ A5.out).mono ?_); rintro e w' ⟨rfl, ⟨nd, rfl⟩⟩))
   go_ret
   exact ⟨by first | rfl | (simp [errW_none, errW_some] <;> rfl) | (simp [*, errW_none, errW_some] <;> rfl), by repeat (first | (with_reducible first | exact HB.out | apply wA | apply wN | apply wD | refine below_set ?_ Q02.out) | exact HB.out)⟩
 ·replace c4 := Bool.eq_false_iff.mpr c4
  subst c4
  have H1 : (some false) = some r := by rw [if_neg (show ¬ (false = true) by decide)] at H; exact H
  clear H
  have H := H1
  clear H1
  obtain rfl := Option.some.inj H
  go_enter Try.func87, Try.ntmps87
  go_wp2_with (first | ((with_reducible refine gate_dst (N := 2) rfl ?_); refine box_event ?hg (N := 2) ?hd (cs := #[.int .i64 a0_0, .int .i64 a0_1, .int .i64 a0_2]) (t := 94) ?hr ?_; (case hd => rfl); (case hg => rfl); (case hr => first | (go_simp; done) | (go_simp; rfl)); intro Q01 hg w12 hbox hb; have Q00 := Aside0.mk (hbox); have Q03 := Aside0.mk ((by rw [hg]; exact (below_size hB) : w.heap.size ≤ Q01)); have Q02 := Aside0.mk ((by rw [hg]; exact (below_size hB) : w.heap.size ≤ Q01)); replace HB := uH HB hb; clear hb hbox hg; have Q0g : w12.cell? ⟨Q01, 0, none⟩ = some (.int .i64 a0_0) := bC Q00 0; have Q0h : w12.cell? ⟨Q01, 1, none⟩ = some (.int .i64 a0_1) := bC Q00 1; have Q0i : w12.cell? ⟨Q01, 2, none⟩ = some (.int .i64 a0_2) := bC Q00 2; have Q0j := blk_frozen Q00.out 0; have Q0k := blk_frozen Q00.out 1; have Q0l := blk_frozen Q00.out 2) | ((with_reducible refine gate_callee (f := 84) rfl ?_); refine goesL_ (some 7) rfl rfl Try.func84 (by kernel_rfl) rfl #[.int .i64 a0_0, .int .i64 99] rfl aM ?_; (with_reducible refine (graph_within.calls a0_0 99 false _ A3.out).mono ?_); rintro e w' ⟨rfl, ⟨nd, rfl⟩⟩; refine ⟨_, rfl, ?_⟩))
  go_ret
  exact ⟨by first | rfl | (simp [errW_none, errW_some] <;> rfl) | (simp [*, errW_none, errW_some] <;> rfl), by repeat (first | (with_reducible first | exact HB.out | apply wA | apply wN | apply wD | refine below_set ?_ Q02.out) | exact HB.out)⟩
/-! ### graph_Valid: function 74 -/
def kindB (t : Int) : Bool := decide (0 ≤ t) && decide (t ≤ 99)
def edgeB (n : Int) (e : S94) : Bool := kindB e.f0 && ((decide (0 ≤ e.f1) && decide (e.f1 < n)) && (decide (0 ≤ e.f2) && decide (e.f2 < n)))
theorem within_kind (t : Int) : graph_within.f t 99 = some (kindB t) := by
 unfold graph_within.f kindB
 by_cases h : t ≥ 0
 ·rw [if_pos h]; simp [h]
 ·rw [if_neg h]; simp [h]
theorem within_lt (t n : Int) (h0 : 0 ≤ n) (hn : n ≤ 9223372036854775807) : graph_within.f t (wrap64 (n - 1)) = some (decide (0 ≤ t) && decide (t < n)) := by
 have e : wrap64 (n - 1) = n - 1 := by unfold wrap64; omega
 unfold graph_within.f
 rw [e]
 by_cases h : t ≥ 0
 ·rw [if_pos h]; simp [h, Int.le_sub_one_iff]
 ·rw [if_neg h]; simp [h]
theorem fits_edge (e : S94) (n : Int) (h0 : 0 ≤ n) (hn : n ≤ 9223372036854775807) : graph_fits.f e.f0 e.f1 e.f2 n = some (edgeB n e) := by
 unfold graph_fits.f edgeB
 rw [within_kind, within_lt _ _ h0 hn, within_lt _ _ h0 hn]
 simp only [Option.bind_some]
 cases kindB e.f0 <;> cases (decide (0 ≤ e.f1) && decide (e.f1 < n)) <;> simp
theorem wrap_succ {i : Int} {n : Nat} (h0 : 0 ≤ i) (h : i < (n : Int)) (hn : n ≤ 9223372036854775807) : wrap64 (i + 1) = i + 1 := by
 unfold wrap64
 omega
theorem getD_at {α : Type} (l : List α) (z : α) (j : Nat) (hj : j < l.length) : l.getD j z = l[j] := by
 rw [List.getD_eq_getElem?_getD, List.getElem?_eq_getElem hj]; rfl
theorem any_miss {α : Type} (p : α → Bool) (z : α) (l : List α) (i : Int) (hi : (l.length : Int) ≤ i) (h : ∀ j : Nat, (j : Int) < i → p (l.getD j z) = false) : l.any p = false := by
 rw [List.any_eq_false]
 intro x hx
 obtain ⟨j, hj, rfl⟩ := List.mem_iff_getElem.mp hx
 have := h j (by omega)
 rw [getD_at _ _ _ hj] at this
 simp [this]
theorem any_hit {α : Type} (p : α → Bool) (z : α) (l : List α) (i : Int) (h0 : 0 ≤ i) (hi : i < (l.length : Int)) (h : p (l.getD i.toNat z) = true) : l.any p = true := by
 rw [List.any_eq_true]
 have hj : i.toNat < l.length := by omega
 rw [getD_at _ _ _ hj] at h
 exact ⟨_, List.getElem_mem hj, h⟩
theorem miss_step {α : Type} (p : α → Bool) (z : α) (l : List α) (i : Int) (h0 : 0 ≤ i) (h : ∀ j : Nat, (j : Int) < i → p (l.getD j z) = false) (hn : p (l.getD i.toNat z) = false) : ∀ j : Nat, (j : Int) < i + 1 → p (l.getD j z) = false := by
 intro j hj
 by_cases e : (j : Int) < i
 ·exact h j e
 ·obtain rfl : j = i.toNat := by omega
  exact hn
set_option maxHeartbeats 1000000 in
theorem Valid1_calls (t : Int) (w : World) : Calls Try.prog 83 #[.int .i64 t] w fun e w' => e = .returned (.bool (!kindB t)) ∧ Drawn0 w w' := by
 go_enter Try.func83, Try.ntmps83
 go_wp2_with (go_at_call 84; refine (graph_within.calls t 99 (kindB t) _ (within_kind t)).mono ?_; rintro e w' ⟨rfl, ⟨nd, rfl⟩⟩)
 go_ret
 exact ⟨by first | rfl | (simp; done), by repeat (first | exact Drawn0.refl _ | apply Drawn0.step)⟩
set_option maxHeartbeats 2000000 in
/-- slices.IndexFunc at ints, with any function that only draws. -/
theorem IndexFunc91_calls (p : Int → Bool) (g : Nat) (lb : Array Value) (eg : ∀ args w, (callFunc g args).run Try.prog w = .ok (.enter g args) w) (A0 : Option Addr) (c0 : Nat) (l0 : List Int) (w : World)
  (hp : ∀ W, Drawn0 w W → ∀ x, Calls Try.prog g (#[.int .i64 x] ++ lb) W fun e w' => e = .returned (.bool (p x)) ∧ Drawn0 W w')
  (hr0 : Kd.C (Kd.int .i64) w A0 l0.length l0) (hbig : l0.length ≤ 9223372036854775807) :
  Calls Try.prog 91 #[.slice A0 l0.length c0, .func (.func g) #[] lb] w fun e w' => ∃ r : Int, e = .returned (.int .i64 r) ∧ Aside0 (decide (r ≥ 0) = l0.any p) ∧ Drawn0 w w' := by
 have HR := Aside0.mk hr0
 have HP := Aside0.mk hp
 have HB := Aside0.mk hbig
 clear hr0 hp hbig
 go_enter Try.func91, Try.ntmps91
 go_wp2
 go_loopg [5, 8] l0.length (fun gg _ s8 wr => ∃ i : Int, s8 = .int .i64 i ∧ Aside0 (0 ≤ i ∧ i ≤ (l0.length : Int) ∧ (l0.length : Int) - i ≤ gg ∧ ∀ j : Nat, (j : Int) < i → p (l0.getD j 0) = false) ∧ Drawn0 w wr)
 case atStart => exact ⟨0, rfl, ⟨by omega, by omega, by omega, fun j hj => by omega⟩, by repeat (first | exact Drawn0.refl _ | apply Drawn0.step)⟩
 case round =>
  obtain ⟨i, rfl, A, ⟨m1, rfl⟩⟩ := hrel
  by_cases hlt : i < (l0.length : Int)
  ·have c3b0 : decide (i < (l0.length : Int)) = true := decide_eq_true hlt
   have p105 : 0 ≤ i := A.out.1
   obtain ⟨ad105, e105, hx105_0⟩ := Kd.at_int HR.out i p105 hlt
   cases e105
   have HC := Aside0.mk (HP.out (w.drewN m1) ⟨⟨m1, rfl⟩⟩ (rd l0 i))
   have q105 := eq_true hlt
   clear hlt
   replace p105 := eq_true p105
   cases hq : p (rd l0 i) with
   | true =>
    rw [hq] at HC
    have HQ := Aside0.mk hq
    clear hq
    go_wp2_with (go_at_fn g; refine (HC.out).mono ?_; rintro e w' ⟨rfl, ⟨nd, rfl⟩⟩)
    go_ret
    refine ⟨i, rfl, ⟨?_⟩, by repeat (first | exact Drawn0.refl _ | apply Drawn0.step)⟩
    rw [any_hit p 0 l0 i (of_eq_true p105) (of_eq_true q105) HQ.out]
    simp [p105]
   | false =>
    rw [hq] at HC
    have HQ := Aside0.mk hq
    clear hq
    go_wp2_with (go_at_fn g; refine (HC.out).mono ?_; rintro e w' ⟨rfl, ⟨nd, rfl⟩⟩)
    go_roundg (l0.length - (i + 1).toNat)
    case measure => have := A.out; have := of_eq_true q105; omega
    case rel =>
     have q := of_eq_true q105
     have z := of_eq_true p105
     refine ⟨i + 1, ?_, ⟨by omega, by omega, by omega, miss_step p 0 l0 i z A.out.2.2.2 HQ.out⟩, by repeat (first | exact Drawn0.refl _ | apply Drawn0.step)⟩
     rw [wrap_succ z q HB.out]
  ·have c3b0 : decide (i < (l0.length : Int)) = false := decide_eq_false hlt
   have HL := Aside0.mk hlt
   clear hlt
   go_wp2
   go_ret
   refine ⟨-1, rfl, ⟨?_⟩, by repeat (first | exact Drawn0.refl _ | apply Drawn0.step)⟩
   rw [any_miss p 0 l0 i (by have := HL.out; omega) A.out.2.2.2]
   decide
set_option maxHeartbeats 2000000 in
theorem ContainsFunc82_calls (p : Int → Bool) (g : Nat) (lb : Array Value) (eg : ∀ args w, (callFunc g args).run Try.prog w = .ok (.enter g args) w) (A0 : Option Addr) (c0 : Nat) (l0 : List Int) (w : World)
  (hp : ∀ W, Drawn0 w W → ∀ x, Calls Try.prog g (#[.int .i64 x] ++ lb) W fun e w' => e = .returned (.bool (p x)) ∧ Drawn0 W w')
  (hr0 : Kd.C (Kd.int .i64) w A0 l0.length l0) (hbig : l0.length ≤ 9223372036854775807) :
  Calls Try.prog 82 #[.slice A0 l0.length c0, .func (.func g) #[] lb] w fun e w' => e = .returned (.bool (l0.any p)) ∧ Drawn0 w w' := by
 have HK := Aside0.mk (IndexFunc91_calls p g lb eg A0 c0 l0 w hp hr0 hbig)
 clear hp hr0 hbig eg
 go_enter Try.func82, Try.ntmps82
 go_wp2_with (go_at_call 91; refine (HK.out).mono ?_; rintro e w' ⟨r, rfl, HQ, ⟨nd, rfl⟩⟩)
 go_ret
 exact ⟨by first | (rw [← HQ.out]; rfl) | (rw [← HQ.out]; simp; done), by repeat (first | exact Drawn0.refl _ | apply Drawn0.step)⟩
set_option maxHeartbeats 2000000 in
/-- slices.IndexFunc at edges, with any function that lays blocks of its own at the most. -/
theorem IndexFunc92_calls (p : S94 → Bool) (g : Nat) (lb : Array Value) (eg : ∀ args w, (callFunc g args).run Try.prog w = .ok (.enter g args) w) (A0 : Option Addr) (c0 : Nat) (l0 : List S94) (w : World)
  (hp : ∀ W, Below w.heap.size w W → ∀ x : S94, Calls Try.prog g (#[.agg #[.int .i64 x.f0, .int .i64 x.f1, .int .i64 x.f2]] ++ lb) W fun e w' => e = .returned (.bool (p x)) ∧ Below W.heap.size W w')
  (hr0 : Kd.C k94 w A0 l0.length l0) (hbig : l0.length ≤ 9223372036854775807) :
  Calls Try.prog 92 #[.slice A0 l0.length c0, .func (.func g) #[] lb] w fun e w' => ∃ r : Int, e = .returned (.int .i64 r) ∧ Aside0 (decide (r ≥ 0) = l0.any p) ∧ Below w.heap.size w w' := by
 have hu94 := Try.underlying94
 have HR := Aside0.mk hr0
 have HP := Aside0.mk hp
 have HB := Aside0.mk hbig
 clear hr0 hp hbig
 go_enter Try.func92, Try.ntmps92
 go_wp2
 go_loopg [5, 8] l0.length (fun gg _ s8 wr => ∃ i : Int, s8 = .int .i64 i ∧ Aside0 (0 ≤ i ∧ i ≤ (l0.length : Int) ∧ (l0.length : Int) - i ≤ gg ∧ ∀ j : Nat, (j : Int) < i → p (l0.getD j z94) = false) ∧ Aside0 (Below w.heap.size w wr))
 case atStart => exact ⟨0, rfl, ⟨by omega, by omega, by omega, fun j hj => by omega⟩, ⟨Below.refl _ _⟩⟩
 case round =>
  obtain ⟨i, rfl, A, BW⟩ := hrel
  by_cases hlt : i < (l0.length : Int)
  ·have c3b0 : decide (i < (l0.length : Int)) = true := decide_eq_true hlt
   have p105 : 0 ≤ i := A.out.1
   obtain ⟨ad105, e105, hx105_0, hx105_1, hx105_2⟩ := at_T94 (cB HR.out BW.out) i p105 hlt
   cases e105
   have HC := Aside0.mk (HP.out wr BW.out (rd_T94 l0 i))
   have q105 := eq_true hlt
   clear hlt
   replace p105 := eq_true p105
   cases hq : p (rd_T94 l0 i) with
   | true =>
    rw [hq] at HC
    have HQ := Aside0.mk hq
    clear hq
    go_wp2_with (go_at_fn g; refine (HC.out).mono ?_; rintro e w' ⟨rfl, hb'⟩)
    go_ret
    refine ⟨i, rfl, ⟨?_⟩, wS BW.out hb'⟩
    rw [any_hit p z94 l0 i (of_eq_true p105) (of_eq_true q105) HQ.out]
    simp [p105]
   | false =>
    rw [hq] at HC
    have HQ := Aside0.mk hq
    clear hq
    go_wp2_with (go_at_fn g; refine (HC.out).mono ?_; rintro e w' ⟨rfl, hb'⟩)
    go_roundg (l0.length - (i + 1).toNat)
    case measure => have := A.out; have := of_eq_true q105; omega
    case rel =>
     have q := of_eq_true q105
     have z := of_eq_true p105
     refine ⟨i + 1, ?_, ⟨by omega, by omega, by omega, miss_step p z94 l0 i z A.out.2.2.2 HQ.out⟩, ⟨wS BW.out hb'⟩⟩
     rw [wrap_succ z q HB.out]
  ·have c3b0 : decide (i < (l0.length : Int)) = false := decide_eq_false hlt
   have HL := Aside0.mk hlt
   clear hlt
   go_wp2
   go_ret
   refine ⟨-1, rfl, ⟨?_⟩, BW.out⟩
   rw [any_miss p z94 l0 i (by have := HL.out; omega) A.out.2.2.2]
   decide
set_option maxHeartbeats 2000000 in
theorem ContainsFunc85_calls (p : S94 → Bool) (g : Nat) (lb : Array Value) (eg : ∀ args w, (callFunc g args).run Try.prog w = .ok (.enter g args) w) (A0 : Option Addr) (c0 : Nat) (l0 : List S94) (w : World)
  (hp : ∀ W, Below w.heap.size w W → ∀ x : S94, Calls Try.prog g (#[.agg #[.int .i64 x.f0, .int .i64 x.f1, .int .i64 x.f2]] ++ lb) W fun e w' => e = .returned (.bool (p x)) ∧ Below W.heap.size W w')
  (hr0 : Kd.C k94 w A0 l0.length l0) (hbig : l0.length ≤ 9223372036854775807) :
  Calls Try.prog 85 #[.slice A0 l0.length c0, .func (.func g) #[] lb] w fun e w' => e = .returned (.bool (l0.any p)) ∧ Below w.heap.size w w' := by
 have HK := Aside0.mk (IndexFunc92_calls p g lb eg A0 c0 l0 w hp hr0 hbig)
 clear hp hr0 hbig eg
 go_enter Try.func85, Try.ntmps85
 go_wp2_with (go_at_call 92; refine (HK.out).mono ?_; rintro e w' ⟨r, rfl, HQ, hb'⟩)
 go_ret
 exact ⟨by first | (rw [← HQ.out]; rfl) | (rw [← HQ.out]; simp; done), hb'⟩
set_option maxHeartbeats 1000000 in
theorem Valid2_calls (A0 : Option Addr) (n c0 : Nat) (v1 : Value) (B : Nat) (e : S94) (w : World) (hn : (n : Int) ≤ 9223372036854775807) (hB : B < w.heap.size) (hc : w.cell? ⟨B, 0, none⟩ = some (.slice A0 n c0)) :
  Calls Try.prog 86 #[.agg #[.int .i64 e.f0, .int .i64 e.f1, .int .i64 e.f2], .pointer (some ⟨B, 0, none⟩)] w fun r w' => r = .returned (.bool (!edgeB n e)) ∧ Below w.heap.size w w' := by
 have hu94 := Try.underlying94
 have hu25 := Try.underlying25
 have HF := Aside0.mk (fits_edge e n (by omega) hn)
 clear hn
 go_enter Try.func86, Try.ntmps86
 go_wp2_with (go_at_call 87; refine (graph_fits.calls e.f0 e.f1 e.f2 n (edgeB n e) _ HF.out).mono ?_; rintro r w' ⟨rfl, hb'⟩)
 go_ret
 exact ⟨rfl, wS (wA (Below.refl _ _) _) hb'⟩
def validE (l0 : List Int) (l1 : List S94) : Int := if l0.length > 40 then 3 else if l1.length > 80 then 3 else if l0.any (fun t => !kindB t) = true then 6 else if l1.any (fun e => !edgeB l0.length e) = true then 6 else 0
def graph_Valid.f (l0 : List Int) (l1 : List S94) : Option Int := some (validE l0 l1)
set_option maxHeartbeats 8000000 in
theorem graph_Valid.calls (A0_0 : Option Addr) (c0_0 : Nat) (l0_0 : List Int) (A0_1 : Option Addr) (c0_1 : Nat) (l0_1 : List S94) (r : Int) (w : World) (hr0_0 : Kd.C (Kd.int .i64) w A0_0 l0_0.length l0_0) (hc0_0 : l0_0.length ≤ c0_0) (hr0_1 : Kd.C k94 w A0_1 l0_1.length l0_1) (hc0_1 : l0_1.length ≤ c0_1) (h : graph_Valid.f l0_0 l0_1 = some r) :
  Calls Try.prog 74 #[.agg #[.slice A0_0 l0_0.length c0_0, .slice A0_1 l0_1.length c0_1]] w fun e w' => e = .returned (.int .i64 r) ∧ Below w.heap.size w w' := by
 have hu25 := Try.underlying25
 have HR0 := Aside0.mk hr0_0
 have HR1 := Aside0.mk hr0_1
 have H := Aside0.mk (Option.some.inj h)
 clear h hr0_0 hr0_1 hc0_0 hc0_1
 have e83 : ∀ args w, (callFunc 83 args).run Try.prog w = .ok (.enter 83 args) w := enters_of Try.func83 (by kernel_rfl) rfl
 have e86 : ∀ args w, (callFunc 86 args).run Try.prog w = .ok (.enter 86 args) w := enters_of Try.func86 (by kernel_rfl) rfl
 have E83 := Aside0.mk e83
 have E86 := Aside0.mk e86
 clear e83 e86
 by_cases c1 : l0_0.length > 40
 ·have b1 : decide (40 < (l0_0.length : Int)) = true := decide_eq_true (by omega)
  have b2 : decide (40 < l0_0.length) = true := decide_eq_true (by omega)
  have hr : r = 3 := by rw [← H.out]; unfold validE; rw [if_pos c1]
  subst hr
  clear c1 H
  go_enter Try.func74, Try.ntmps74
  go_wp2
  go_ret
  exact ⟨rfl, wA (Below.refl _ _) _⟩
 ·have b1 : decide (40 < (l0_0.length : Int)) = false := decide_eq_false (by omega)
  have b2 : decide (40 < l0_0.length) = false := decide_eq_false (by omega)
  by_cases c2 : l0_1.length > 80
  ·have b3 : decide (80 < (l0_1.length : Int)) = true := decide_eq_true (by omega)
   have b4 : decide (80 < l0_1.length) = true := decide_eq_true (by omega)
   have hr : r = 3 := by rw [← H.out]; unfold validE; rw [if_neg c1, if_pos c2]
   subst hr
   clear c1 c2 H
   go_enter Try.func74, Try.ntmps74
   go_wp2
   repeat (go_quiet (fail); try go_wp2)
   go_ret
   exact ⟨rfl, wA (Below.refl _ _) _⟩
  ·have b3 : decide (80 < (l0_1.length : Int)) = false := decide_eq_false (by omega)
   have b4 : decide (80 < l0_1.length) = false := decide_eq_false (by omega)
   have C1 := Aside0.mk c1
   have C2 := Aside0.mk c2
   clear c1 c2
   have K48 := fun W (hW : Below w.heap.size w W) => ContainsFunc82_calls (fun t => !kindB t) 83 #[] E83.out A0_0 c0_0 l0_0 W (fun W hW x => Valid1_calls x W) (cB HR0.out hW) (by have := C1.out; omega)
   have K50 := fun W (hW : Below w.heap.size w W) B (hB : B < W.heap.size) (hc : W.cell? ⟨B, 0, none⟩ = some (.slice A0_0 l0_0.length c0_0)) => ContainsFunc85_calls (fun e => !edgeB l0_0.length e) 86 #[.pointer (some ⟨B, 0, none⟩)] E86.out A0_1 c0_1 l0_1 W (fun W2 hW2 x => Valid2_calls A0_0 l0_0.length c0_0 (.slice A0_1 l0_1.length c0_1) B x W2 (by have := C1.out; omega) (Nat.lt_of_lt_of_le hB hW2.size) ((hW2.cell (p := ⟨B, 0, none⟩) hB).trans hc)) (cB HR1.out hW) (by have := C2.out; omega)
   have K48' := Aside0.mk K48
   have K50' := Aside0.mk K50
   clear K48 K50
   cases c3 : l0_0.any (fun t => !kindB t) with
   | true =>
    have hr : r = 6 := by rw [← H.out]; unfold validE; rw [if_neg C1.out, if_neg C2.out, if_pos c3]
    subst hr
    have C3 := Aside0.mk c3
    clear c3 H
    go_enter Try.func74, Try.ntmps74
    go_wp2_with (go_at_call 82; refine (K48'.out _ (wA (Below.refl _ _) _)).mono ?_; rw [C3.out]; rintro e w' ⟨rfl, ⟨nd, rfl⟩⟩)
    go_ret
    exact ⟨rfl, by repeat (first | exact wA (Below.refl _ _) _ | apply wN)⟩
   | false =>
    have C3 := Aside0.mk c3
    clear c3
    cases c4 : l0_1.any (fun e => !edgeB l0_0.length e) with
    | true =>
     have hr : r = 6 := by rw [← H.out]; unfold validE; rw [if_neg C1.out, if_neg C2.out, if_neg (by rw [C3.out]; decide), if_pos c4]
     subst hr
     have C4 := Aside0.mk c4
     clear c4 H
     go_enter Try.func74, Try.ntmps74
     go_wp2_with (first | (go_at_call 82; refine (K48'.out _ (wA (Below.refl _ _) _)).mono ?_; rw [C3.out]; rintro e w' ⟨rfl, ⟨nd, rfl⟩⟩) | (go_at_call 85; refine Calls.mono (K50'.out _ (by repeat (first | exact wA (Below.refl _ _) _ | apply wN)) _ (by simp) (by go_simp)) ?_; rw [C4.out]; rintro e w' ⟨rfl, hb'⟩))
     go_ret
     exact ⟨rfl, wS (by repeat (first | exact wA (Below.refl _ _) _ | apply wN)) hb'⟩
    | false =>
     have hr : r = 0 := by rw [← H.out]; unfold validE; rw [if_neg C1.out, if_neg C2.out, if_neg (by rw [C3.out]; decide), if_neg (by rw [c4]; decide)]
     subst hr
     have C4 := Aside0.mk c4
     clear c4 H
     go_enter Try.func74, Try.ntmps74
     go_wp2_with (first | (go_at_call 82; refine (K48'.out _ (wA (Below.refl _ _) _)).mono ?_; rw [C3.out]; rintro e w' ⟨rfl, ⟨nd, rfl⟩⟩) | (go_at_call 85; refine Calls.mono (K50'.out _ (by repeat (first | exact wA (Below.refl _ _) _ | apply wN)) _ (by simp) (by go_simp)) ?_; rw [C4.out]; rintro e w' ⟨rfl, hb'⟩))
     go_ret
     exact ⟨rfl, wS (by repeat (first | exact wA (Below.refl _ _) _ | apply wN)) hb'⟩
/-! ### scarfjointref05_kind: function 52 -/
def scarfjointref05_kind.f (a0 : Int) : Option (Bool) := if a0 ≥ 0 then (some (decide (a0 ≤ 99))) else (some false)
set_option maxHeartbeats 8000000 in
set_option maxRecDepth 100000 in
theorem scarfjointref05_kind.calls (a0 : Int) (r : Bool) (w : World) (h : scarfjointref05_kind.f a0 = some r) :
  Calls Try.prog 52 #[.int .i64 a0] w fun e w' => e = .returned (.bool r) ∧ Drawn0 w w' := by
 have H : (if a0 ≥ 0 then (some (decide (a0 ≤ 99))) else (some false)) = some r := h
 clear h
 by_cases c2 : a0 ≥ 0
 ·rw [if_pos c2] at H
  have c2b0 : decide (0 ≤ a0) = true := decide_eq_true c2
  clear c2
  obtain rfl := Option.some.inj H
  go_enter Try.func52, Try.ntmps52
  go_wp2
  go_ret
  exact ⟨by first | rfl | (simp; done) | (simp [*]; done), by repeat (first | exact Drawn0.refl _ | apply Drawn0.step)⟩
 ·rw [if_neg c2] at H
  have c2b0 : decide (0 ≤ a0) = false := decide_eq_false c2
  clear c2
  obtain rfl := Option.some.inj H
  go_enter Try.func52, Try.ntmps52
  go_wp2
  go_ret
  exact ⟨by first | rfl | (simp; done) | (simp [*]; done), by repeat (first | exact Drawn0.refl _ | apply Drawn0.step)⟩
/-! ### scarfjointref05_right: function 53 -/
def scarfjointref05_right.f (a0_0 : Int) (a0_1 : Int) (a0_2 : Int) (a1 : Int) : Option (Bool) := (scarfjointref05_kind.f a0_0).bind fun t102 => (if t102 = true then (if a0_1 ≥ 0 then (if a0_1 < a1 then (if a0_2 ≥ 0 then (some (decide (a0_2 < a1))) else (some false)) else (some false)) else (some false)) else (some false))
set_option maxHeartbeats 8000000 in
set_option maxRecDepth 100000 in
theorem scarfjointref05_right.calls (a0_0 : Int) (a0_1 : Int) (a0_2 : Int) (a1 : Int) (r : Bool) (w : World) (h : scarfjointref05_right.f a0_0 a0_1 a0_2 a1 = some r) :
  Calls Try.prog 53 #[.agg #[.int .i64 a0_0, .int .i64 a0_1, .int .i64 a0_2], .int .i64 a1] w fun e w' => e = .returned (.bool r) ∧ Below w.heap.size w w' := by
 have hu94 := Try.underlying94
 have HB := Aside0.mk (Below.refl w.heap.size w)
 have H : ((scarfjointref05_kind.f a0_0).bind fun t102 => (if t102 = true then (if a0_1 ≥ 0 then (if a0_1 < a1 then (if a0_2 ≥ 0 then (some (decide (a0_2 < a1))) else (some false)) else (some false)) else (some false)) else (some false))) = some r := h
 clear h
 replace H := Option.bind_eq_some_iff.mp H
 obtain ⟨t102, A30, H⟩ := H
 replace H : (if t102 = true then (if a0_1 ≥ 0 then (if a0_1 < a1 then (if a0_2 ≥ 0 then (some (decide (a0_2 < a1))) else (some false)) else (some false)) else (some false)) else (some false)) = some r := H
 have A3 := Aside0.mk A30
 clear A30
 by_cases c4 : t102 = true
 ·subst c4
  have H1 : (if a0_1 ≥ 0 then (if a0_1 < a1 then (if a0_2 ≥ 0 then (some (decide (a0_2 < a1))) else (some false)) else (some false)) else (some false)) = some r := by rw [if_pos rfl] at H; exact H
  clear H
  have H := H1
  clear H1
  by_cases c5 : a0_1 ≥ 0
  ·rw [if_pos c5] at H
   have c5b0 : decide (0 ≤ a0_1) = true := decide_eq_true c5
   clear c5
   by_cases c6 : a0_1 < a1
   ·rw [if_pos c6] at H
    have c6b0 : decide (a0_1 < a1) = true := decide_eq_true c6
    clear c6
    by_cases c7 : a0_2 ≥ 0
    ·rw [if_pos c7] at H
     have c7b0 : decide (0 ≤ a0_2) = true := decide_eq_true c7
     clear c7
     obtain rfl := Option.some.inj H
     go_enter Try.func53, Try.ntmps53
     go_wp2_with (first | ((with_reducible refine gate_dst (N := 2) rfl ?_); refine box_event ?hg (N := 2) ?hd (cs := #[.int .i64 a0_0, .int .i64 a0_1, .int .i64 a0_2]) (t := 94) ?hr ?_; (case hd => rfl); (case hg => rfl); (case hr => first | (go_simp; done) | (go_simp; rfl)); intro Q01 hg w8 hbox hb; have Q00 := Aside0.mk (hbox); have Q03 := Aside0.mk ((by rw [hg]; exact (below_size hB) : w.heap.size ≤ Q01)); have Q02 := Aside0.mk ((by rw [hg]; exact (below_size hB) : w.heap.size ≤ Q01)); replace HB := uH HB hb; clear hb hbox hg; have Q04 : w8.cell? ⟨Q01, 0, none⟩ = some (.int .i64 a0_0) := bC Q00 0; have Q05 : w8.cell? ⟨Q01, 1, none⟩ = some (.int .i64 a0_1) := bC Q00 1; have Q06 : w8.cell? ⟨Q01, 2, none⟩ = some (.int .i64 a0_2) := bC Q00 2; have Q07 := blk_frozen Q00.out 0; have Q08 := blk_frozen Q00.out 1; have Q09 := blk_frozen Q00.out 2) | ((with_reducible refine gate_callee (f := 52) rfl ?_); refine goesL_ (some 7) rfl rfl Try.func52 (by kernel_rfl) rfl #[.int .i64 a0_0] rfl aM ?_; (with_reducible refine (scarfjointref05_kind.calls a0_0 true _ A3.out).mono ?_); rintro e w' ⟨rfl, ⟨nd, rfl⟩⟩; refine ⟨_, rfl, ?_⟩))
     go_ret
     exact ⟨by first | rfl | (simp [errW_none, errW_some] <;> rfl) | (simp [*, errW_none, errW_some] <;> rfl), by repeat (first | (with_reducible first | exact HB.out | apply wA | apply wN | apply wD | refine below_set ?_ Q02.out) | exact HB.out)⟩
    ·rw [if_neg c7] at H
     have c7b0 : decide (0 ≤ a0_2) = false := decide_eq_false c7
     clear c7
     obtain rfl := Option.some.inj H
     go_enter Try.func53, Try.ntmps53
     go_wp2_with (first | ((with_reducible refine gate_dst (N := 2) rfl ?_); refine box_event ?hg (N := 2) ?hd (cs := #[.int .i64 a0_0, .int .i64 a0_1, .int .i64 a0_2]) (t := 94) ?hr ?_; (case hd => rfl); (case hg => rfl); (case hr => first | (go_simp; done) | (go_simp; rfl)); intro Q01 hg w10 hbox hb; have Q00 := Aside0.mk (hbox); have Q03 := Aside0.mk ((by rw [hg]; exact (below_size hB) : w.heap.size ≤ Q01)); have Q02 := Aside0.mk ((by rw [hg]; exact (below_size hB) : w.heap.size ≤ Q01)); replace HB := uH HB hb; clear hb hbox hg; have Q0a : w10.cell? ⟨Q01, 0, none⟩ = some (.int .i64 a0_0) := bC Q00 0; have Q0b : w10.cell? ⟨Q01, 1, none⟩ = some (.int .i64 a0_1) := bC Q00 1; have Q0c : w10.cell? ⟨Q01, 2, none⟩ = some (.int .i64 a0_2) := bC Q00 2; have Q0d := blk_frozen Q00.out 0; have Q0e := blk_frozen Q00.out 1; have Q0f := blk_frozen Q00.out 2) | ((with_reducible refine gate_callee (f := 52) rfl ?_); refine goesL_ (some 7) rfl rfl Try.func52 (by kernel_rfl) rfl #[.int .i64 a0_0] rfl aM ?_; (with_reducible refine (scarfjointref05_kind.calls a0_0 true _ A3.out).mono ?_); rintro e w' ⟨rfl, ⟨nd, rfl⟩⟩; refine ⟨_, rfl, ?_⟩))
     go_ret
     exact ⟨by first | rfl | (simp [errW_none, errW_some] <;> rfl) | (simp [*, errW_none, errW_some] <;> rfl), by repeat (first | (with_reducible first | exact HB.out | apply wA | apply wN | apply wD | refine below_set ?_ Q02.out) | exact HB.out)⟩
   ·rw [if_neg c6] at H
    have c6b0 : decide (a0_1 < a1) = false := decide_eq_false c6
    clear c6
    obtain rfl := Option.some.inj H
    go_enter Try.func53, Try.ntmps53
    go_wp2_with (first | ((with_reducible refine gate_dst (N := 2) rfl ?_); refine box_event ?hg (N := 2) ?hd (cs := #[.int .i64 a0_0, .int .i64 a0_1, .int .i64 a0_2]) (t := 94) ?hr ?_; (case hd => rfl); (case hg => rfl); (case hr => first | (go_simp; done) | (go_simp; rfl)); intro Q01 hg w12 hbox hb; have Q00 := Aside0.mk (hbox); have Q03 := Aside0.mk ((by rw [hg]; exact (below_size hB) : w.heap.size ≤ Q01)); have Q02 := Aside0.mk ((by rw [hg]; exact (below_size hB) : w.heap.size ≤ Q01)); replace HB := uH HB hb; clear hb hbox hg; have Q0g : w12.cell? ⟨Q01, 0, none⟩ = some (.int .i64 a0_0) := bC Q00 0; have Q0h : w12.cell? ⟨Q01, 1, none⟩ = some (.int .i64 a0_1) := bC Q00 1; have Q0i : w12.cell? ⟨Q01, 2, none⟩ = some (.int .i64 a0_2) := bC Q00 2; have Q0j := blk_frozen Q00.out 0; have Q0k := blk_frozen Q00.out 1; have Q0l := blk_frozen Q00.out 2) | ((with_reducible refine gate_callee (f := 52) rfl ?_); refine goesL_ (some 7) rfl rfl Try.func52 (by kernel_rfl) rfl #[.int .i64 a0_0] rfl aM ?_; (with_reducible refine (scarfjointref05_kind.calls a0_0 true _ A3.out).mono ?_); rintro e w' ⟨rfl, ⟨nd, rfl⟩⟩; refine ⟨_, rfl, ?_⟩))
    go_ret
    exact ⟨by first | rfl | (simp [errW_none, errW_some] <;> rfl) | (simp [*, errW_none, errW_some] <;> rfl), by repeat (first | (with_reducible first | exact HB.out | apply wA | apply wN | apply wD | refine below_set ?_ Q02.out) | exact HB.out)⟩
  ·rw [if_neg c5] at H
   have c5b0 : decide (0 ≤ a0_1) = false := decide_eq_false c5
   clear c5
   obtain rfl := Option.some.inj H
   go_enter Try.func53, Try.ntmps53
   go_wp2_with (first | ((with_reducible refine gate_dst (N := 2) rfl ?_); refine box_event ?hg (N := 2) ?hd (cs := #[.int .i64 a0_0, .int .i64 a0_1, .int .i64 a0_2]) (t := 94) ?hr ?_; (case hd => rfl); (case hg => rfl); (case hr => first | (go_simp; done) | (go_simp; rfl)); intro Q01 hg w14 hbox hb; have Q00 := Aside0.mk (hbox); have Q03 := Aside0.mk ((by rw [hg]; exact (below_size hB) : w.heap.size ≤ Q01)); have Q02 := Aside0.mk ((by rw [hg]; exact (below_size hB) : w.heap.size ≤ Q01)); replace HB := uH HB hb; clear hb hbox hg; have Q0m : w14.cell? ⟨Q01, 0, none⟩ = some (.int .i64 a0_0) := bC Q00 0; have Q0n : w14.cell? ⟨Q01, 1, none⟩ = some (.int .i64 a0_1) := bC Q00 1; have Q0o : w14.cell? ⟨Q01, 2, none⟩ = some (.int .i64 a0_2) := bC Q00 2; have Q0p := blk_frozen Q00.out 0; have Q0q := blk_frozen Q00.out 1; have Q0r := blk_frozen Q00.out 2) | ((with_reducible refine gate_callee (f := 52) rfl ?_); refine goesL_ (some 7) rfl rfl Try.func52 (by kernel_rfl) rfl #[.int .i64 a0_0] rfl aM ?_; (with_reducible refine (scarfjointref05_kind.calls a0_0 true _ A3.out).mono ?_); rintro e w' ⟨rfl, ⟨nd, rfl⟩⟩; refine ⟨_, rfl, ?_⟩))
   go_ret
   exact ⟨by first | rfl | (simp [errW_none, errW_some] <;> rfl) | (simp [*, errW_none, errW_some] <;> rfl), by repeat (first | (with_reducible first | exact HB.out | apply wA | apply wN | apply wD | refine below_set ?_ Q02.out) | exact HB.out)⟩
 ·replace c4 := Bool.eq_false_iff.mpr c4
  subst c4
  have H1 : (some false) = some r := by rw [if_neg (show ¬ (false = true) by decide)] at H; exact H
  clear H
  have H := H1
  clear H1
  obtain rfl := Option.some.inj H
  go_enter Try.func53, Try.ntmps53
  go_wp2_with (first | ((with_reducible refine gate_dst (N := 2) rfl ?_); refine box_event ?hg (N := 2) ?hd (cs := #[.int .i64 a0_0, .int .i64 a0_1, .int .i64 a0_2]) (t := 94) ?hr ?_; (case hd => rfl); (case hg => rfl); (case hr => first | (go_simp; done) | (go_simp; rfl)); intro Q01 hg w16 hbox hb; have Q00 := Aside0.mk (hbox); have Q03 := Aside0.mk ((by rw [hg]; exact (below_size hB) : w.heap.size ≤ Q01)); have Q02 := Aside0.mk ((by rw [hg]; exact (below_size hB) : w.heap.size ≤ Q01)); replace HB := uH HB hb; clear hb hbox hg; have Q0s : w16.cell? ⟨Q01, 0, none⟩ = some (.int .i64 a0_0) := bC Q00 0; have Q0t : w16.cell? ⟨Q01, 1, none⟩ = some (.int .i64 a0_1) := bC Q00 1; have Q0u : w16.cell? ⟨Q01, 2, none⟩ = some (.int .i64 a0_2) := bC Q00 2; have Q0v := blk_frozen Q00.out 0; have Q0w := blk_frozen Q00.out 1; have Q0x := blk_frozen Q00.out 2) | ((with_reducible refine gate_callee (f := 52) rfl ?_); refine goesL_ (some 7) rfl rfl Try.func52 (by kernel_rfl) rfl #[.int .i64 a0_0] rfl aM ?_; (with_reducible refine (scarfjointref05_kind.calls a0_0 false _ A3.out).mono ?_); rintro e w' ⟨rfl, ⟨nd, rfl⟩⟩; refine ⟨_, rfl, ?_⟩))
  go_ret
  exact ⟨by first | rfl | (simp [errW_none, errW_some] <;> rfl) | (simp [*, errW_none, errW_some] <;> rfl), by repeat (first | (with_reducible first | exact HB.out | apply wA | apply wN | apply wD | refine below_set ?_ Q02.out) | exact HB.out)⟩
/-! ### scarfjointref05_Valid: function 21 -/
mutual
def scarfjointref05_Valid.j0 : Nat → Bool → List Int → List (S94) → Option (Int)
 | 0, _, _, _ => none
 | k + 1, x14, x102000, x102001 => if x14 = true then (some 3) else (scarfjointref05_Valid.l0 k 0 x102000 x102001)
def scarfjointref05_Valid.l0 : Nat → Int → List Int → List (S94) → Option (Int)
 | 0, _, _, _ => none
 | k + 1, x3, x102000, x102001 => if x3 < (x102000.length : Int) then (if 0 ≤ x3 then ((scarfjointref05_kind.f (rd x102000 x3)).bind fun t103 => (if t103 = true then (scarfjointref05_Valid.l0 k (wrap64 (x3 + 1)) x102000 x102001) else (some 6))) else (none)) else (scarfjointref05_Valid.l1 k 0 x102000 x102001)
def scarfjointref05_Valid.l1 : Nat → Int → List Int → List (S94) → Option (Int)
 | 0, _, _, _ => none
 | k + 1, x4, x102000, x102001 => if x4 < (x102001.length : Int) then (if 0 ≤ x4 then ((scarfjointref05_right.f ((rd_T94 x102001 x4).f0) ((rd_T94 x102001 x4).f1) ((rd_T94 x102001 x4).f2) (x102000.length : Int)).bind fun t105 => (if t105 = true then (scarfjointref05_Valid.l1 k (wrap64 (x4 + 1)) x102000 x102001) else (some 6))) else (none)) else (some 0)
end
def scarfjointref05_Valid.f (k : Nat) (l0_0 : List Int) (l0_1 : List (S94)) : Option (Int) := if (l0_0.length : Int) > 40 then (scarfjointref05_Valid.j0 k true l0_0 l0_1) else (scarfjointref05_Valid.j0 k (decide ((l0_1.length : Int) > 80)) l0_0 l0_1)
theorem scarfjointref05_Valid.mono_l : ∀ k, (∀ y0 y1 y2, LeO (scarfjointref05_Valid.j0 k y0 y1 y2) (scarfjointref05_Valid.j0 (k + 1) y0 y1 y2)) ∧ (∀ y0 y1 y2, LeO (scarfjointref05_Valid.l0 k y0 y1 y2) (scarfjointref05_Valid.l0 (k + 1) y0 y1 y2)) ∧ (∀ y0 y1 y2, LeO (scarfjointref05_Valid.l1 k y0 y1 y2) (scarfjointref05_Valid.l1 (k + 1) y0 y1 y2))
 | 0 => ⟨fun _ _ _ r h => by simp [scarfjointref05_Valid.j0] at h, fun _ _ _ r h => by simp [scarfjointref05_Valid.l0] at h, fun _ _ _ r h => by simp [scarfjointref05_Valid.l1] at h⟩
 | k + 1 => by
  obtain ⟨ih0, ih1, ih2⟩ := scarfjointref05_Valid.mono_l k
  refine ⟨?_, ?_, ?_⟩
  ·intro y0 y1 y2
   unfold scarfjointref05_Valid.j0
   repeat' first
   | (with_reducible exact ih0 _ _ _)
   | (with_reducible exact ih1 _ _ _)
   | (with_reducible exact ih2 _ _ _)
   | (with_reducible exact LeO.refl _)
   | (with_reducible exact LeO.none _)
   | (with_reducible refine LeO.ite ?_ ?_)
   | (with_reducible refine LeO.bind ?_ (fun _ => ?_))
   | exact ih0 _ _ _
   | exact ih1 _ _ _
   | exact ih2 _ _ _
   | exact LeO.none _
   | refine LeO.ite ?_ ?_
   | refine LeO.bind ?_ (fun _ => ?_)
  ·intro y0 y1 y2
   unfold scarfjointref05_Valid.l0
   repeat' first
   | (with_reducible exact ih0 _ _ _)
   | (with_reducible exact ih1 _ _ _)
   | (with_reducible exact ih2 _ _ _)
   | (with_reducible exact LeO.refl _)
   | (with_reducible exact LeO.none _)
   | (with_reducible refine LeO.ite ?_ ?_)
   | (with_reducible refine LeO.bind ?_ (fun _ => ?_))
   | exact ih0 _ _ _
   | exact ih1 _ _ _
   | exact ih2 _ _ _
   | exact LeO.none _
   | refine LeO.ite ?_ ?_
   | refine LeO.bind ?_ (fun _ => ?_)
  ·intro y0 y1 y2
   unfold scarfjointref05_Valid.l1
   repeat' first
   | (with_reducible exact ih0 _ _ _)
   | (with_reducible exact ih1 _ _ _)
   | (with_reducible exact ih2 _ _ _)
   | (with_reducible exact LeO.refl _)
   | (with_reducible exact LeO.none _)
   | (with_reducible refine LeO.ite ?_ ?_)
   | (with_reducible refine LeO.bind ?_ (fun _ => ?_))
   | exact ih0 _ _ _
   | exact ih1 _ _ _
   | exact ih2 _ _ _
   | exact LeO.none _
   | refine LeO.ite ?_ ?_
   | refine LeO.bind ?_ (fun _ => ?_)
theorem scarfjointref05_Valid.mono : ∀ a0 a1 k, LeO (scarfjointref05_Valid.f k a0 a1) (scarfjointref05_Valid.f (k + 1) a0 a1) := by
 intro a0 a1 k
 obtain ⟨ih0, ih1, ih2⟩ := scarfjointref05_Valid.mono_l k
 unfold scarfjointref05_Valid.f
 repeat' first
   | (with_reducible exact ih0 _ _ _)
   | (with_reducible exact ih1 _ _ _)
   | (with_reducible exact ih2 _ _ _)
   | (with_reducible exact LeO.refl _)
   | (with_reducible exact LeO.none _)
   | (with_reducible refine LeO.ite ?_ ?_)
   | (with_reducible refine LeO.bind ?_ (fun _ => ?_))
   | exact ih0 _ _ _
   | exact ih1 _ _ _
   | exact ih2 _ _ _
   | exact LeO.none _
   | refine LeO.ite ?_ ?_
   | refine LeO.bind ?_ (fun _ => ?_)
def scarfjointref05_Valid.T11 : Bool × List (List Nat × List Nat) := (true, [([], []), ([0], [0]), ([], []), ([1, 2], [1, 2]), ([3], [3]), ([], []), ([5], [5]), ([6], [6]), ([4, 7], [4, 7]), ([8], [8])])
def scarfjointref05_Valid.B11 : List Nat := [0, 1, 0, 7, 15, 0, 32, 96, 255, 511]
theorem scarfjointref05_Valid.tab11 : rtab .any (opsOf Try.f21 11) = scarfjointref05_Valid.T11 := by kernel_rfl
theorem scarfjointref05_Valid.bits11 : waitsOk scarfjointref05_Valid.T11.2 scarfjointref05_Valid.B11 = true := by kernel_rfl
set_option maxHeartbeats 8000000 in
set_option maxRecDepth 100000 in
theorem scarfjointref05_Valid.calls (k : Nat) (A0_0 : Option Addr) (c0_0 : Nat) (l0_0 : List Int) (A0_1 : Option Addr) (c0_1 : Nat) (l0_1 : List (S94)) (r : Int) (w : World) (hr0_0 : Kd.C (Kd.int .i64) w A0_0 l0_0.length l0_0) (hc0_0 : l0_0.length ≤ c0_0) (hr0_1 : Kd.C k94 w A0_1 l0_1.length l0_1) (hc0_1 : l0_1.length ≤ c0_1) (h : scarfjointref05_Valid.f k l0_0 l0_1 = some r) :
  Calls Try.prog 21 #[.agg #[.slice A0_0 l0_0.length c0_0, .slice A0_1 l0_1.length c0_1]] w fun e w' => e = .returned (.int .i64 r) ∧ Below w.heap.size w w' := by
 have hu25 := Try.underlying25
 have hu94 := Try.underlying94
 have HR0_0 := Aside0.mk hr0_0
 have HC0_0 := Aside0.mk hc0_0
 clear hr0_0 hc0_0
 have HR0_1 := Aside0.mk hr0_1
 have HC0_1 := Aside0.mk hc0_1
 clear hr0_1 hc0_1
 have HB := Aside0.mk (Below.refl w.heap.size w)
 have H : (if (l0_0.length : Int) > 40 then (scarfjointref05_Valid.j0 k true l0_0 l0_1) else (scarfjointref05_Valid.j0 k (decide ((l0_1.length : Int) > 80)) l0_0 l0_1)) = some r := h
 clear h
 have HC2 := Aside0.mk H
 clear H
 go_enter Try.func21, Try.ntmps21
 go_upto_region 1 with (first | ((with_reducible refine gate_dst (N := 1) rfl ?_); (try (refine gate_guard (by rfl) ?_; dsimp only)); refine box_event ?hg (N := 1) ?hd (cs := #[.slice A0_0 l0_0.length c0_0, .slice A0_1 l0_1.length c0_1]) (t := 25) ?hr ?_; (case hd => rfl); (case hg => rfl); (case hr => first | (go_simp; done) | (go_simp; rfl)); intro Q01 hg w3 hbox hb; have Q00 := Aside0.mk (hbox); have Q0n := Aside0.mk ((by rw [hg]; exact (below_size hB) : w.heap.size ≤ Q01)); have Q02 := Aside0.mk ((by rw [hg]; exact (below_size hB) : w.heap.size ≤ Q01)); replace HB := uH HB hb; clear hb hbox hg))
 (try simp only [Act.put, List.setIfInBounds_toArray, List.set_cons_zero, List.set_cons_succ])
 go_cut [14] (fun v14 wc => ∃ (kq : Nat) (x14_1 : Bool), v14 = .bool x14_1 ∧ Aside0 (scarfjointref05_Valid.j0 kq x14_1 l0_0 l0_1 = some r) ∧ Aside0 (kq ≤ k) ∧ Aside0 (wc.heap[Q01]? = some (.cells #[(.slice A0_0 l0_0.length c0_0), (.slice A0_1 l0_1.length c0_1)] 25 (0, 0))) ∧ Aside0 (Below w.heap.size w wc))
 case first =>
  have H := HC2.out
  clear HC2
  by_cases c4 : (l0_0.length : Int) > 40
  ·rw [if_pos c4] at H
   have c4b0 : decide (40 < (l0_0.length : Int)) = true := decide_eq_true c4
   have c4b1 : decide (40 < l0_0.length) = true := decide_eq_true (by omega)
   clear c4
   (first | rw [c4b0] | (simp only [i64_w, i32_w]; rw [c4b0]) | skip)
   have H' := Aside0.mk H
   clear H
   have Q03 : w3.cell? ⟨Q01, 0, none⟩ = some (.slice A0_0 l0_0.length c0_0) := bC Q00 0
   have Q04 : w3.cell? ⟨Q01, 1, none⟩ = some (.slice A0_1 l0_1.length c0_1) := bC Q00 1
   have Q05 := blk_frozen Q00.out 0
   have Q06 := blk_frozen Q00.out 1
   go_wp2
   go_meet
   case rel => exact ⟨_, (true), rS, H', ⟨by first | omega | exact Nat.le_refl _⟩, ⟨pB Q00⟩, ⟨pH HB⟩⟩
  ·rw [if_neg c4] at H
   have c4b0 : decide (40 < (l0_0.length : Int)) = false := decide_eq_false c4
   have c4b1 : decide (40 < l0_0.length) = false := decide_eq_false (by omega)
   clear c4
   (first | rw [c4b0] | (simp only [i64_w, i32_w]; rw [c4b0]) | skip)
   have H' := Aside0.mk H
   clear H
   have Q07 : w3.cell? ⟨Q01, 0, none⟩ = some (.slice A0_0 l0_0.length c0_0) := bC Q00 0
   have Q08 : w3.cell? ⟨Q01, 1, none⟩ = some (.slice A0_1 l0_1.length c0_1) := bC Q00 1
   have Q09 := blk_frozen Q00.out 0
   have Q0a := blk_frozen Q00.out 1
   go_wp2
   go_meet
   case rel => exact ⟨_, (decide ((l0_1.length : Int) > 80)), rS, H', ⟨by first | omega | exact Nat.le_refl _⟩, ⟨pB Q00⟩, ⟨pH HB⟩⟩
 case rest =>
  clear HC2
  try clear c2; try clear p2; try clear c4; try clear c4b0; try clear c4b1; try clear Q03; try clear Q04; try clear Q07; try clear Q08; try clear Q05; try clear Q06; try clear Q09; try clear Q0a
  obtain ⟨kq, x14_1, rfl, HA, HJ1, Q00, HB⟩ := hcut
  cases kq with
  | zero => exact absurd HA.out (by simp [scarfjointref05_Valid.j0])
  | succ kj1 =>
   have H := HA.out
   clear HA
   simp only [scarfjointref05_Valid.j0] at H
   by_cases c7 : x14_1 = true
   ·subst c7
    have H1 : (some 3) = some r := by rw [if_pos rfl] at H; exact H
    clear H
    have H := H1
    clear H1
    obtain rfl := Option.some.inj H
    go_wp2
    go_ret
    exact ⟨by first | rfl | (simp [errW_none, errW_some] <;> rfl) | (simp [*, errW_none, errW_some] <;> rfl), by repeat (first | (with_reducible first | exact HB.out | apply wA | apply wN | apply wD | refine below_set ?_ Q02.out) | exact HB.out)⟩
   ·replace c7 := Bool.eq_false_iff.mpr c7
    subst c7
    have H1 : (scarfjointref05_Valid.l0 kj1 0 l0_0 l0_1) = some r := by rw [if_neg (show ¬ (false = true) by decide)] at H; exact H
    clear H
    have H := H1
    clear H1
    have H' := Aside0.mk H
    clear H
    go_wp2
    go_loopg [3] kj1 (fun kq v3 w' => ∃ (x3_2 : Int), v3 = .int .i64 x3_2 ∧ Aside0 (scarfjointref05_Valid.l0 kq x3_2 l0_0 l0_1 = some r) ∧ Aside0 (kq ≤ kj1) ∧ Aside0 (w'.heap[Q01]? = some (.cells #[(.slice A0_0 l0_0.length c0_0), (.slice A0_1 l0_1.length c0_1)] 25 (0, 0))) ∧ Aside0 (Below w.heap.size w w'))
    case atStart => exact ⟨(0), rS, H', ⟨Nat.le_refl _⟩, ⟨pB Q00⟩, ⟨pH HB⟩⟩
    case round =>
     clear H'
     try clear c2; try clear p2; try clear c4; try clear c4b0; try clear c4b1; try clear c7; try clear Q03; try clear Q04; try clear Q07; try clear Q08; try clear Q05; try clear Q06; try clear Q09; try clear Q0a; try clear p2
     obtain ⟨x3_2, rfl, HA, HK2, Q00, HB⟩ := hrel
     cases gk with
     | zero => exact absurd HA.out (by simp [scarfjointref05_Valid.l0])
     | succ k2 =>
      have H := HA.out
      clear HA
      simp only [scarfjointref05_Valid.l0] at H
      by_cases c8 : x3_2 < (l0_0.length : Int)
      ·rw [if_pos c8] at H
       have c8b0 : decide (x3_2 < (l0_0.length : Int)) = true := decide_eq_true c8
       clear c8
       by_cases c9 : 0 ≤ x3_2
       ·rw [if_pos c9] at H
        have c9b0 : decide (0 ≤ x3_2) = true := decide_eq_true c9
        clear c9
        replace H := Option.bind_eq_some_iff.mp H
        obtain ⟨t103, A100, H⟩ := H
        replace H : (if t103 = true then (scarfjointref05_Valid.l0 k2 (wrap64 (x3_2 + 1)) l0_0 l0_1) else (some 6)) = some r := H
        have A10 := Aside0.mk A100
        clear A100
        by_cases c11 : t103 = true
        ·subst c11
         have H1 : (scarfjointref05_Valid.l0 k2 (wrap64 (x3_2 + 1)) l0_0 l0_1) = some r := by rw [if_pos rfl] at H; exact H
         clear H
         have H := H1
         clear H1
         have H' := Aside0.mk H
         clear H
         have Q0b : wr.cell? ⟨Q01, 0, none⟩ = some (.slice A0_0 l0_0.length c0_0) := bC Q00 0
         have Q0c : wr.cell? ⟨Q01, 1, none⟩ = some (.slice A0_1 l0_1.length c0_1) := bC Q00 1
         have Q0d := blk_frozen Q00.out 0
         have Q0e := blk_frozen Q00.out 1
         have p102 : 0 ≤ (x3_2 : Int) := oT
         have q102 : x3_2 < (l0_0.length : Int) := oT
         obtain ⟨ad102, e102, hx102_0⟩ := Kd.at_int HR0_0.out x3_2 p102 q102
         cases e102
         replace hx102_0 := (HB.out.cell (World.block_lt_of_cell? w _ hx102_0)).trans hx102_0
         replace p102 := eq_true p102
         replace q102 := eq_true q102
         go_wp2_with (first | ((with_reducible refine gate_callee (f := 52) rfl ?_); refine goesL_ (some 27) rfl rfl Try.func52 (by kernel_rfl) rfl #[.int .i64 (rd l0_0 x3_2)] rfl aM ?_; (with_reducible refine (scarfjointref05_kind.calls (rd l0_0 x3_2) true _ A10.out).mono ?_); rintro e w' ⟨rfl, ⟨nd, rfl⟩⟩; refine ⟨_, rfl, ?_⟩))
         go_roundg k2
         case measure => have := HJ1.out; have := HK2.out; omega
         case rel => exact ⟨(wrap64 (x3_2 + 1)), rS, H', ⟨by have := HJ1.out; have := HK2.out; omega⟩, ⟨pB Q00⟩, ⟨pH HB⟩⟩
        ·replace c11 := Bool.eq_false_iff.mpr c11
         subst c11
         have H1 : (some 6) = some r := by rw [if_neg (show ¬ (false = true) by decide)] at H; exact H
         clear H
         have H := H1
         clear H1
         obtain rfl := Option.some.inj H
         have Q0f : wr.cell? ⟨Q01, 0, none⟩ = some (.slice A0_0 l0_0.length c0_0) := bC Q00 0
         have Q0g : wr.cell? ⟨Q01, 1, none⟩ = some (.slice A0_1 l0_1.length c0_1) := bC Q00 1
         have Q0h := blk_frozen Q00.out 0
         have Q0i := blk_frozen Q00.out 1
         have p102 : 0 ≤ (x3_2 : Int) := oT
         have q102 : x3_2 < (l0_0.length : Int) := oT
         obtain ⟨ad102, e102, hx102_0⟩ := Kd.at_int HR0_0.out x3_2 p102 q102
         cases e102
         replace hx102_0 := (HB.out.cell (World.block_lt_of_cell? w _ hx102_0)).trans hx102_0
         replace p102 := eq_true p102
         replace q102 := eq_true q102
         go_wp2_with (first | ((with_reducible refine gate_callee (f := 52) rfl ?_); refine goesL_ (some 27) rfl rfl Try.func52 (by kernel_rfl) rfl #[.int .i64 (rd l0_0 x3_2)] rfl aM ?_; (with_reducible refine (scarfjointref05_kind.calls (rd l0_0 x3_2) false _ A10.out).mono ?_); rintro e w' ⟨rfl, ⟨nd, rfl⟩⟩; refine ⟨_, rfl, ?_⟩))
         go_ret
         exact ⟨by first | rfl | (simp [errW_none, errW_some] <;> rfl) | (simp [*, errW_none, errW_some] <;> rfl), by repeat (first | (with_reducible first | exact HB.out | apply wA | apply wN | apply wD | refine below_set ?_ Q02.out) | exact HB.out)⟩
       ·rw [if_neg c9] at H
        exact absurd H (by simp)
      ·rw [if_neg c8] at H
       have c8b0 : decide (x3_2 < (l0_0.length : Int)) = false := decide_eq_false c8
       clear c8
       have H' := Aside0.mk H
       clear H
       have Q0j : wr.cell? ⟨Q01, 0, none⟩ = some (.slice A0_0 l0_0.length c0_0) := bC Q00 0
       have Q0k : wr.cell? ⟨Q01, 1, none⟩ = some (.slice A0_1 l0_1.length c0_1) := bC Q00 1
       have Q0l := blk_frozen Q00.out 0
       have Q0m := blk_frozen Q00.out 1
       go_wp2
       go_loopg [4] k2 (fun kq v4 w' => ∃ (x4_3 : Int), v4 = .int .i64 x4_3 ∧ Aside0 (scarfjointref05_Valid.l1 kq x4_3 l0_0 l0_1 = some r) ∧ Aside0 (kq ≤ k2) ∧ Aside0 (w'.heap[Q01]? = some (.cells #[(.slice A0_0 l0_0.length c0_0), (.slice A0_1 l0_1.length c0_1)] 25 (0, 0))) ∧ Aside0 (Below w.heap.size w w'))
       case atStart => exact ⟨(0), rS, H', ⟨Nat.le_refl _⟩, ⟨pB Q00⟩, ⟨pH HB⟩⟩
       case round =>
        clear H'
        try clear c1; try clear c2; try clear p2; try clear q2; try clear hx2; try clear c4; try clear c4b0; try clear c4b1; try clear c5; try clear p6; try clear c7; try clear c8; try clear c8b0; try clear c9; try clear c9b0; try clear c11; try clear Q0b; try clear Q0c; try clear Q0f; try clear Q0g; try clear Q0j; try clear Q0k; try clear Q03; try clear Q04; try clear Q07; try clear Q08; try clear Q0d; try clear Q0e; try clear Q0h; try clear Q0i; try clear Q0l; try clear Q0m; try clear Q05; try clear Q06; try clear Q09; try clear Q0a; try clear hx102_0; try clear p2; try clear p102; try clear q102
        obtain ⟨x4_3, rfl, HA, HK3, Q00, HB⟩ := hrel
        cases gk with
        | zero => exact absurd HA.out (by simp [scarfjointref05_Valid.l1])
        | succ k3 =>
         have H := HA.out
         clear HA
         simp only [scarfjointref05_Valid.l1] at H
         by_cases c15 : x4_3 < (l0_1.length : Int)
         ·rw [if_pos c15] at H
          have c15b0 : decide (x4_3 < (l0_1.length : Int)) = true := decide_eq_true c15
          clear c15
          by_cases c16 : 0 ≤ x4_3
          ·rw [if_pos c16] at H
           have c16b0 : decide (0 ≤ x4_3) = true := decide_eq_true c16
           clear c16
           replace H := Option.bind_eq_some_iff.mp H
           obtain ⟨t105, A170, H⟩ := H
           replace H : (if t105 = true then (scarfjointref05_Valid.l1 k3 (wrap64 (x4_3 + 1)) l0_0 l0_1) else (some 6)) = some r := H
           have A17 := Aside0.mk A170
           clear A170
           by_cases c18 : t105 = true
           ·subst c18
            have H1 : (scarfjointref05_Valid.l1 k3 (wrap64 (x4_3 + 1)) l0_0 l0_1) = some r := by rw [if_pos rfl] at H; exact H
            clear H
            have H := H1
            clear H1
            have H' := Aside0.mk H
            clear H
            have Q0o : wr.cell? ⟨Q01, 0, none⟩ = some (.slice A0_0 l0_0.length c0_0) := bC Q00 0
            have Q0p : wr.cell? ⟨Q01, 1, none⟩ = some (.slice A0_1 l0_1.length c0_1) := bC Q00 1
            have Q0q := blk_frozen Q00.out 0
            have Q0r := blk_frozen Q00.out 1
            try go_wp2
            replace Q00 := Aside0.mk (bD Q00.out)
            replace HB := Aside0.mk (wD HB.out)
            have p104 : 0 ≤ (x4_3 : Int) := oT
            have q104 : x4_3 < (l0_1.length : Int) := oT
            obtain ⟨ad104, e104, hx104_0, hx104_1, hx104_2⟩ := at_T94 HR0_1.out x4_3 p104 q104
            have hw104_2 := hx104_2
            have hw104_1 := hx104_1
            have hw104_0 := hx104_0
            cases e104
            replace hx104_0 := (HB.out.cell (World.block_lt_of_cell? w _ hx104_0)).trans hx104_0
            replace hx104_1 := (HB.out.cell (World.block_lt_of_cell? w _ hx104_1)).trans hx104_1
            replace hx104_2 := (HB.out.cell (World.block_lt_of_cell? w _ hx104_2)).trans hx104_2
            replace p104 := eq_true p104
            replace q104 := eq_true q104
            refine start_ (n := 10) (S := fun w' => w'.cell? ⟨Q01, 0, none⟩ = some (.slice A0_0 l0_0.length c0_0) ∧ w'.cell? ⟨Q01, 1, none⟩ = some (.slice (some ad104) l0_1.length c0_1) ∧ w'.cell? (ad104.add ((x4_3).toNat * 3)) = some (.int .i64 ((rd_T94 l0_1 x4_3).f0)) ∧ w'.cell? ⟨(ad104.add ((x4_3).toNat * 3)).block, (ad104.add ((x4_3).toNat * 3)).off + 1, none⟩ = some (.int .i64 ((rd_T94 l0_1 x4_3).f1)) ∧ w'.cell? ⟨(ad104.add ((x4_3).toNat * 3)).block, (ad104.add ((x4_3).toNat * 3)).off + 2, none⟩ = some (.int .i64 ((rd_T94 l0_1 x4_3).f2))) (ds := []) #[false, false, false, false, false, false, false, false, false, false] (by kernel_rfl) rfl rfl ⟨bC Q00 0, bC Q00 1, ((HB.out.cell (World.block_lt_of_cell? w _ hw104_0)).trans hw104_0), ((HB.out.cell (World.block_lt_of_cell? w _ hw104_1)).trans hw104_1), ((HB.out.cell (World.block_lt_of_cell? w _ hw104_2)).trans hw104_2)⟩ (fun hHeld => ?_); refine with_tabW scarfjointref05_Valid.tab11 scarfjointref05_Valid.bits11 (fun HT_ HW_ => ?_)
            generalize wr.drew = w20 at Q00 HB hx104_0 hx104_1 hx104_2 hHeld ⊢
            refine pure_ (i := 0) (N := some 36) (v := ?_) (a' := ?_) #[true, false, false, false, false, false, false, false, false, false] rfl rfl (any_of HT_.out (by kernel_rfl)) (fun _ _ _ h => h) (Or.inl ⟨by rfl, ?_⟩) ?_ ?_
            rotate_left
            ·intro w'
             go_simp
             with_reducible rfl
            rotate_left
            ·simp only [Act.put, List.setIfInBounds_toArray, List.set_cons_zero, List.set_cons_succ, i64_w, i32_w]
             rfl
            refine pure_ (i := 2) (N := some 38) (v := ?_) (a' := ?_) #[true, false, true, false, false, false, false, false, false, false] rfl rfl (any_of HT_.out (by kernel_rfl)) (fun _ _ _ h => h) (Or.inl ⟨by rfl, ?_⟩) ?_ ?_
            rotate_left
            ·intro w'
             go_simp
             with_reducible rfl
            rotate_left
            ·simp only [Act.put, List.setIfInBounds_toArray, List.set_cons_zero, List.set_cons_succ, i64_w, i32_w]
             rfl
            refine pure_ (i := 5) (N := some 41) (v := ?_) (a' := ?_) #[true, false, true, false, false, true, false, false, false, false] rfl rfl (any_of HT_.out (by kernel_rfl)) (fun _ _ _ h => h) (Or.inl ⟨by rfl, ?_⟩) ?_ ?_
            rotate_left
            ·intro w'
             go_simp
             with_reducible rfl
            rotate_left
            ·simp only [Act.put, List.setIfInBounds_toArray, List.set_cons_zero, List.set_cons_succ, i64_w, i32_w]
             rfl
            refine take_ (i := 1) (N := some 37) (v := ?_) (a' := ?_) #[true, true, true, false, false, true, false, false, false, false] rfl rfl (take_ofW HT_.out HW_.out (by kernel_rfl)) (fun _ _ _ h => h) (Or.inl ⟨by rfl, ?_⟩) hHeld ?_ ?_
            rotate_left
            ·rintro w' ⟨s0, s1, s2, s3, s4⟩
             go_simp
             with_reducible rfl
            rotate_left
            ·simp only [Act.put, List.setIfInBounds_toArray, List.set_cons_zero, List.set_cons_succ, i64_w, i32_w]
             rfl
            refine pure_ (i := 3) (N := some 39) (v := ?_) (a' := ?_) #[true, true, true, true, false, true, false, false, false, false] rfl rfl (any_of HT_.out (by kernel_rfl)) (fun _ _ _ h => h) (Or.inl ⟨by rfl, ?_⟩) ?_ ?_
            rotate_left
            ·intro w'
             go_simp
             with_reducible rfl
            rotate_left
            ·simp only [Act.put, List.setIfInBounds_toArray, List.set_cons_zero, List.set_cons_succ, i64_w, i32_w]
             rfl
            refine take_ (i := 4) (N := some 40) (v := ?_) (a' := ?_) #[true, true, true, true, true, true, false, false, false, false] rfl rfl (take_ofW HT_.out HW_.out (by kernel_rfl)) (fun _ _ _ h => h) (Or.inl ⟨by rfl, ?_⟩) hHeld ?_ ?_
            rotate_left
            ·rintro w' ⟨s0, s1, s2, s3, s4⟩
             go_simp
             with_reducible rfl
            rotate_left
            ·simp only [Act.put, List.setIfInBounds_toArray, List.set_cons_zero, List.set_cons_succ, i64_w, i32_w]
             rfl
            refine take_ (i := 6) (N := some 42) (v := ?_) (a' := ?_) #[true, true, true, true, true, true, true, false, false, false] rfl rfl (take_ofW HT_.out HW_.out (by kernel_rfl)) (fun _ _ _ h => h) (Or.inl ⟨by rfl, ?_⟩) hHeld ?_ ?_
            rotate_left
            ·rintro w' ⟨s0, s1, s2, s3, s4⟩
             go_simp
             with_reducible rfl
            rotate_left
            ·simp only [Act.put, List.setIfInBounds_toArray, List.set_cons_zero, List.set_cons_succ, i64_w, i32_w]
             rfl
            refine pure_ (i := 7) (N := some 43) (v := ?_) (a' := ?_) #[true, true, true, true, true, true, true, true, false, false] rfl rfl (any_of HT_.out (by kernel_rfl)) (fun _ _ _ h => h) (Or.inl ⟨by rfl, ?_⟩) ?_ ?_
            rotate_left
            ·intro w'
             go_simp
             with_reducible rfl
            rotate_left
            ·simp only [Act.put, List.setIfInBounds_toArray, List.set_cons_zero, List.set_cons_succ, i64_w, i32_w]
             rfl
            refine one_ (i := 8) (N := some 44) #[true, true, true, true, true, true, true, true, true, false] rfl rfl (one_of HT_.out (by kernel_rfl)) (by decide) (fun K hK => ?_)
            refine goes_ Try.func53 (by kernel_rfl) rfl #[.agg #[.int .i64 ((rd_T94 l0_1 x4_3).f0), .int .i64 ((rd_T94 l0_1 x4_3).f1), .int .i64 ((rd_T94 l0_1 x4_3).f2)], .int .i64 (l0_0.length : Int)] (by rfl) rfl rfl aM ?_
            with_reducible refine (scarfjointref05_right.calls ((rd_T94 l0_1 x4_3).f0) ((rd_T94 l0_1 x4_3).f1) ((rd_T94 l0_1 x4_3).f2) (l0_0.length : Int) true _ A17.out).mono ?_
            rintro e w21 ⟨rfl, hb⟩
            refine ⟨_, rfl, ?_⟩
            replace Q00 := uB Q00 hb
            replace HB := uH HB hb
            (try clear hb)
            (try clear hb2)
            (try clear hk)
            (try clear hi)
            refine hK.out _ _ ⟨bC Q00 0, bC Q00 1, ((HB.out.cell (World.block_lt_of_cell? w _ hw104_0)).trans hw104_0), ((HB.out.cell (World.block_lt_of_cell? w _ hw104_1)).trans hw104_1), ((HB.out.cell (World.block_lt_of_cell? w _ hw104_2)).trans hw104_2)⟩ (fun hHeld => ?_)
            clear hK K
            refine norm_ (a' := ?_) ?_ ?_
            rotate_left
            ·show Act.put _ (some 44) _ = _
             simp only [Act.put, List.setIfInBounds_toArray, List.set_cons_zero, List.set_cons_succ, i64_w, i32_w]
             rfl
            refine pure_ (i := 9) (N := some 45) (v := ?_) (a' := ?_) #[true, true, true, true, true, true, true, true, true, true] rfl rfl (any_of HT_.out (by kernel_rfl)) (fun _ _ _ h => h) (Or.inl ⟨by rfl, ?_⟩) ?_ ?_
            rotate_left
            ·intro w'
             go_simp
             with_reducible rfl
            rotate_left
            ·simp only [Act.put, List.setIfInBounds_toArray, List.set_cons_zero, List.set_cons_succ, i64_w, i32_w]
             rfl
            refine done_ (done_of HT_.out (by kernel_rfl)) ?_
            try go_wp2
            go_roundg k3
            case measure => have := HJ1.out; have := HK2.out; have := HK3.out; omega
            case rel => exact ⟨(wrap64 (x4_3 + 1)), rS, H', ⟨by have := HJ1.out; have := HK2.out; have := HK3.out; omega⟩, ⟨pB Q00⟩, ⟨pH HB⟩⟩
           ·replace c18 := Bool.eq_false_iff.mpr c18
            subst c18
            have H1 : (some 6) = some r := by rw [if_neg (show ¬ (false = true) by decide)] at H; exact H
            clear H
            have H := H1
            clear H1
            obtain rfl := Option.some.inj H
            have Q0s : wr.cell? ⟨Q01, 0, none⟩ = some (.slice A0_0 l0_0.length c0_0) := bC Q00 0
            have Q0t : wr.cell? ⟨Q01, 1, none⟩ = some (.slice A0_1 l0_1.length c0_1) := bC Q00 1
            have Q0u := blk_frozen Q00.out 0
            have Q0v := blk_frozen Q00.out 1
            try go_wp2
            replace Q00 := Aside0.mk (bD Q00.out)
            replace HB := Aside0.mk (wD HB.out)
            have p104 : 0 ≤ (x4_3 : Int) := oT
            have q104 : x4_3 < (l0_1.length : Int) := oT
            obtain ⟨ad104, e104, hx104_0, hx104_1, hx104_2⟩ := at_T94 HR0_1.out x4_3 p104 q104
            have hw104_2 := hx104_2
            have hw104_1 := hx104_1
            have hw104_0 := hx104_0
            cases e104
            replace hx104_0 := (HB.out.cell (World.block_lt_of_cell? w _ hx104_0)).trans hx104_0
            replace hx104_1 := (HB.out.cell (World.block_lt_of_cell? w _ hx104_1)).trans hx104_1
            replace hx104_2 := (HB.out.cell (World.block_lt_of_cell? w _ hx104_2)).trans hx104_2
            replace p104 := eq_true p104
            replace q104 := eq_true q104
            refine start_ (n := 10) (S := fun w' => w'.cell? ⟨Q01, 0, none⟩ = some (.slice A0_0 l0_0.length c0_0) ∧ w'.cell? ⟨Q01, 1, none⟩ = some (.slice (some ad104) l0_1.length c0_1) ∧ w'.cell? (ad104.add ((x4_3).toNat * 3)) = some (.int .i64 ((rd_T94 l0_1 x4_3).f0)) ∧ w'.cell? ⟨(ad104.add ((x4_3).toNat * 3)).block, (ad104.add ((x4_3).toNat * 3)).off + 1, none⟩ = some (.int .i64 ((rd_T94 l0_1 x4_3).f1)) ∧ w'.cell? ⟨(ad104.add ((x4_3).toNat * 3)).block, (ad104.add ((x4_3).toNat * 3)).off + 2, none⟩ = some (.int .i64 ((rd_T94 l0_1 x4_3).f2))) (ds := []) #[false, false, false, false, false, false, false, false, false, false] (by kernel_rfl) rfl rfl ⟨bC Q00 0, bC Q00 1, ((HB.out.cell (World.block_lt_of_cell? w _ hw104_0)).trans hw104_0), ((HB.out.cell (World.block_lt_of_cell? w _ hw104_1)).trans hw104_1), ((HB.out.cell (World.block_lt_of_cell? w _ hw104_2)).trans hw104_2)⟩ (fun hHeld => ?_); refine with_tabW scarfjointref05_Valid.tab11 scarfjointref05_Valid.bits11 (fun HT_ HW_ => ?_)
            generalize wr.drew = w23 at Q00 HB hx104_0 hx104_1 hx104_2 hHeld ⊢
            refine pure_ (i := 0) (N := some 36) (v := ?_) (a' := ?_) #[true, false, false, false, false, false, false, false, false, false] rfl rfl (any_of HT_.out (by kernel_rfl)) (fun _ _ _ h => h) (Or.inl ⟨by rfl, ?_⟩) ?_ ?_
            rotate_left
            ·intro w'
             go_simp
             with_reducible rfl
            rotate_left
            ·simp only [Act.put, List.setIfInBounds_toArray, List.set_cons_zero, List.set_cons_succ, i64_w, i32_w]
             rfl
            refine pure_ (i := 2) (N := some 38) (v := ?_) (a' := ?_) #[true, false, true, false, false, false, false, false, false, false] rfl rfl (any_of HT_.out (by kernel_rfl)) (fun _ _ _ h => h) (Or.inl ⟨by rfl, ?_⟩) ?_ ?_
            rotate_left
            ·intro w'
             go_simp
             with_reducible rfl
            rotate_left
            ·simp only [Act.put, List.setIfInBounds_toArray, List.set_cons_zero, List.set_cons_succ, i64_w, i32_w]
             rfl
            refine pure_ (i := 5) (N := some 41) (v := ?_) (a' := ?_) #[true, false, true, false, false, true, false, false, false, false] rfl rfl (any_of HT_.out (by kernel_rfl)) (fun _ _ _ h => h) (Or.inl ⟨by rfl, ?_⟩) ?_ ?_
            rotate_left
            ·intro w'
             go_simp
             with_reducible rfl
            rotate_left
            ·simp only [Act.put, List.setIfInBounds_toArray, List.set_cons_zero, List.set_cons_succ, i64_w, i32_w]
             rfl
            refine take_ (i := 1) (N := some 37) (v := ?_) (a' := ?_) #[true, true, true, false, false, true, false, false, false, false] rfl rfl (take_ofW HT_.out HW_.out (by kernel_rfl)) (fun _ _ _ h => h) (Or.inl ⟨by rfl, ?_⟩) hHeld ?_ ?_
            rotate_left
            ·rintro w' ⟨s0, s1, s2, s3, s4⟩
             go_simp
             with_reducible rfl
            rotate_left
            ·simp only [Act.put, List.setIfInBounds_toArray, List.set_cons_zero, List.set_cons_succ, i64_w, i32_w]
             rfl
            refine pure_ (i := 3) (N := some 39) (v := ?_) (a' := ?_) #[true, true, true, true, false, true, false, false, false, false] rfl rfl (any_of HT_.out (by kernel_rfl)) (fun _ _ _ h => h) (Or.inl ⟨by rfl, ?_⟩) ?_ ?_
            rotate_left
            ·intro w'
             go_simp
             with_reducible rfl
            rotate_left
            ·simp only [Act.put, List.setIfInBounds_toArray, List.set_cons_zero, List.set_cons_succ, i64_w, i32_w]
             rfl
            refine take_ (i := 4) (N := some 40) (v := ?_) (a' := ?_) #[true, true, true, true, true, true, false, false, false, false] rfl rfl (take_ofW HT_.out HW_.out (by kernel_rfl)) (fun _ _ _ h => h) (Or.inl ⟨by rfl, ?_⟩) hHeld ?_ ?_
            rotate_left
            ·rintro w' ⟨s0, s1, s2, s3, s4⟩
             go_simp
             with_reducible rfl
            rotate_left
            ·simp only [Act.put, List.setIfInBounds_toArray, List.set_cons_zero, List.set_cons_succ, i64_w, i32_w]
             rfl
            refine take_ (i := 6) (N := some 42) (v := ?_) (a' := ?_) #[true, true, true, true, true, true, true, false, false, false] rfl rfl (take_ofW HT_.out HW_.out (by kernel_rfl)) (fun _ _ _ h => h) (Or.inl ⟨by rfl, ?_⟩) hHeld ?_ ?_
            rotate_left
            ·rintro w' ⟨s0, s1, s2, s3, s4⟩
             go_simp
             with_reducible rfl
            rotate_left
            ·simp only [Act.put, List.setIfInBounds_toArray, List.set_cons_zero, List.set_cons_succ, i64_w, i32_w]
             rfl
            refine pure_ (i := 7) (N := some 43) (v := ?_) (a' := ?_) #[true, true, true, true, true, true, true, true, false, false] rfl rfl (any_of HT_.out (by kernel_rfl)) (fun _ _ _ h => h) (Or.inl ⟨by rfl, ?_⟩) ?_ ?_
            rotate_left
            ·intro w'
             go_simp
             with_reducible rfl
            rotate_left
            ·simp only [Act.put, List.setIfInBounds_toArray, List.set_cons_zero, List.set_cons_succ, i64_w, i32_w]
             rfl
            refine one_ (i := 8) (N := some 44) #[true, true, true, true, true, true, true, true, true, false] rfl rfl (one_of HT_.out (by kernel_rfl)) (by decide) (fun K hK => ?_)
            refine goes_ Try.func53 (by kernel_rfl) rfl #[.agg #[.int .i64 ((rd_T94 l0_1 x4_3).f0), .int .i64 ((rd_T94 l0_1 x4_3).f1), .int .i64 ((rd_T94 l0_1 x4_3).f2)], .int .i64 (l0_0.length : Int)] (by rfl) rfl rfl aM ?_
            with_reducible refine (scarfjointref05_right.calls ((rd_T94 l0_1 x4_3).f0) ((rd_T94 l0_1 x4_3).f1) ((rd_T94 l0_1 x4_3).f2) (l0_0.length : Int) false _ A17.out).mono ?_
            rintro e w24 ⟨rfl, hb⟩
            refine ⟨_, rfl, ?_⟩
            replace Q00 := uB Q00 hb
            replace HB := uH HB hb
            (try clear hb)
            (try clear hb2)
            (try clear hk)
            (try clear hi)
            refine hK.out _ _ ⟨bC Q00 0, bC Q00 1, ((HB.out.cell (World.block_lt_of_cell? w _ hw104_0)).trans hw104_0), ((HB.out.cell (World.block_lt_of_cell? w _ hw104_1)).trans hw104_1), ((HB.out.cell (World.block_lt_of_cell? w _ hw104_2)).trans hw104_2)⟩ (fun hHeld => ?_)
            clear hK K
            refine norm_ (a' := ?_) ?_ ?_
            rotate_left
            ·show Act.put _ (some 44) _ = _
             simp only [Act.put, List.setIfInBounds_toArray, List.set_cons_zero, List.set_cons_succ, i64_w, i32_w]
             rfl
            refine pure_ (i := 9) (N := some 45) (v := ?_) (a' := ?_) #[true, true, true, true, true, true, true, true, true, true] rfl rfl (any_of HT_.out (by kernel_rfl)) (fun _ _ _ h => h) (Or.inl ⟨by rfl, ?_⟩) ?_ ?_
            rotate_left
            ·intro w'
             go_simp
             with_reducible rfl
            rotate_left
            ·simp only [Act.put, List.setIfInBounds_toArray, List.set_cons_zero, List.set_cons_succ, i64_w, i32_w]
             rfl
            refine done_ (done_of HT_.out (by kernel_rfl)) ?_
            try go_wp2
            go_ret
            exact ⟨by first | rfl | (simp [errW_none, errW_some] <;> rfl) | (simp [*, errW_none, errW_some] <;> rfl), by repeat (first | (with_reducible first | exact HB.out | apply wA | apply wN | apply wD | refine below_set ?_ Q02.out) | exact HB.out)⟩
          ·rw [if_neg c16] at H
           exact absurd H (by simp)
         ·rw [if_neg c15] at H
          have c15b0 : decide (x4_3 < (l0_1.length : Int)) = false := decide_eq_false c15
          clear c15
          obtain rfl := Option.some.inj H
          have Q0w : wr.cell? ⟨Q01, 0, none⟩ = some (.slice A0_0 l0_0.length c0_0) := bC Q00 0
          have Q0x : wr.cell? ⟨Q01, 1, none⟩ = some (.slice A0_1 l0_1.length c0_1) := bC Q00 1
          have Q0y := blk_frozen Q00.out 0
          have Q0z := blk_frozen Q00.out 1
          go_wp2
          go_ret
          exact ⟨by first | rfl | (simp [errW_none, errW_some] <;> rfl) | (simp [*, errW_none, errW_some] <;> rfl), by repeat (first | (with_reducible first | exact HB.out | apply wA | apply wN | apply wD | refine below_set ?_ Q02.out) | exact HB.out)⟩
/-! ### scarfjointref05_Few: function 29 -/
def scarfjointref05_Few.f (l0_0 : List Int) (l0_1 : List (S94)) : Option (Bool) := if (l0_0.length : Int) ≤ 45 then (some (decide ((l0_1.length : Int) ≤ 90))) else (some false)
set_option maxHeartbeats 8000000 in
set_option maxRecDepth 100000 in
theorem scarfjointref05_Few.calls (A0_0 : Option Addr) (c0_0 : Nat) (l0_0 : List Int) (A0_1 : Option Addr) (c0_1 : Nat) (l0_1 : List (S94)) (r : Bool) (w : World) (hr0_0 : Kd.C (Kd.int .i64) w A0_0 l0_0.length l0_0) (hc0_0 : l0_0.length ≤ c0_0) (hr0_1 : Kd.C k94 w A0_1 l0_1.length l0_1) (hc0_1 : l0_1.length ≤ c0_1) (h : scarfjointref05_Few.f l0_0 l0_1 = some r) :
  Calls Try.prog 29 #[.agg #[.slice A0_0 l0_0.length c0_0, .slice A0_1 l0_1.length c0_1]] w fun e w' => e = .returned (.bool r) ∧ Below w.heap.size w w' := by
 have hu25 := Try.underlying25
 have HR0_0 := Aside0.mk hr0_0
 have HC0_0 := Aside0.mk hc0_0
 clear hr0_0 hc0_0
 have HR0_1 := Aside0.mk hr0_1
 have HC0_1 := Aside0.mk hc0_1
 clear hr0_1 hc0_1
 have HB := Aside0.mk (Below.refl w.heap.size w)
 have H : (if (l0_0.length : Int) ≤ 45 then (some (decide ((l0_1.length : Int) ≤ 90))) else (some false)) = some r := h
 clear h
 by_cases c2 : (l0_0.length : Int) ≤ 45
 ·rw [if_pos c2] at H
  have c2b0 : decide ((l0_0.length : Int) ≤ 45) = true := decide_eq_true c2
  have c2b1 : decide (l0_0.length ≤ 45) = true := decide_eq_true (by omega)
  clear c2
  obtain rfl := Option.some.inj H
  go_enter Try.func29, Try.ntmps29
  go_wp2_with (first | ((with_reducible refine gate_dst (N := 1) rfl ?_); (try (refine gate_guard (by rfl) ?_; dsimp only)); refine box_event ?hg (N := 1) ?hd (cs := #[.slice A0_0 l0_0.length c0_0, .slice A0_1 l0_1.length c0_1]) (t := 25) ?hr ?_; (case hd => rfl); (case hg => rfl); (case hr => first | (go_simp; done) | (go_simp; rfl)); intro Q00 hg w3 hbox hb; have Q01 := Aside0.mk (hbox); have Q03 := Aside0.mk ((by rw [hg]; exact (below_size hB) : w.heap.size ≤ Q00)); have Q02 := Aside0.mk ((by rw [hg]; exact (below_size hB) : w.heap.size ≤ Q00)); replace HB := uH HB hb; clear hb hbox hg; have Q04 : w3.cell? ⟨Q00, 0, none⟩ = some (.slice A0_0 l0_0.length c0_0) := bC Q01 0; have Q05 : w3.cell? ⟨Q00, 1, none⟩ = some (.slice A0_1 l0_1.length c0_1) := bC Q01 1; have Q06 := blk_frozen Q01.out 0; have Q07 := blk_frozen Q01.out 1))
  go_ret
  exact ⟨by first | rfl | (simp [errW_none, errW_some] <;> rfl) | (simp [*, errW_none, errW_some] <;> rfl), by repeat (first | (with_reducible first | exact HB.out | apply wA | apply wN | apply wD | refine below_set ?_ Q02.out) | exact HB.out)⟩
 ·rw [if_neg c2] at H
  have c2b0 : decide ((l0_0.length : Int) ≤ 45) = false := decide_eq_false c2
  have c2b1 : decide (l0_0.length ≤ 45) = false := decide_eq_false (by omega)
  clear c2
  obtain rfl := Option.some.inj H
  go_enter Try.func29, Try.ntmps29
  go_wp2_with (first | ((with_reducible refine gate_dst (N := 1) rfl ?_); (try (refine gate_guard (by rfl) ?_; dsimp only)); refine box_event ?hg (N := 1) ?hd (cs := #[.slice A0_0 l0_0.length c0_0, .slice A0_1 l0_1.length c0_1]) (t := 25) ?hr ?_; (case hd => rfl); (case hg => rfl); (case hr => first | (go_simp; done) | (go_simp; rfl)); intro Q00 hg w5 hbox hb; have Q01 := Aside0.mk (hbox); have Q03 := Aside0.mk ((by rw [hg]; exact (below_size hB) : w.heap.size ≤ Q00)); have Q02 := Aside0.mk ((by rw [hg]; exact (below_size hB) : w.heap.size ≤ Q00)); replace HB := uH HB hb; clear hb hbox hg; have Q08 : w5.cell? ⟨Q00, 0, none⟩ = some (.slice A0_0 l0_0.length c0_0) := bC Q01 0; have Q09 : w5.cell? ⟨Q00, 1, none⟩ = some (.slice A0_1 l0_1.length c0_1) := bC Q01 1; have Q0a := blk_frozen Q01.out 0; have Q0b := blk_frozen Q01.out 1))
  go_ret
  exact ⟨by first | rfl | (simp [errW_none, errW_some] <;> rfl) | (simp [*, errW_none, errW_some] <;> rfl), by repeat (first | (with_reducible first | exact HB.out | apply wA | apply wN | apply wD | refine below_set ?_ Q02.out) | exact HB.out)⟩
end Go.Proofs.Ytillofiphkmjjaa.X

namespace Go.Proofs.Ytillofiphkmjjaa.X
open Go.RowKit Go.Proofs.YtillofiphkmjjaaW.PrintWords Go.Proofs.YtillofiphkmjjaaW.PrintLast Go.Proofs.YtillofiphkmjjaaW.PrintMore
attribute [local go_sem] max2_int min2_int max_two min_two max_three min_three max_four min_four
set_option linter.unusedVariables false
set_option linter.unusedSimpArgs false
theorem eqA94 (d : Nat) (w : World) (x0 y0 : Int) (x1 y1 : Int) (x2 y2 : Int) :
  (Op.equalIn (d + 2) 94 (.agg #[.int .i64 x0, .int .i64 x1, .int .i64 x2]) (.agg #[.int .i64 y0, .int .i64 y1, .int .i64 y2])).run Try.prog w = .ok (x0 == y0 && (x1 == y1 && (x2 == y2))) w := by
 refine eqA_of Try.underlying94 (by kernel_rfl) ?_
 refine eqf_cons (by rfl) (by go_simp; rfl) (by go_simp; rfl) (by go_simp) ?_
 refine eqf_cons (by rfl) (by go_simp; rfl) (by go_simp; rfl) (by go_simp) ?_
 exact eqf_last (by rfl) (by go_simp; rfl) (by go_simp; rfl) (by go_simp)
end Go.Proofs.Ytillofiphkmjjaa.X

namespace Go.Proofs.Ytillofiphkmjjaa.X
open Go.RowKit Go.Proofs.YtillofiphkmjjaaW.PrintWords Go.Proofs.YtillofiphkmjjaaW.PrintLast Go.Proofs.YtillofiphkmjjaaW.PrintMore
open Go.Proofs.YtillofiphkmjjaaW.PrintWords renaming blk_drewN → bN, blk_drew → bD, blk_alloc → bA, below_alloc → wA, pw_below_drewN → wN, below_drew1 → wD, blk_below → bB, below_step → wS, blk_at → bT, blk_grown → bG
open Go.Proofs.YtillofiphkmjjaaW.PrintWords.Kd renaming R_alloc → rA, R_drewN → rN, R_drew → rD, R_below → rB, R_grown → rG, C_below → cB, C_alloc → cA, C_drewN → cN, C_drew → cD
attribute [local go_sem] max2_int min2_int max_two min_two max_three min_three max_four min_four
set_option linter.unusedVariables false
set_option linter.unusedSimpArgs false
/-! ### scarfjointref05_SameInts: function 61 -/
def scarfjointref05_SameInts.l0 : Nat → List Int → List Int → Int → Option (Bool)
 | 0, _, _, _ => none
 | k + 1, x0, x1, x5 => if x5 < (x0.length : Int) then (if 0 ≤ x5 then (if x5 < (x1.length : Int) then (if (rd x0 x5) = (rd x1 x5) then (scarfjointref05_SameInts.l0 k x0 x1 (wrap64 (x5 + 1))) else (some false)) else (none)) else (none)) else (some true)
def scarfjointref05_SameInts.f (k : Nat) (l0 : List Int) (l1 : List Int) : Option (Bool) := if (l0.length : Int) = (l1.length : Int) then (scarfjointref05_SameInts.l0 k l0 l1 0) else (some false)
theorem scarfjointref05_SameInts.mono_l : ∀ k, (∀ y0 y1 y2, LeO (scarfjointref05_SameInts.l0 k y0 y1 y2) (scarfjointref05_SameInts.l0 (k + 1) y0 y1 y2))
 | 0 => fun _ _ _ r h => by simp [scarfjointref05_SameInts.l0] at h
 | k + 1 => by
  have ih0 := scarfjointref05_SameInts.mono_l k
  ·intro y0 y1 y2
   unfold scarfjointref05_SameInts.l0
   repeat' first
   | (with_reducible exact ih0 _ _ _)
   | (with_reducible exact LeO.refl _)
   | (with_reducible exact LeO.none _)
   | (with_reducible refine LeO.ite ?_ ?_)
   | (with_reducible refine LeO.bind ?_ (fun _ => ?_))
   | exact ih0 _ _ _
   | exact LeO.none _
   | refine LeO.ite ?_ ?_
   | refine LeO.bind ?_ (fun _ => ?_)
theorem scarfjointref05_SameInts.mono : ∀ a0 a1 k, LeO (scarfjointref05_SameInts.f k a0 a1) (scarfjointref05_SameInts.f (k + 1) a0 a1) := by
 intro a0 a1 k
 have ih0 := scarfjointref05_SameInts.mono_l k
 unfold scarfjointref05_SameInts.f
 repeat' first
   | (with_reducible exact ih0 _ _ _)
   | (with_reducible exact LeO.refl _)
   | (with_reducible exact LeO.none _)
   | (with_reducible refine LeO.ite ?_ ?_)
   | (with_reducible refine LeO.bind ?_ (fun _ => ?_))
   | exact ih0 _ _ _
   | exact LeO.none _
   | refine LeO.ite ?_ ?_
   | refine LeO.bind ?_ (fun _ => ?_)
set_option maxHeartbeats 8000000 in
set_option maxRecDepth 100000 in
theorem scarfjointref05_SameInts.calls (k : Nat) (A0 : Option Addr) (c0 : Nat) (l0 : List Int) (A1 : Option Addr) (c1 : Nat) (l1 : List Int) (r : Bool) (w : World) (hr0 : Kd.C (Kd.int .i64) w A0 l0.length l0) (hc0 : l0.length ≤ c0) (hr1 : Kd.C (Kd.int .i64) w A1 l1.length l1) (hc1 : l1.length ≤ c1) (h : scarfjointref05_SameInts.f k l0 l1 = some r) :
  Calls Try.prog 61 #[.slice A0 l0.length c0, .slice A1 l1.length c1] w fun e w' => e = .returned (.bool r) ∧ Drawn0 w w' := by
 have HR0 := Aside0.mk hr0
 have HC0 := Aside0.mk hc0
 clear hr0 hc0
 have HR1 := Aside0.mk hr1
 have HC1 := Aside0.mk hc1
 clear hr1 hc1
 have H : (if (l0.length : Int) = (l1.length : Int) then (scarfjointref05_SameInts.l0 k l0 l1 0) else (some false)) = some r := h
 clear h
 by_cases c3 : (l0.length : Int) = (l1.length : Int)
 ·rw [if_pos c3] at H
  have c3b0 : ((l0.length : Int) == (l1.length : Int)) = true := beq_iff_eq.mpr c3
  have c3b1 : ((l0.length : Int) != (l1.length : Int)) = false := bne_eq_false_iff_eq.mpr c3
  have c3b2 : (l0.length == l1.length) = true := by first | simpa using c3 | (simp at c3 ⊢; omega)
  clear c3
  have H' := Aside0.mk H
  clear H
  go_enter Try.func61, Try.ntmps61
  go_wp2
  repeat (go_quiet (fail); try go_wp2)
  go_loopg [5] k (fun kq v5 w' => ∃ (x5_1 : Int), v5 = .int .i64 x5_1 ∧ Aside0 (scarfjointref05_SameInts.l0 kq l0 l1 x5_1 = some r) ∧ Aside0 (kq ≤ k) ∧ Drawn0 w w')
  case atStart => exact ⟨(0), rS, H', ⟨Nat.le_refl _⟩, by repeat (first | exact Drawn0.refl _ | apply Drawn0.step)⟩
  case round =>
   clear H'
   try clear c1; try clear p2; try clear c3; try clear c3b0; try clear c3b1; try clear c3b2
   obtain ⟨x5_1, rfl, HA, HK1, ⟨m1, rfl⟩⟩ := hrel
   cases gk with
   | zero => exact absurd HA.out (by simp [scarfjointref05_SameInts.l0])
   | succ k1 =>
    have H := HA.out
    clear HA
    simp only [scarfjointref05_SameInts.l0] at H
    by_cases c4 : x5_1 < (l0.length : Int)
    ·rw [if_pos c4] at H
     have c4b0 : decide (x5_1 < (l0.length : Int)) = true := decide_eq_true c4
     clear c4
     by_cases c5 : 0 ≤ x5_1
     ·rw [if_pos c5] at H
      have c5b0 : decide (0 ≤ x5_1) = true := decide_eq_true c5
      clear c5
      by_cases c6 : x5_1 < (l1.length : Int)
      ·rw [if_pos c6] at H
       have c6b0 : decide (x5_1 < (l1.length : Int)) = true := decide_eq_true c6
       clear c6
       by_cases c7 : (rd l0 x5_1) = (rd l1 x5_1)
       ·rw [if_pos c7] at H
        have c7b0 : ((rd l0 x5_1) == (rd l1 x5_1)) = true := beq_iff_eq.mpr c7
        have c7b1 : ((rd l0 x5_1) != (rd l1 x5_1)) = false := bne_eq_false_iff_eq.mpr c7
        clear c7
        have H' := Aside0.mk H
        clear H
        have p101 : 0 ≤ (x5_1 : Int) := oT
        have q101 : x5_1 < (l0.length : Int) := oT
        obtain ⟨ad101, e101, hx101_0⟩ := Kd.at_int HR0.out x5_1 p101 q101
        cases e101
        replace p101 := eq_true p101
        replace q101 := eq_true q101
        have p102 : 0 ≤ (x5_1 : Int) := oT
        have q102 : x5_1 < (l1.length : Int) := oT
        obtain ⟨ad102, e102, hx102_0⟩ := Kd.at_int HR1.out x5_1 p102 q102
        cases e102
        replace p102 := eq_true p102
        replace q102 := eq_true q102
        go_wp2
        repeat (go_quiet (fail); try go_wp2)
        go_roundg k1
        case measure => have := HK1.out; omega
        case rel => exact ⟨(wrap64 (x5_1 + 1)), rS, H', ⟨by have := HK1.out; omega⟩, by repeat (first | exact Drawn0.refl _ | apply Drawn0.step)⟩
       ·rw [if_neg c7] at H
        have c7b0 : ((rd l0 x5_1) == (rd l1 x5_1)) = false := beq_eq_false_iff_ne.mpr c7
        have c7b1 : ((rd l0 x5_1) != (rd l1 x5_1)) = true := bne_iff_ne.mpr c7
        obtain rfl := Option.some.inj H
        have p101 : 0 ≤ (x5_1 : Int) := oT
        have q101 : x5_1 < (l0.length : Int) := oT
        obtain ⟨ad101, e101, hx101_0⟩ := Kd.at_int HR0.out x5_1 p101 q101
        cases e101
        replace p101 := eq_true p101
        replace q101 := eq_true q101
        have p102 : 0 ≤ (x5_1 : Int) := oT
        have q102 : x5_1 < (l1.length : Int) := oT
        obtain ⟨ad102, e102, hx102_0⟩ := Kd.at_int HR1.out x5_1 p102 q102
        cases e102
        replace p102 := eq_true p102
        replace q102 := eq_true q102
        go_wp2
        repeat (go_quiet (fail); try go_wp2)
        go_ret
        exact ⟨by first | rfl | (simp; done) | (simp [*]; done), by repeat (first | exact Drawn0.refl _ | apply Drawn0.step)⟩
      ·rw [if_neg c6] at H
       exact absurd H (by simp)
     ·rw [if_neg c5] at H
      exact absurd H (by simp)
    ·rw [if_neg c4] at H
     have c4b0 : decide (x5_1 < (l0.length : Int)) = false := decide_eq_false c4
     clear c4
     obtain rfl := Option.some.inj H
     go_wp2
     repeat (go_quiet (fail); try go_wp2)
     go_ret
     exact ⟨by first | rfl | (simp; done) | (simp [*]; done), by repeat (first | exact Drawn0.refl _ | apply Drawn0.step)⟩
 ·rw [if_neg c3] at H
  have c3b0 : ((l0.length : Int) == (l1.length : Int)) = false := beq_eq_false_iff_ne.mpr c3
  have c3b1 : ((l0.length : Int) != (l1.length : Int)) = true := bne_iff_ne.mpr c3
  have c3b2 : (l0.length == l1.length) = false := by first | simpa using c3 | (simp at c3 ⊢; omega)
  obtain rfl := Option.some.inj H
  go_enter Try.func61, Try.ntmps61
  go_wp2
  repeat (go_quiet (fail); try go_wp2)
  go_ret
  exact ⟨by first | rfl | (simp; done) | (simp [*]; done), by repeat (first | exact Drawn0.refl _ | apply Drawn0.step)⟩
end Go.Proofs.Ytillofiphkmjjaa.X

namespace Go.Proofs.Ytillofiphkmjjaa.X
open Go.RowKit Go.Proofs.YtillofiphkmjjaaW.PrintWords Go.Proofs.YtillofiphkmjjaaW.PrintLast Go.Proofs.YtillofiphkmjjaaW.PrintMore
open Go.Proofs.YtillofiphkmjjaaW.PrintWords renaming blk_drewN → bN, blk_drew → bD, blk_alloc → bA, below_alloc → wA, pw_below_drewN → wN, below_drew1 → wD, blk_below → bB, below_step → wS, blk_at → bT, blk_grown → bG
open Go.Proofs.YtillofiphkmjjaaW.PrintWords.Kd renaming R_alloc → rA, R_drewN → rN, R_drew → rD, R_below → rB, R_grown → rG, C_below → cB, C_alloc → cA, C_drewN → cN, C_drew → cD
attribute [local go_sem] max2_int min2_int max_two min_two max_three min_three max_four min_four
set_option linter.unusedVariables false
set_option linter.unusedSimpArgs false
attribute [local go_sem high] eqA94
/-! ### scarfjointref05_Same: function 38 -/
mutual
def scarfjointref05_Same.j0 : Nat → Bool → List Int → List (S94) → List Int → List (S94) → Option (Bool)
 | 0, _, _, _, _, _ => none
 | k + 1, x20, x102000, x102001, x103000, x103001 => if x20 = true then (some false) else (scarfjointref05_Same.l0 k 0 x102000 x102001 x103000 x103001)
def scarfjointref05_Same.l0 : Nat → Int → List Int → List (S94) → List Int → List (S94) → Option (Bool)
 | 0, _, _, _, _, _ => none
 | k + 1, x5, x102000, x102001, x103000, x103001 => if x5 < (x102001.length : Int) then (if 0 ≤ x5 then (if x5 < (x103001.length : Int) then (if (!(((rd_T94 x102001 x5).f0) == ((rd_T94 x103001 x5).f0)) || (!(((rd_T94 x102001 x5).f1) == ((rd_T94 x103001 x5).f1)) || (!(((rd_T94 x102001 x5).f2) == ((rd_T94 x103001 x5).f2))))) = true then (some false) else (scarfjointref05_Same.l0 k (wrap64 (x5 + 1)) x102000 x102001 x103000 x103001)) else (none)) else (none)) else (some true)
end
def scarfjointref05_Same.f (k : Nat) (l0_0 : List Int) (l0_1 : List (S94)) (l1_0 : List Int) (l1_1 : List (S94)) : Option (Bool) := (scarfjointref05_SameInts.f k l0_0 l1_0).bind fun t103 => (if t103 = true then (scarfjointref05_Same.j0 k ((l0_1.length : Int) != (l1_1.length : Int)) l0_0 l0_1 l1_0 l1_1) else (scarfjointref05_Same.j0 k true l0_0 l0_1 l1_0 l1_1))
theorem scarfjointref05_Same.mono_l : ∀ k, (∀ y0 y1 y2 y3 y4, LeO (scarfjointref05_Same.j0 k y0 y1 y2 y3 y4) (scarfjointref05_Same.j0 (k + 1) y0 y1 y2 y3 y4)) ∧ (∀ y0 y1 y2 y3 y4, LeO (scarfjointref05_Same.l0 k y0 y1 y2 y3 y4) (scarfjointref05_Same.l0 (k + 1) y0 y1 y2 y3 y4))
 | 0 => ⟨fun _ _ _ _ _ r h => by simp [scarfjointref05_Same.j0] at h, fun _ _ _ _ _ r h => by simp [scarfjointref05_Same.l0] at h⟩
 | k + 1 => by
  obtain ⟨ih0, ih1⟩ := scarfjointref05_Same.mono_l k
  refine ⟨?_, ?_⟩
  ·intro y0 y1 y2 y3 y4
   unfold scarfjointref05_Same.j0
   repeat' first
   | (with_reducible exact ih0 _ _ _ _ _)
   | (with_reducible exact ih1 _ _ _ _ _)
   | (with_reducible exact scarfjointref05_SameInts.mono _ _ _)
   | (with_reducible exact LeO.refl _)
   | (with_reducible exact LeO.none _)
   | (with_reducible refine LeO.ite ?_ ?_)
   | (with_reducible refine LeO.bind ?_ (fun _ => ?_))
   | exact ih0 _ _ _ _ _
   | exact ih1 _ _ _ _ _
   | exact scarfjointref05_SameInts.mono _ _ _
   | exact LeO.none _
   | refine LeO.ite ?_ ?_
   | refine LeO.bind ?_ (fun _ => ?_)
  ·intro y0 y1 y2 y3 y4
   unfold scarfjointref05_Same.l0
   repeat' first
   | (with_reducible exact ih0 _ _ _ _ _)
   | (with_reducible exact ih1 _ _ _ _ _)
   | (with_reducible exact scarfjointref05_SameInts.mono _ _ _)
   | (with_reducible exact LeO.refl _)
   | (with_reducible exact LeO.none _)
   | (with_reducible refine LeO.ite ?_ ?_)
   | (with_reducible refine LeO.bind ?_ (fun _ => ?_))
   | exact ih0 _ _ _ _ _
   | exact ih1 _ _ _ _ _
   | exact scarfjointref05_SameInts.mono _ _ _
   | exact LeO.none _
   | refine LeO.ite ?_ ?_
   | refine LeO.bind ?_ (fun _ => ?_)
theorem scarfjointref05_Same.mono : ∀ a0 a1 a2 a3 k, LeO (scarfjointref05_Same.f k a0 a1 a2 a3) (scarfjointref05_Same.f (k + 1) a0 a1 a2 a3) := by
 intro a0 a1 a2 a3 k
 obtain ⟨ih0, ih1⟩ := scarfjointref05_Same.mono_l k
 unfold scarfjointref05_Same.f
 repeat' first
   | (with_reducible exact ih0 _ _ _ _ _)
   | (with_reducible exact ih1 _ _ _ _ _)
   | (with_reducible exact scarfjointref05_SameInts.mono _ _ _)
   | (with_reducible exact LeO.refl _)
   | (with_reducible exact LeO.none _)
   | (with_reducible refine LeO.ite ?_ ?_)
   | (with_reducible refine LeO.bind ?_ (fun _ => ?_))
   | exact ih0 _ _ _ _ _
   | exact ih1 _ _ _ _ _
   | exact scarfjointref05_SameInts.mono _ _ _
   | exact LeO.none _
   | refine LeO.ite ?_ ?_
   | refine LeO.bind ?_ (fun _ => ?_)
set_option maxHeartbeats 8000000 in
set_option maxRecDepth 100000 in
theorem scarfjointref05_Same.calls (k : Nat) (A0_0 : Option Addr) (c0_0 : Nat) (l0_0 : List Int) (A0_1 : Option Addr) (c0_1 : Nat) (l0_1 : List (S94)) (A1_0 : Option Addr) (c1_0 : Nat) (l1_0 : List Int) (A1_1 : Option Addr) (c1_1 : Nat) (l1_1 : List (S94)) (r : Bool) (w : World) (hr0_0 : Kd.C (Kd.int .i64) w A0_0 l0_0.length l0_0) (hc0_0 : l0_0.length ≤ c0_0) (hr0_1 : Kd.C k94 w A0_1 l0_1.length l0_1) (hc0_1 : l0_1.length ≤ c0_1) (hr1_0 : Kd.C (Kd.int .i64) w A1_0 l1_0.length l1_0) (hc1_0 : l1_0.length ≤ c1_0) (hr1_1 : Kd.C k94 w A1_1 l1_1.length l1_1) (hc1_1 : l1_1.length ≤ c1_1) (h : scarfjointref05_Same.f k l0_0 l0_1 l1_0 l1_1 = some r) :
  Calls Try.prog 38 #[.agg #[.slice A0_0 l0_0.length c0_0, .slice A0_1 l0_1.length c0_1], .agg #[.slice A1_0 l1_0.length c1_0, .slice A1_1 l1_1.length c1_1]] w fun e w' => e = .returned (.bool r) ∧ Below w.heap.size w w' := by
 have hu25 := Try.underlying25
 have hu94 := Try.underlying94
 have HR0_0 := Aside0.mk hr0_0
 have HC0_0 := Aside0.mk hc0_0
 clear hr0_0 hc0_0
 have HR0_1 := Aside0.mk hr0_1
 have HC0_1 := Aside0.mk hc0_1
 clear hr0_1 hc0_1
 have HR1_0 := Aside0.mk hr1_0
 have HC1_0 := Aside0.mk hc1_0
 clear hr1_0 hc1_0
 have HR1_1 := Aside0.mk hr1_1
 have HC1_1 := Aside0.mk hc1_1
 clear hr1_1 hc1_1
 have HB := Aside0.mk (Below.refl w.heap.size w)
 have H : ((scarfjointref05_SameInts.f k l0_0 l1_0).bind fun t103 => (if t103 = true then (scarfjointref05_Same.j0 k ((l0_1.length : Int) != (l1_1.length : Int)) l0_0 l0_1 l1_0 l1_1) else (scarfjointref05_Same.j0 k true l0_0 l0_1 l1_0 l1_1))) = some r := h
 clear h
 have HC3 := Aside0.mk H
 clear H
 go_enter Try.func38, Try.ntmps38
 go_upto_region 1 with (first | ((with_reducible refine gate_dst (N := 2) rfl ?_); (try (refine gate_guard (by rfl) ?_; dsimp only)); refine box_event ?hg (N := 2) ?hd (cs := #[.slice A0_0 l0_0.length c0_0, .slice A0_1 l0_1.length c0_1]) (t := 25) ?hr ?_; (case hd => rfl); (case hg => rfl); (case hr => first | (go_simp; done) | (go_simp; rfl)); intro Q02 hg w4 hbox hb; have Q00 := Aside0.mk (hbox); have Q08 := Aside0.mk ((by rw [hg]; exact (below_size hB) : w.heap.size ≤ Q02)); have Q06 := Aside0.mk ((by rw [hg]; exact (below_size hB) : w.heap.size ≤ Q02)); replace HB := uH HB hb; clear hb hbox hg) | ((with_reducible refine gate_dst (N := 3) rfl ?_); (try (refine gate_guard (by rfl) ?_; dsimp only)); refine box_event ?hg (N := 3) ?hd (cs := #[.slice A1_0 l1_0.length c1_0, .slice A1_1 l1_1.length c1_1]) (t := 25) ?hr ?_; (case hd => rfl); (case hg => rfl); (case hr => first | (go_simp; done) | (go_simp; rfl)); intro Q03 hg w5 hbox hb; have Q01 := Aside0.mk (hbox); have Q09 := uS HB hg; have Q07 := uS HB hg; replace HB := uH HB hb; have Q04 := uL Q00 hg; have Q05 := uG Q00 hg; replace Q00 := uB Q00 hb; clear hb hbox hg))
 repeat (go_quiet (first | ((with_reducible refine gate_dst (N := 2) rfl ?_); (try (refine gate_guard (by rfl) ?_; dsimp only)); refine box_event ?hg (N := 2) ?hd (cs := #[.slice A0_0 l0_0.length c0_0, .slice A0_1 l0_1.length c0_1]) (t := 25) ?hr ?_; (case hd => rfl); (case hg => rfl); (case hr => first | (go_simp; done) | (go_simp; rfl)); intro Q02 hg w4 hbox hb; have Q00 := Aside0.mk (hbox); have Q08 := Aside0.mk ((by rw [hg]; exact (below_size hB) : w.heap.size ≤ Q02)); have Q06 := Aside0.mk ((by rw [hg]; exact (below_size hB) : w.heap.size ≤ Q02)); replace HB := uH HB hb; clear hb hbox hg) | ((with_reducible refine gate_dst (N := 3) rfl ?_); (try (refine gate_guard (by rfl) ?_; dsimp only)); refine box_event ?hg (N := 3) ?hd (cs := #[.slice A1_0 l1_0.length c1_0, .slice A1_1 l1_1.length c1_1]) (t := 25) ?hr ?_; (case hd => rfl); (case hg => rfl); (case hr => first | (go_simp; done) | (go_simp; rfl)); intro Q03 hg w5 hbox hb; have Q01 := Aside0.mk (hbox); have Q09 := uS HB hg; have Q07 := uS HB hg; replace HB := uH HB hb; have Q04 := uL Q00 hg; have Q05 := uG Q00 hg; replace Q00 := uB Q00 hb; clear hb hbox hg)); go_upto_region 1 with (first | ((with_reducible refine gate_dst (N := 2) rfl ?_); (try (refine gate_guard (by rfl) ?_; dsimp only)); refine box_event ?hg (N := 2) ?hd (cs := #[.slice A0_0 l0_0.length c0_0, .slice A0_1 l0_1.length c0_1]) (t := 25) ?hr ?_; (case hd => rfl); (case hg => rfl); (case hr => first | (go_simp; done) | (go_simp; rfl)); intro Q02 hg w4 hbox hb; have Q00 := Aside0.mk (hbox); have Q08 := Aside0.mk ((by rw [hg]; exact (below_size hB) : w.heap.size ≤ Q02)); have Q06 := Aside0.mk ((by rw [hg]; exact (below_size hB) : w.heap.size ≤ Q02)); replace HB := uH HB hb; clear hb hbox hg) | ((with_reducible refine gate_dst (N := 3) rfl ?_); (try (refine gate_guard (by rfl) ?_; dsimp only)); refine box_event ?hg (N := 3) ?hd (cs := #[.slice A1_0 l1_0.length c1_0, .slice A1_1 l1_1.length c1_1]) (t := 25) ?hr ?_; (case hd => rfl); (case hg => rfl); (case hr => first | (go_simp; done) | (go_simp; rfl)); intro Q03 hg w5 hbox hb; have Q01 := Aside0.mk (hbox); have Q09 := uS HB hg; have Q07 := uS HB hg; replace HB := uH HB hb; have Q04 := uL Q00 hg; have Q05 := uG Q00 hg; replace Q00 := uB Q00 hb; clear hb hbox hg)))
 (try simp only [Act.put, List.setIfInBounds_toArray, List.set_cons_zero, List.set_cons_succ])
 go_cut [20] (fun v20 wc => ∃ (kq : Nat) (x20_2 : Bool), v20 = .bool x20_2 ∧ Aside0 (scarfjointref05_Same.j0 kq x20_2 l0_0 l0_1 l1_0 l1_1 = some r) ∧ Aside0 (kq ≤ k) ∧ Aside0 (wc.heap[Q02]? = some (.cells #[(.slice A0_0 l0_0.length c0_0), (.slice A0_1 l0_1.length c0_1)] 25 (0, 0))) ∧ Aside0 (wc.heap[Q03]? = some (.cells #[(.slice A1_0 l1_0.length c1_0), (.slice A1_1 l1_1.length c1_1)] 25 (0, 0))) ∧ Aside0 (Below w.heap.size w wc))
 case first =>
  have H := HC3.out
  clear HC3
  replace H := Option.bind_eq_some_iff.mp H
  obtain ⟨t103, A60, H⟩ := H
  replace H : (if t103 = true then (scarfjointref05_Same.j0 k ((l0_1.length : Int) != (l1_1.length : Int)) l0_0 l0_1 l1_0 l1_1) else (scarfjointref05_Same.j0 k true l0_0 l0_1 l1_0 l1_1)) = some r := H
  have A6 := Aside0.mk A60
  clear A60
  by_cases c7 : t103 = true
  ·subst c7
   have H1 : (scarfjointref05_Same.j0 k ((l0_1.length : Int) != (l1_1.length : Int)) l0_0 l0_1 l1_0 l1_1) = some r := by rw [if_pos rfl] at H; exact H
   clear H
   have H := H1
   clear H1
   have H' := Aside0.mk H
   clear H
   have Q0q := Q04.out
   have Q0r := Q05.out
   have Q0a : w5.cell? ⟨Q02, 0, none⟩ = some (.slice A0_0 l0_0.length c0_0) := bC Q00 0
   have Q0b : w5.cell? ⟨Q02, 1, none⟩ = some (.slice A0_1 l0_1.length c0_1) := bC Q00 1
   have Q0c := blk_frozen Q00.out 0
   have Q0d := blk_frozen Q00.out 1
   have Q0e : w5.cell? ⟨Q03, 0, none⟩ = some (.slice A1_0 l1_0.length c1_0) := bC Q01 0
   have Q0f : w5.cell? ⟨Q03, 1, none⟩ = some (.slice A1_1 l1_1.length c1_1) := bC Q01 1
   have Q0g := blk_frozen Q01.out 0
   have Q0h := blk_frozen Q01.out 1
   iterate 3 (try (go_wp2_with (first | (go_at_call 61; (with_reducible refine (scarfjointref05_SameInts.calls k _ _ l0_0 _ _ l1_0 true _ ?side1 ?side2 ?side3 ?side4 A6.out).mono ?_); (case side1 => exact cX (cB HR0_0.out HB.out)); (case side2 => exact HC0_0.out); (case side3 => exact cX (cB HR1_0.out HB.out)); (case side4 => exact HC1_0.out); rintro e w' ⟨rfl, ⟨nd, rfl⟩⟩; (try first | exact ⟨rfl, _, World.drewN_drewN _ _ _⟩ | exact ⟨rfl, _, Eq.trans (World.drewN_drewN _ _ _) (congrArg (World.drewN _) (Nat.add_assoc _ _ _))⟩)))); try (go_quiet (fail)))
   go_meet
   case rel => exact ⟨_, (((l0_1.length : Int) != (l1_1.length : Int))), rS, H', ⟨by first | omega | exact Nat.le_refl _⟩, ⟨pB Q00⟩, ⟨pB Q01⟩, ⟨pH HB⟩⟩
  ·replace c7 := Bool.eq_false_iff.mpr c7
   subst c7
   have H1 : (scarfjointref05_Same.j0 k true l0_0 l0_1 l1_0 l1_1) = some r := by rw [if_neg (show ¬ (false = true) by decide)] at H; exact H
   clear H
   have H := H1
   clear H1
   have H' := Aside0.mk H
   clear H
   have Q0s := Q04.out
   have Q0t := Q05.out
   have Q0i : w5.cell? ⟨Q02, 0, none⟩ = some (.slice A0_0 l0_0.length c0_0) := bC Q00 0
   have Q0j : w5.cell? ⟨Q02, 1, none⟩ = some (.slice A0_1 l0_1.length c0_1) := bC Q00 1
   have Q0k := blk_frozen Q00.out 0
   have Q0l := blk_frozen Q00.out 1
   have Q0m : w5.cell? ⟨Q03, 0, none⟩ = some (.slice A1_0 l1_0.length c1_0) := bC Q01 0
   have Q0n : w5.cell? ⟨Q03, 1, none⟩ = some (.slice A1_1 l1_1.length c1_1) := bC Q01 1
   have Q0o := blk_frozen Q01.out 0
   have Q0p := blk_frozen Q01.out 1
   iterate 3 (try (go_wp2_with (first | (go_at_call 61; (with_reducible refine (scarfjointref05_SameInts.calls k _ _ l0_0 _ _ l1_0 false _ ?side1 ?side2 ?side3 ?side4 A6.out).mono ?_); (case side1 => exact cX (cB HR0_0.out HB.out)); (case side2 => exact HC0_0.out); (case side3 => exact cX (cB HR1_0.out HB.out)); (case side4 => exact HC1_0.out); rintro e w' ⟨rfl, ⟨nd, rfl⟩⟩; (try first | exact ⟨rfl, _, World.drewN_drewN _ _ _⟩ | exact ⟨rfl, _, Eq.trans (World.drewN_drewN _ _ _) (congrArg (World.drewN _) (Nat.add_assoc _ _ _))⟩)))); try (go_quiet (fail)))
   go_meet
   case rel => exact ⟨_, (true), rS, H', ⟨by first | omega | exact Nat.le_refl _⟩, ⟨pB Q00⟩, ⟨pB Q01⟩, ⟨pH HB⟩⟩
 case rest =>
  clear HC3
  try clear c1; try clear p2; try clear c3; try clear c7; try clear c8; try clear c11; try clear Q0e; try clear Q0f; try clear Q0i; try clear Q0j; try clear Q0m; try clear Q0n; try clear Q0a; try clear Q0b; try clear Q0g; try clear Q0h; try clear Q0k; try clear Q0l; try clear Q0o; try clear Q0p; try clear Q0c; try clear Q0d
  obtain ⟨kq, x20_2, rfl, HA, HJ2, Q00, Q01, HB⟩ := hcut
  cases kq with
  | zero => exact absurd HA.out (by simp [scarfjointref05_Same.j0])
  | succ kj2 =>
   have H := HA.out
   clear HA
   simp only [scarfjointref05_Same.j0] at H
   by_cases c14 : x20_2 = true
   ·subst c14
    have H1 : (some false) = some r := by rw [if_pos rfl] at H; exact H
    clear H
    have H := H1
    clear H1
    obtain rfl := Option.some.inj H
    go_wp2
    repeat (go_quiet (fail); try go_wp2)
    go_ret
    exact ⟨by first | rfl | (simp [errW_none, errW_some] <;> rfl) | (simp [*, errW_none, errW_some] <;> rfl), by repeat (first | (with_reducible first | exact HB.out | apply wA | apply wN | apply wD | refine below_set ?_ Q06.out | refine below_set ?_ Q07.out) | exact HB.out)⟩
   ·replace c14 := Bool.eq_false_iff.mpr c14
    subst c14
    have H1 : (scarfjointref05_Same.l0 kj2 0 l0_0 l0_1 l1_0 l1_1) = some r := by rw [if_neg (show ¬ (false = true) by decide)] at H; exact H
    clear H
    have H := H1
    clear H1
    have H' := Aside0.mk H
    clear H
    go_wp2
    repeat (go_quiet (fail); try go_wp2)
    go_loopg [5] kj2 (fun kq v5 w' => ∃ (x5_2 : Int), v5 = .int .i64 x5_2 ∧ Aside0 (scarfjointref05_Same.l0 kq x5_2 l0_0 l0_1 l1_0 l1_1 = some r) ∧ Aside0 (kq ≤ kj2) ∧ Aside0 (w'.heap[Q02]? = some (.cells #[(.slice A0_0 l0_0.length c0_0), (.slice A0_1 l0_1.length c0_1)] 25 (0, 0))) ∧ Aside0 (w'.heap[Q03]? = some (.cells #[(.slice A1_0 l1_0.length c1_0), (.slice A1_1 l1_1.length c1_1)] 25 (0, 0))) ∧ Aside0 (Below w.heap.size w w'))
    case atStart => exact ⟨(0), rS, H', ⟨Nat.le_refl _⟩, ⟨pB Q00⟩, ⟨pB Q01⟩, ⟨pH HB⟩⟩
    case round =>
     clear H'
     try clear c1; try clear p2; try clear c3; try clear c7; try clear c8; try clear c11; try clear c14; try clear Q0e; try clear Q0f; try clear Q0i; try clear Q0j; try clear Q0m; try clear Q0n; try clear Q0a; try clear Q0b; try clear Q0g; try clear Q0h; try clear Q0k; try clear Q0l; try clear Q0o; try clear Q0p; try clear Q0c; try clear Q0d; try clear p2
     obtain ⟨x5_2, rfl, HA, HK2, Q00, Q01, HB⟩ := hrel
     cases gk with
     | zero => exact absurd HA.out (by simp [scarfjointref05_Same.l0])
     | succ k2 =>
      have H := HA.out
      clear HA
      simp only [scarfjointref05_Same.l0] at H
      by_cases c15 : x5_2 < (l0_1.length : Int)
      ·rw [if_pos c15] at H
       have c15b0 : decide (x5_2 < (l0_1.length : Int)) = true := decide_eq_true c15
       clear c15
       by_cases c16 : 0 ≤ x5_2
       ·rw [if_pos c16] at H
        have c16b0 : decide (0 ≤ x5_2) = true := decide_eq_true c16
        clear c16
        by_cases c17 : x5_2 < (l1_1.length : Int)
        ·rw [if_pos c17] at H
         have c17b0 : decide (x5_2 < (l1_1.length : Int)) = true := decide_eq_true c17
         clear c17
         by_cases c18 : (!(((rd_T94 l0_1 x5_2).f0) == ((rd_T94 l1_1 x5_2).f0)) || (!(((rd_T94 l0_1 x5_2).f1) == ((rd_T94 l1_1 x5_2).f1)) || (!(((rd_T94 l0_1 x5_2).f2) == ((rd_T94 l1_1 x5_2).f2))))) = true
         ·rw [if_pos c18] at H
          have c18b0 : (!(((rd_T94 l0_1 x5_2).f0) == ((rd_T94 l1_1 x5_2).f0)) || (!(((rd_T94 l0_1 x5_2).f1) == ((rd_T94 l1_1 x5_2).f1)) || (!(((rd_T94 l0_1 x5_2).f2) == ((rd_T94 l1_1 x5_2).f2))))) = true := c18
          clear c18
          obtain rfl := Option.some.inj H
          have Q0u := Q04.out
          have Q0v := Q05.out
          have Q0w : wr.cell? ⟨Q02, 0, none⟩ = some (.slice A0_0 l0_0.length c0_0) := bC Q00 0
          have Q0x : wr.cell? ⟨Q02, 1, none⟩ = some (.slice A0_1 l0_1.length c0_1) := bC Q00 1
          have Q0y := blk_frozen Q00.out 0
          have Q0z := blk_frozen Q00.out 1
          have p104 : 0 ≤ (x5_2 : Int) := oT
          have q104 : x5_2 < (l0_1.length : Int) := oT
          obtain ⟨ad104, e104, hx104_0, hx104_1, hx104_2⟩ := at_T94 HR0_1.out x5_2 p104 q104
          cases e104
          replace hx104_0 := (HB.out.cell (World.block_lt_of_cell? w _ hx104_0)).trans hx104_0
          replace hx104_1 := (HB.out.cell (World.block_lt_of_cell? w _ hx104_1)).trans hx104_1
          replace hx104_2 := (HB.out.cell (World.block_lt_of_cell? w _ hx104_2)).trans hx104_2
          replace p104 := eq_true p104
          replace q104 := eq_true q104
          have Q10 : wr.cell? ⟨Q03, 0, none⟩ = some (.slice A1_0 l1_0.length c1_0) := bC Q01 0
          have Q11 : wr.cell? ⟨Q03, 1, none⟩ = some (.slice A1_1 l1_1.length c1_1) := bC Q01 1
          have Q12 := blk_frozen Q01.out 0
          have Q13 := blk_frozen Q01.out 1
          have p105 : 0 ≤ (x5_2 : Int) := oT
          have q105 : x5_2 < (l1_1.length : Int) := oT
          obtain ⟨ad105, e105, hx105_0, hx105_1, hx105_2⟩ := at_T94 HR1_1.out x5_2 p105 q105
          cases e105
          replace hx105_0 := (HB.out.cell (World.block_lt_of_cell? w _ hx105_0)).trans hx105_0
          replace hx105_1 := (HB.out.cell (World.block_lt_of_cell? w _ hx105_1)).trans hx105_1
          replace hx105_2 := (HB.out.cell (World.block_lt_of_cell? w _ hx105_2)).trans hx105_2
          replace p105 := eq_true p105
          replace q105 := eq_true q105
          go_wp2
          repeat (go_quiet (fail); try go_wp2)
          go_ret
          exact ⟨by first | rfl | (simp [errW_none, errW_some] <;> rfl) | (simp [*, errW_none, errW_some] <;> rfl), by repeat (first | (with_reducible first | exact HB.out | apply wA | apply wN | apply wD | refine below_set ?_ Q06.out | refine below_set ?_ Q07.out) | exact HB.out)⟩
         ·rw [if_neg c18] at H
          have c18b0 : (!(((rd_T94 l0_1 x5_2).f0) == ((rd_T94 l1_1 x5_2).f0)) || (!(((rd_T94 l0_1 x5_2).f1) == ((rd_T94 l1_1 x5_2).f1)) || (!(((rd_T94 l0_1 x5_2).f2) == ((rd_T94 l1_1 x5_2).f2))))) = false := by simpa using c18
          clear c18
          have H' := Aside0.mk H
          clear H
          have Q14 := Q04.out
          have Q15 := Q05.out
          have Q16 : wr.cell? ⟨Q02, 0, none⟩ = some (.slice A0_0 l0_0.length c0_0) := bC Q00 0
          have Q17 : wr.cell? ⟨Q02, 1, none⟩ = some (.slice A0_1 l0_1.length c0_1) := bC Q00 1
          have Q18 := blk_frozen Q00.out 0
          have Q19 := blk_frozen Q00.out 1
          have p104 : 0 ≤ (x5_2 : Int) := oT
          have q104 : x5_2 < (l0_1.length : Int) := oT
          obtain ⟨ad104, e104, hx104_0, hx104_1, hx104_2⟩ := at_T94 HR0_1.out x5_2 p104 q104
          cases e104
          replace hx104_0 := (HB.out.cell (World.block_lt_of_cell? w _ hx104_0)).trans hx104_0
          replace hx104_1 := (HB.out.cell (World.block_lt_of_cell? w _ hx104_1)).trans hx104_1
          replace hx104_2 := (HB.out.cell (World.block_lt_of_cell? w _ hx104_2)).trans hx104_2
          replace p104 := eq_true p104
          replace q104 := eq_true q104
          have Q1a : wr.cell? ⟨Q03, 0, none⟩ = some (.slice A1_0 l1_0.length c1_0) := bC Q01 0
          have Q1b : wr.cell? ⟨Q03, 1, none⟩ = some (.slice A1_1 l1_1.length c1_1) := bC Q01 1
          have Q1c := blk_frozen Q01.out 0
          have Q1d := blk_frozen Q01.out 1
          have p105 : 0 ≤ (x5_2 : Int) := oT
          have q105 : x5_2 < (l1_1.length : Int) := oT
          obtain ⟨ad105, e105, hx105_0, hx105_1, hx105_2⟩ := at_T94 HR1_1.out x5_2 p105 q105
          cases e105
          replace hx105_0 := (HB.out.cell (World.block_lt_of_cell? w _ hx105_0)).trans hx105_0
          replace hx105_1 := (HB.out.cell (World.block_lt_of_cell? w _ hx105_1)).trans hx105_1
          replace hx105_2 := (HB.out.cell (World.block_lt_of_cell? w _ hx105_2)).trans hx105_2
          replace p105 := eq_true p105
          replace q105 := eq_true q105
          go_wp2
          repeat (go_quiet (fail); try go_wp2)
          go_roundg k2
          case measure => have := HJ2.out; have := HK2.out; omega
          case rel => exact ⟨(wrap64 (x5_2 + 1)), rS, H', ⟨by have := HJ2.out; have := HK2.out; omega⟩, ⟨pB Q00⟩, ⟨pB Q01⟩, ⟨pH HB⟩⟩
        ·rw [if_neg c17] at H
         exact absurd H (by simp)
       ·rw [if_neg c16] at H
        exact absurd H (by simp)
      ·rw [if_neg c15] at H
       have c15b0 : decide (x5_2 < (l0_1.length : Int)) = false := decide_eq_false c15
       clear c15
       obtain rfl := Option.some.inj H
       have Q1e := Q04.out
       have Q1f := Q05.out
       have Q1g : wr.cell? ⟨Q02, 0, none⟩ = some (.slice A0_0 l0_0.length c0_0) := bC Q00 0
       have Q1h : wr.cell? ⟨Q02, 1, none⟩ = some (.slice A0_1 l0_1.length c0_1) := bC Q00 1
       have Q1i := blk_frozen Q00.out 0
       have Q1j := blk_frozen Q00.out 1
       go_wp2
       repeat (go_quiet (fail); try go_wp2)
       go_ret
       exact ⟨by first | rfl | (simp [errW_none, errW_some] <;> rfl) | (simp [*, errW_none, errW_some] <;> rfl), by repeat (first | (with_reducible first | exact HB.out | apply wA | apply wN | apply wD | refine below_set ?_ Q06.out | refine below_set ?_ Q07.out) | exact HB.out)⟩
end Go.Proofs.Ytillofiphkmjjaa.X

/- Plain laws: the reference's Valid and the program's are one; a list is the same as itself. -/
namespace Go.Proofs.Ytillofiphkmjjaa.Pl
open Go.RowKit Go.Proofs.YtillofiphkmjjaaW.PrintWords Go.Proofs.Ytillofiphkmjjaa.X
set_option linter.unusedVariables false
theorem rd_mid (pre : List Int) (x : Int) (r : List Int) : rd (pre ++ x :: r) (pre.length : Int) = x := by
 unfold rd; rw [Int.toNat_natCast, List.getD_eq_getElem?_getD, List.getElem?_append_right (Nat.le_refl _)]; simp
theorem rd38_mid (pre : List S94) (x : S94) (r : List S94) : rd_T94 (pre ++ x :: r) (pre.length : Int) = x := by
 unfold rd_T94; rw [Int.toNat_natCast, List.getD_eq_getElem?_getD, List.getElem?_append_right (Nat.le_refl _)]; simp
theorem lt_mid {α : Type} (pre : List α) (x : α) (r : List α) : (pre.length : Int) < ((pre ++ x :: r).length : Int) := by simp; omega
theorem snoc_mid {α : Type} (pre : List α) (x : α) (r : List α) : pre ++ x :: r = (pre ++ [x]) ++ r := by simp
theorem wrap_mid {α : Type} (pre : List α) (x : α) (r : List α) (h : (pre ++ x :: r).length ≤ 9223372036854775807) : wrap64 ((pre.length : Int) + 1) = ((pre ++ [x]).length : Int) := by
 simp at h ⊢
 unfold wrap64
 omega
theorem wrap_id {i : Int} (h0 : 0 ≤ i) (h : i ≤ 9223372036854775807) : wrap64 i = i := by unfold wrap64; omega
theorem kind_eq (t : Int) : scarfjointref05_kind.f t = some (kindB t) := by
 unfold scarfjointref05_kind.f kindB
 by_cases h : t ≥ 0
 ·rw [if_pos h]; simp [h]
 ·rw [if_neg h]; simp [h]
theorem right_eq (e : S94) (n : Int) : scarfjointref05_right.f e.f0 e.f1 e.f2 n = some (edgeB n e) := by
 unfold scarfjointref05_right.f edgeB
 rw [kind_eq]
 simp only [Option.bind_some]
 cases kindB e.f0
 ·simp
 ·simp only [if_true, Bool.true_and]
  by_cases h1 : e.f1 ≥ 0
  ·rw [if_pos h1]
   by_cases h2 : e.f1 < n
   ·rw [if_pos h2]
    by_cases h3 : e.f2 ≥ 0
    ·rw [if_pos h3]; simp [h1, h2, h3]
    ·rw [if_neg h3]; simp [h3]
   ·rw [if_neg h2]; simp [h2]
  ·rw [if_neg h1]; simp [h1]
theorem valid_l1 (l0 : List Int) (l1 : List S94) (hl : l1.length ≤ 9223372036854775807) : ∀ (r pre : List S94), l1 = pre ++ r →
  Ev (fun k => scarfjointref05_Valid.l1 k (pre.length : Int) l0 l1) (if r.any (fun e => !edgeB l0.length e) = true then 6 else 0) := by
 intro r
 induction r with
 | nil =>
  rintro pre rfl
  refine Ev.step (fun k => by simp only [scarfjointref05_Valid.l1]; rw [if_neg (by simp)]) ?_
  exact Ev.now _
 | cons x r ih =>
  rintro pre rfl
  have ih' := ih (pre ++ [x]) (snoc_mid pre x r)
  cases hb : edgeB l0.length x with
  | true =>
   refine Ev.step (fun k => by simp only [scarfjointref05_Valid.l1]; rw [if_pos (lt_mid pre x r), if_pos (by omega), rd38_mid, right_eq, hb, wrap_mid pre x r hl]) ?_
   simpa [hb] using ih'
  | false =>
   refine Ev.step (fun k => by simp only [scarfjointref05_Valid.l1]; rw [if_pos (lt_mid pre x r), if_pos (by omega), rd38_mid, right_eq, hb]) ?_
   simpa [hb] using Ev.now (6 : Int)
theorem valid_l0 (l0 : List Int) (l1 : List S94) (hl0 : l0.length ≤ 9223372036854775807) (hl : l1.length ≤ 9223372036854775807) : ∀ (r pre : List Int), l0 = pre ++ r →
  Ev (fun k => scarfjointref05_Valid.l0 k (pre.length : Int) l0 l1) (if r.any (fun t => !kindB t) = true then 6 else if l1.any (fun e => !edgeB l0.length e) = true then 6 else 0) := by
 intro r
 induction r with
 | nil =>
  rintro pre rfl
  refine Ev.step (fun k => by simp only [scarfjointref05_Valid.l0]; rw [if_neg (by simp)]) ?_
  have h := valid_l1 pre l1 hl l1 [] rfl
  simpa using h
 | cons x r ih =>
  rintro pre rfl
  have ih' := ih (pre ++ [x]) (snoc_mid pre x r)
  cases hb : kindB x with
  | true =>
   refine Ev.step (fun k => by simp only [scarfjointref05_Valid.l0]; rw [if_pos (lt_mid pre x r), if_pos (by omega), rd_mid, kind_eq, hb, wrap_mid pre x r hl0]) ?_
   simpa [hb] using ih'
  | false =>
   refine Ev.step (fun k => by simp only [scarfjointref05_Valid.l0]; rw [if_pos (lt_mid pre x r), if_pos (by omega), rd_mid, kind_eq, hb]) ?_
   simpa [hb] using Ev.now (6 : Int)
theorem valid_ev (l0 : List Int) (l1 : List S94) : Ev (fun k => scarfjointref05_Valid.f k l0 l1) (validE l0 l1) := by
 unfold validE scarfjointref05_Valid.f
 by_cases h0 : l0.length > 40
 ·rw [if_pos h0]
  simp only [if_pos (show (l0.length : Int) > 40 by omega)]
  exact Ev.step (fun k => by simp only [scarfjointref05_Valid.j0, if_true]) (Ev.now _)
 ·rw [if_neg h0]
  simp only [if_neg (show ¬ (l0.length : Int) > 40 by omega)]
  by_cases h1 : l1.length > 80
  ·rw [if_pos h1]
   refine Ev.step (fun k => by simp only [scarfjointref05_Valid.j0]; rw [if_pos (by simp; omega)]) (Ev.now _)
  ·rw [if_neg h1]
   refine Ev.step (fun k => by simp only [scarfjointref05_Valid.j0]; rw [if_neg (by simp; omega)]) ?_
   exact valid_l0 l0 l1 (by omega) (by omega) l0 [] rfl
theorem few_eq (l0 : List Int) (l1 : List S94) : scarfjointref05_Few.f l0 l1 = some (decide (l0.length ≤ 45 ∧ l1.length ≤ 90)) := by
 unfold scarfjointref05_Few.f
 by_cases h : (l0.length : Int) ≤ 45
 ·rw [if_pos h]
  have h' : l0.length ≤ 45 := by omega
  simp [h']; omega
 ·rw [if_neg h]
  have h' : ¬ l0.length ≤ 45 := by omega
  simp [h']
theorem sameInts_l0 (l : List Int) (hl : l.length ≤ 9223372036854775807) : ∀ (r pre : List Int), l = pre ++ r → Ev (fun k => scarfjointref05_SameInts.l0 k l l (pre.length : Int)) true := by
 intro r
 induction r with
 | nil =>
  rintro pre rfl
  exact Ev.step (fun k => by simp only [scarfjointref05_SameInts.l0]; rw [if_neg (by simp)]) (Ev.now _)
 | cons x r ih =>
  rintro pre rfl
  refine Ev.step (fun k => by simp only [scarfjointref05_SameInts.l0]; rw [if_pos (lt_mid pre x r), if_pos (by omega), if_pos (lt_mid pre x r), if_pos trivial, wrap_mid pre x r hl]) (ih (pre ++ [x]) (snoc_mid pre x r))
theorem sameInts_self (l : List Int) (hl : l.length ≤ 1000000) : Ev (fun k => scarfjointref05_SameInts.f k l l) true := by
 unfold scarfjointref05_SameInts.f
 simp only [if_true]
 exact sameInts_l0 l (by omega) l [] rfl
theorem same_l0 (l : List S94) (a b : List Int) (hl : l.length ≤ 9223372036854775807) : ∀ (r pre : List S94), l = pre ++ r → Ev (fun k => scarfjointref05_Same.l0 k (pre.length : Int) a l b l) true := by
 intro r
 induction r with
 | nil =>
  rintro pre rfl
  exact Ev.step (fun k => by simp only [scarfjointref05_Same.l0]; rw [if_neg (by simp)]) (Ev.now _)
 | cons x r ih =>
  rintro pre rfl
  refine Ev.step (fun k => by simp only [scarfjointref05_Same.l0]; rw [if_pos (lt_mid pre x r), if_pos (by omega), if_pos (lt_mid pre x r), if_neg (by simp), wrap_mid pre x r hl]) (ih (pre ++ [x]) (snoc_mid pre x r))
theorem same_self (l0 : List Int) (l1 : List S94) (h0 : l0.length ≤ 1000000) (h1 : l1.length ≤ 1000000) : Ev (fun k => scarfjointref05_Same.f k l0 l1 l0 l1) true := by
 unfold scarfjointref05_Same.f
 refine Ev.bind (sameInts_self l0 h0) ?_
 simp only [if_true]
 refine Ev.step (fun k => by simp only [scarfjointref05_Same.j0]; rw [if_neg (by simp)]) ?_
 exact same_l0 l1 l0 l0 (by omega) l1 [] rfl
end Go.Proofs.Ytillofiphkmjjaa.Pl

namespace Go.Proofs.Ytillofiphkmjjaa.X
open Go.RowKit Go.Proofs.YtillofiphkmjjaaW.PrintWords Go.Proofs.YtillofiphkmjjaaW.PrintLast Go.Proofs.YtillofiphkmjjaaW.PrintMore
open Go.Proofs.YtillofiphkmjjaaW.PrintWords renaming blk_drewN → bN, blk_drew → bD, blk_alloc → bA, below_alloc → wA, pw_below_drewN → wN, below_drew1 → wD, blk_below → bB, below_step → wS, blk_at → bT, blk_grown → bG
open Go.Proofs.YtillofiphkmjjaaW.PrintWords.Kd renaming R_alloc → rA, R_drewN → rN, R_drew → rD, R_below → rB, R_grown → rG, C_below → cB, C_alloc → cA, C_drewN → cN, C_drew → cD
attribute [local go_sem] max2_int min2_int max_two min_two max_three min_three max_four min_four
set_option linter.unusedVariables false
set_option linter.unusedSimpArgs false
/-! ### pullback_pairs: function 66 -/
mutual
def pullback_pairs.l0 : Nat → List Int → List (S79) → List Int → Int → Int → Option ((List (S79)))
 | 0, _, _, _, _, _ => none
 | k + 1, x1, x5, x10, x11, x12 => if x12 < x11 then (if 0 ≤ x12 then (if x12 < (x10.length : Int) then (pullback_pairs.l1 k x1 x5 x12 (rd x10 x12) x10 x11 x12 x1 (x1.length : Int) 0) else (none)) else (none)) else (some x5)
def pullback_pairs.l1 : Nat → List Int → List (S79) → Int → Int → List Int → Int → Int → List Int → Int → Int → Option ((List (S79)))
 | 0, _, _, _, _, _, _, _, _, _, _ => none
 | k + 1, x1, x5, x6, x7, x10, x11, x12, x17, x18, x19 => if x19 < x18 then (if 0 ≤ x19 then (if x19 < (x17.length : Int) then (if x7 = (rd x17 x19) then (if x5.length < 8796093022208 then (pullback_pairs.l1 k x1 (x5 ++ [(⟨x6, x19⟩ : S79)]) x6 x7 x10 x11 x12 x17 x18 (wrap64 (x19 + 1))) else (none)) else (pullback_pairs.l1 k x1 x5 x6 x7 x10 x11 x12 x17 x18 (wrap64 (x19 + 1)))) else (none)) else (none)) else (pullback_pairs.l0 k x1 x5 x10 x11 (wrap64 (x12 + 1)))
end
def pullback_pairs.f (k : Nat) (l0 : List Int) (l1 : List Int) : Option ((List (S79))) := pullback_pairs.l0 k l1 ([] : List (S79)) l0 (l0.length : Int) 0
theorem pullback_pairs.mono_l : ∀ k, (∀ y0 y1 y2 y3 y4, LeO (pullback_pairs.l0 k y0 y1 y2 y3 y4) (pullback_pairs.l0 (k + 1) y0 y1 y2 y3 y4)) ∧ (∀ y0 y1 y2 y3 y4 y5 y6 y7 y8 y9, LeO (pullback_pairs.l1 k y0 y1 y2 y3 y4 y5 y6 y7 y8 y9) (pullback_pairs.l1 (k + 1) y0 y1 y2 y3 y4 y5 y6 y7 y8 y9))
 | 0 => ⟨fun _ _ _ _ _ r h => by simp [pullback_pairs.l0] at h, fun _ _ _ _ _ _ _ _ _ _ r h => by simp [pullback_pairs.l1] at h⟩
 | k + 1 => by
  obtain ⟨ih0, ih1⟩ := pullback_pairs.mono_l k
  refine ⟨?_, ?_⟩
  ·intro y0 y1 y2 y3 y4
   unfold pullback_pairs.l0
   repeat' first
   | (with_reducible exact ih0 _ _ _ _ _)
   | (with_reducible exact ih1 _ _ _ _ _ _ _ _ _ _)
   | (with_reducible exact LeO.refl _)
   | (with_reducible exact LeO.none _)
   | (with_reducible refine LeO.ite ?_ ?_)
   | (with_reducible refine LeO.bind ?_ (fun _ => ?_))
   | exact ih0 _ _ _ _ _
   | exact ih1 _ _ _ _ _ _ _ _ _ _
   | exact LeO.none _
   | refine LeO.ite ?_ ?_
   | refine LeO.bind ?_ (fun _ => ?_)
  ·intro y0 y1 y2 y3 y4 y5 y6 y7 y8 y9
   unfold pullback_pairs.l1
   repeat' first
   | (with_reducible exact ih0 _ _ _ _ _)
   | (with_reducible exact ih1 _ _ _ _ _ _ _ _ _ _)
   | (with_reducible exact LeO.refl _)
   | (with_reducible exact LeO.none _)
   | (with_reducible refine LeO.ite ?_ ?_)
   | (with_reducible refine LeO.bind ?_ (fun _ => ?_))
   | exact ih0 _ _ _ _ _
   | exact ih1 _ _ _ _ _ _ _ _ _ _
   | exact LeO.none _
   | refine LeO.ite ?_ ?_
   | refine LeO.bind ?_ (fun _ => ?_)
theorem pullback_pairs.mono : ∀ a0 a1 k, LeO (pullback_pairs.f k a0 a1) (pullback_pairs.f (k + 1) a0 a1) := by
 intro a0 a1 k
 obtain ⟨ih0, ih1⟩ := pullback_pairs.mono_l k
 unfold pullback_pairs.f
 repeat' first
   | (with_reducible exact ih0 _ _ _ _ _)
   | (with_reducible exact ih1 _ _ _ _ _ _ _ _ _ _)
   | (with_reducible exact LeO.refl _)
   | (with_reducible exact LeO.none _)
   | (with_reducible refine LeO.ite ?_ ?_)
   | (with_reducible refine LeO.bind ?_ (fun _ => ?_))
   | exact ih0 _ _ _ _ _
   | exact ih1 _ _ _ _ _ _ _ _ _ _
   | exact LeO.none _
   | refine LeO.ite ?_ ?_
   | refine LeO.bind ?_ (fun _ => ?_)
set_option maxHeartbeats 8000000 in
set_option maxRecDepth 100000 in
theorem pullback_pairs.calls (k : Nat) (A0 : Option Addr) (c0 : Nat) (l0 : List Int) (A1 : Option Addr) (c1 : Nat) (l1 : List Int) (r : List (S79)) (w : World) (hr0 : Kd.C (Kd.int .i64) w A0 l0.length l0) (hc0 : l0.length ≤ c0) (hr1 : Kd.C (Kd.int .i64) w A1 l1.length l1) (hc1 : l1.length ≤ c1) (h : pullback_pairs.f k l0 l1 = some r) :
  Calls Try.prog 66 #[.slice A0 l0.length c0, .slice A1 l1.length c1] w fun e w' => ∃ v0_ : Value, e = .returned (v0_) ∧ Kd.R k79 79 w' w.heap.size (fun _ => True) v0_ r ∧ Below w.heap.size w w' := by
 have hu79 := Try.underlying79
 have HR0 := Aside0.mk hr0
 have HC0 := Aside0.mk hc0
 clear hr0 hc0
 have HR1 := Aside0.mk hr1
 have HC1 := Aside0.mk hc1
 clear hr1 hc1
 have HB := Aside0.mk (Below.refl w.heap.size w)
 have H : (pullback_pairs.l0 k l1 ([] : List (S79)) l0 (l0.length : Int) 0) = some r := h
 clear h
 have H' := Aside0.mk H
 clear H
 go_enter Try.func66, Try.ntmps66
 go_wp2
 go_loopg [5, 12] k (fun kq v5 v12 w' => ∃ (x5_1 : List (S79)) (x12_1 : Int), v12 = .int .i64 x12_1 ∧ Aside0 (pullback_pairs.l0 kq l1 x5_1 l0 (l0.length : Int) x12_1 = some r) ∧ Aside0 (kq ≤ k) ∧ Aside0 (Kd.R k79 79 w' w.heap.size (fun _ => True) v5 x5_1) ∧ Aside0 (Below w.heap.size w w'))
 case atStart => exact ⟨(([] : List (S79))), (0), rS, H', ⟨Nat.le_refl _⟩, ⟨by first | exact Kd.R_nil _ _ _ _ _ | exact Kd.N_nil _ _ _ _ _ | exact Kd.V_nil _ _ _ _ _ | exact Kd.Q_nil _ _ _ _ _ | exact Kd.S_nil _ _ _ _ _⟩, ⟨pH HB⟩⟩
 case round =>
  clear H'
  try clear c1; try clear p2
  obtain ⟨x5_1, x12_1, rfl, HA, HK1, Q00, HB⟩ := hrel
  cases gk with
  | zero => exact absurd HA.out (by simp [pullback_pairs.l0])
  | succ k1 =>
   have H := HA.out
   clear HA
   simp only [pullback_pairs.l0] at H
   by_cases c3 : x12_1 < (l0.length : Int)
   ·rw [if_pos c3] at H
    have c3b0 : decide (x12_1 < (l0.length : Int)) = true := decide_eq_true c3
    clear c3
    by_cases c4 : 0 ≤ x12_1
    ·rw [if_pos c4] at H
     have c4b0 : decide (0 ≤ x12_1) = true := decide_eq_true c4
     clear c4
     by_cases c5 : x12_1 < (l0.length : Int)
     ·rw [if_pos c5] at H
      have c5b0 : decide (x12_1 < (l0.length : Int)) = true := decide_eq_true c5
      clear c5
      have H' := Aside0.mk H
      clear H
      have p101 : 0 ≤ (x12_1 : Int) := oT
      have q101 : x12_1 < (l0.length : Int) := oT
      obtain ⟨ad101, e101, hx101_0⟩ := Kd.at_int HR0.out x12_1 p101 q101
      cases e101
      replace hx101_0 := (HB.out.cell (World.block_lt_of_cell? w _ hx101_0)).trans hx101_0
      replace p101 := eq_true p101
      replace q101 := eq_true q101
      go_wp2
      go_loopg [5, 19] k1 (fun kq v5 v19 w' => ∃ (x5_2 : List (S79)) (x19_2 : Int), v19 = .int .i64 x19_2 ∧ Aside0 (pullback_pairs.l1 kq l1 x5_2 x12_1 (rd l0 x12_1) l0 (l0.length : Int) x12_1 l1 (l1.length : Int) x19_2 = some r) ∧ Aside0 (kq ≤ k1) ∧ Aside0 (Kd.R k79 79 w' w.heap.size (fun _ => True) v5 x5_2) ∧ Aside0 (Below w.heap.size w w'))
      case atStart => exact ⟨(x5_1), (0), rS, H', ⟨Nat.le_refl _⟩, ⟨pR Q00⟩, ⟨pH HB⟩⟩
      case round =>
       clear H'
       try clear c1; try clear p2; try clear c3; try clear c3b0; try clear c4; try clear c4b0; try clear c5; try clear c5b0; try clear hx101_0; try clear p2; try clear p101; try clear q101
       obtain ⟨x5_2, x19_2, rfl, HA, HK2, Q00, HB⟩ := hrel
       cases gk with
       | zero => exact absurd HA.out (by simp [pullback_pairs.l1])
       | succ k2 =>
        have H := HA.out
        clear HA
        simp only [pullback_pairs.l1] at H
        by_cases c6 : x19_2 < (l1.length : Int)
        ·rw [if_pos c6] at H
         have c6b0 : decide (x19_2 < (l1.length : Int)) = true := decide_eq_true c6
         clear c6
         by_cases c7 : 0 ≤ x19_2
         ·rw [if_pos c7] at H
          have c7b0 : decide (0 ≤ x19_2) = true := decide_eq_true c7
          clear c7
          by_cases c8 : x19_2 < (l1.length : Int)
          ·rw [if_pos c8] at H
           have c8b0 : decide (x19_2 < (l1.length : Int)) = true := decide_eq_true c8
           clear c8
           by_cases c9 : (rd l0 x12_1) = (rd l1 x19_2)
           ·rw [if_pos c9] at H
            have c9b0 : ((rd l0 x12_1) == (rd l1 x19_2)) = true := beq_iff_eq.mpr c9
            have c9b1 : ((rd l0 x12_1) != (rd l1 x19_2)) = false := bne_eq_false_iff_eq.mpr c9
            clear c9
            by_cases c10 : x5_2.length < 8796093022208
            ·rw [if_pos c10] at H
             have LMc10 := Aside0.mk c10
             clear c10
             obtain ⟨y103, hy103⟩ : ∃ y_ : List (S79), y_ = (x5_2 ++ [(⟨x12_1, x19_2⟩ : S79)]) := ⟨_, rfl⟩
             replace H : (pullback_pairs.l1 k2 l1 y103 x12_1 (rd l0 x12_1) l0 (l0.length : Int) x12_1 l1 (l1.length : Int) (wrap64 (x19_2 + 1))) = some r := by first | (rw [hy103]; with_reducible exact H) | (have H2_ := (Option.bind_some _ _).symm.trans H; rw [hy103]; with_reducible exact H2_) | (have H2_ := (Option.bind_some _ _).symm.trans H; with_reducible exact H2_) | with_reducible exact H | (rw [hy103]; exact H) | exact H
             have Ny103 := Aside0.mk hy103
             clear hy103
             have H' := Aside0.mk H
             clear H
             have p102 : 0 ≤ (x19_2 : Int) := oT
             have q102 : x19_2 < (l1.length : Int) := oT
             obtain ⟨ad102, e102, hx102_0⟩ := Kd.at_int HR1.out x19_2 p102 q102
             cases e102
             replace hx102_0 := (HB.out.cell (World.block_lt_of_cell? w _ hx102_0)).trans hx102_0
             replace p102 := eq_true p102
             replace q102 := eq_true q102
             go_wp2_with (first | ((with_reducible refine gate_builtin (b := .append) (xs := #[.tmp 27, .tmp 31]) rfl ?_); at_builtin; refine Kd.R_append k79 (w0 := w) w.heap.size rfl (.tmp 27) (.tmp 31) 70 79 (.agg #[(.int .i64 0), (.int .i64 0)]) 16 rfl Try.underlying70 info79 rfl (by decide) (by omega) u5 x5_2 (⟨x12_1, x19_2⟩ : S79) [.int .i64 x12_1, .int .i64 x19_2] (fun _ => True) (fun _ => False) rfl rfl ?aP (fun _ hk => hk.elim) ?aF ?aO ?aB ?aS ?aL ?_; (case aP => exact k79_mkM _ _ _ (⟨x12_1, x19_2⟩ : S79)); (case aB => exact hB); (case aF => exact (fun _ _ => trivial)); (case aO => exact (pR Q00)); (case aS => exact (below_size hB)); (case aL => have := LMc10.out; omega); intro v104 w11 ho hb hg hat; rw [← Ny103.out] at ho; replace HB := Aside0.mk (hb); have Q01 := Aside0.mk (ho); clear Q00; clear ho hb hg hat))
             go_roundg k2
             case measure => have := HK1.out; have := HK2.out; omega
             case rel => exact ⟨(y103), (wrap64 (x19_2 + 1)), rS, H', ⟨by have := HK1.out; have := HK2.out; omega⟩, ⟨pR Q01⟩, ⟨pH HB⟩⟩
            ·rw [if_neg c10] at H
             exact absurd H (by simp)
           ·rw [if_neg c9] at H
            have c9b0 : ((rd l0 x12_1) == (rd l1 x19_2)) = false := beq_eq_false_iff_ne.mpr c9
            have c9b1 : ((rd l0 x12_1) != (rd l1 x19_2)) = true := bne_iff_ne.mpr c9
            have H' := Aside0.mk H
            clear H
            have p102 : 0 ≤ (x19_2 : Int) := oT
            have q102 : x19_2 < (l1.length : Int) := oT
            obtain ⟨ad102, e102, hx102_0⟩ := Kd.at_int HR1.out x19_2 p102 q102
            cases e102
            replace hx102_0 := (HB.out.cell (World.block_lt_of_cell? w _ hx102_0)).trans hx102_0
            replace p102 := eq_true p102
            replace q102 := eq_true q102
            go_wp2
            go_roundg k2
            case measure => have := HK1.out; have := HK2.out; omega
            case rel => exact ⟨(x5_2), (wrap64 (x19_2 + 1)), rS, H', ⟨by have := HK1.out; have := HK2.out; omega⟩, ⟨pR Q00⟩, ⟨pH HB⟩⟩
          ·rw [if_neg c8] at H
           exact absurd H (by simp)
         ·rw [if_neg c7] at H
          exact absurd H (by simp)
        ·rw [if_neg c6] at H
         have c6b0 : decide (x19_2 < (l1.length : Int)) = false := decide_eq_false c6
         clear c6
         have H' := Aside0.mk H
         clear H
         go_wp2
         go_roundg k2
         case measure => have := HK1.out; have := HK2.out; omega
         case rel => exact ⟨(x5_2), (wrap64 (x12_1 + 1)), rS, H', ⟨by have := HK1.out; have := HK2.out; omega⟩, ⟨pR Q00⟩, ⟨pH HB⟩⟩
     ·rw [if_neg c5] at H
      exact absurd H (by simp)
    ·rw [if_neg c4] at H
     exact absurd H (by simp)
   ·rw [if_neg c3] at H
    have c3b0 : decide (x12_1 < (l0.length : Int)) = false := decide_eq_false c3
    clear c3
    obtain rfl := Option.some.inj H
    go_wp2
    go_ret
    exact ⟨_, by first | rfl | (simp [errW_none, errW_some] <;> rfl) | (simp [*, errW_none, errW_some] <;> rfl), by (with_reducible repeat (first | apply rA | apply rN | apply rD)); exact Q00.out, by repeat (first | (with_reducible first | exact HB.out | apply wA | apply wN | apply wD) | exact HB.out)⟩
end Go.Proofs.Ytillofiphkmjjaa.X

/- Plain laws: pairs of places. -/
namespace Go.Proofs.Ytillofiphkmjjaa.Pl
open Go.RowKit Go.Proofs.YtillofiphkmjjaaW.PrintWords Go.Proofs.Ytillofiphkmjjaa.X
set_option linter.unusedVariables false
theorem rd_mid' (pre : List Int) (x : Int) (r : List Int) {n : Nat} (h : n = pre.length) : rd (pre ++ x :: r) (n : Int) = x := by subst h; exact rd_mid pre x r
theorem lt_mid' {α : Type} (pre : List α) (x : α) (r : List α) {n : Nat} (h : n = pre.length) : (n : Int) < ((pre ++ x :: r).length : Int) := by subst h; exact lt_mid pre x r
/-! pairs of places -/
def row1 (i x : Int) : Int → List Int → List S79
 | _, [] => []
 | k, y :: s => if x = y then ⟨i, k⟩ :: row1 i x (k + 1) s else row1 i x (k + 1) s
def rows (g : List Int) : Int → List Int → List S79
 | _, [] => []
 | i, x :: r => row1 i x 0 g ++ rows g (i + 1) r
def tri : Int → List Int → List S79
 | _, [] => []
 | i, x :: r => row1 i x (i + 1) r ++ tri (i + 1) r
theorem row1_len (i x : Int) : ∀ (s : List Int) (k : Int), (row1 i x k s).length ≤ s.length := by
 intro s
 induction s with
 | nil => intro k; simp [row1]
 | cons y s ih =>
  intro k
  have := ih (k + 1)
  unfold row1
  split <;> simp <;> omega
theorem pairs_l1 (f g : List Int) (i x : Int) {R : List S79} (hg : g.length ≤ 1000000) : ∀ (r pre : List Int) (acc : List S79), g = pre ++ r → acc.length + r.length ≤ 8796093022207 →
  Ev (fun k => pullback_pairs.l0 k g (acc ++ row1 i x pre.length r) f (f.length : Int) (wrap64 (i + 1))) R → Ev (fun k => pullback_pairs.l1 k g acc i x f (f.length : Int) i g (g.length : Int) (pre.length : Int)) R := by
 intro r
 induction r with
 | nil =>
  rintro pre acc rfl h1 h
  refine Ev.step (fun k => by simp only [pullback_pairs.l1]; rw [if_neg (by simp)]) ?_
  simpa [row1] using h
 | cons y r ih =>
  rintro pre acc rfl h1 h
  simp at hg h1
  have e : wrap64 ((pre.length : Int) + 1) = ((pre ++ [y]).length : Int) := wrap_mid pre y r (by simp; omega)
  by_cases hxy : x = y
  ·refine Ev.step (fun k => by simp only [pullback_pairs.l1]; rw [if_pos (lt_mid pre y r), if_pos (by omega), if_pos (lt_mid pre y r), rd_mid, if_pos hxy, if_pos (by omega), e]) ?_
   refine ih (pre ++ [y]) _ (snoc_mid pre y r) (by simp; omega) ?_
   have e2 : row1 i x (pre.length : Int) (y :: r) = ⟨i, (pre.length : Int)⟩ :: row1 i x ((pre.length : Int) + 1) r := by rw [row1, if_pos hxy]
   rw [e2] at h
   simpa using h
  ·refine Ev.step (fun k => by simp only [pullback_pairs.l1]; rw [if_pos (lt_mid pre y r), if_pos (by omega), if_pos (lt_mid pre y r), rd_mid, if_neg hxy, e]) ?_
   refine ih (pre ++ [y]) _ (snoc_mid pre y r) (by omega) ?_
   have e2 : row1 i x (pre.length : Int) (y :: r) = row1 i x ((pre.length : Int) + 1) r := by rw [row1, if_neg hxy]
   rw [e2] at h
   simpa using h
theorem pairs_l0 (f g : List Int) (hf : f.length ≤ 1000000) (hg : g.length ≤ 1000000) : ∀ (r pre : List Int) (acc : List S79), f = pre ++ r → acc.length + r.length * g.length ≤ 8796093022207 →
  Ev (fun k => pullback_pairs.l0 k g acc f (f.length : Int) (pre.length : Int)) (acc ++ rows g pre.length r) := by
 intro r
 induction r with
 | nil =>
  rintro pre acc rfl h1
  refine Ev.step (fun k => by simp only [pullback_pairs.l0]; rw [if_neg (by simp)]) ?_
  simpa [rows] using Ev.now acc
 | cons x r ih =>
  rintro pre acc rfl h1
  rw [List.length_cons, Nat.succ_mul] at h1
  have e : wrap64 ((pre.length : Int) + 1) = ((pre ++ [x]).length : Int) := wrap_mid pre x r (by omega)
  have hr := row1_len (pre.length : Int) x g 0
  have ih' := ih (pre ++ [x]) (acc ++ row1 (pre.length : Int) x 0 g) (snoc_mid pre x r) (by rw [List.length_append]; omega)
  refine Ev.step (fun k => by simp only [pullback_pairs.l0]; rw [if_pos (lt_mid pre x r), if_pos (by omega), if_pos (lt_mid pre x r), rd_mid]) ?_
  refine pairs_l1 (pre ++ x :: r) g (pre.length : Int) x hg g [] acc rfl (by omega) ?_
  rw [e]
  have e2 : rows g (pre.length : Int) (x :: r) = row1 (pre.length : Int) x 0 g ++ rows g ((pre.length : Int) + 1) r := rfl
  rw [e2]
  simpa using ih'
theorem pairs_ev (f g : List Int) (hf : f.length ≤ 1000000) (hg : g.length ≤ 1000000) : Ev (fun k => pullback_pairs.f k f g) (rows g 0 f) := by
 unfold pullback_pairs.f
 have := Nat.mul_le_mul hf hg
 simpa using pairs_l0 f g hf hg f [] [] rfl (by simp; omega)
/-! both kernels are one -/
theorem row1_append (i x : Int) : ∀ (a b : List Int) (k : Int), row1 i x k (a ++ b) = row1 i x k a ++ row1 i x (k + a.length) b := by
 intro a
 induction a with
 | nil => intro b k; simp [row1]
 | cons y a ih =>
  intro b k
  have e : k + 1 + (a.length : Int) = k + ((y :: a).length : Int) := by simp; omega
  simp only [List.cons_append, row1]
  split
  ·rw [ih, e]; rfl
  ·rw [ih, e]
theorem row1_mem (i x : Int) : ∀ (s : List Int) (k : Int) (p : S79), p ∈ row1 i x k s → p.f0 = i ∧ k ≤ p.f1 ∧ p.f1 < k + s.length := by
 intro s
 induction s with
 | nil => intro k p h; simp [row1] at h
 | cons y s ih =>
  intro k p h
  unfold row1 at h
  have hi := ih (k + 1) p
  split at h
  ·rcases List.mem_cons.mp h with rfl | h
   ·refine ⟨rfl, Int.le_refl _, ?_⟩
    simp; omega
   ·have := hi h
    refine ⟨this.1, by omega, ?_⟩
    simp; omega
  ·have := hi h
   refine ⟨this.1, by omega, ?_⟩
   simp; omega
theorem rows_filter (f : List Int) : ∀ (r pre : List Int), f = pre ++ r → (rows f pre.length r).filter (fun p => !decide (p.f0 ≥ p.f1)) = tri pre.length r := by
 intro r
 induction r with
 | nil => intro pre h; rfl
 | cons x r ih =>
  intro pre h
  have ih' := ih (pre ++ [x]) (by rw [h]; exact snoc_mid pre x r)
  have e2 : tri (pre.length : Int) (x :: r) = row1 (pre.length : Int) x ((pre.length : Int) + 1) r ++ tri ((pre.length : Int) + 1) r := rfl
  have e3 : rows f (pre.length : Int) (x :: r) = row1 (pre.length : Int) x 0 f ++ rows f ((pre.length : Int) + 1) r := rfl
  have e4 : row1 (pre.length : Int) x 0 f = row1 (pre.length : Int) x 0 (pre ++ [x]) ++ row1 (pre.length : Int) x ((pre.length : Int) + 1) r := by
   conv => lhs; rw [h, snoc_mid pre x r, row1_append]
   simp
  rw [e2, e3, e4, List.filter_append, List.filter_append]
  have e5 : (row1 (pre.length : Int) x 0 (pre ++ [x])).filter (fun p => !decide (p.f0 ≥ p.f1)) = [] := by
   rw [List.filter_eq_nil_iff]
   intro p hp
   obtain ⟨h1, h2, h3⟩ := row1_mem _ _ _ _ _ hp
   simp at h3
   have : p.f0 ≥ p.f1 := by omega
   simp [this]
  have e6 : (row1 (pre.length : Int) x ((pre.length : Int) + 1) r).filter (fun p => !decide (p.f0 ≥ p.f1)) = row1 (pre.length : Int) x ((pre.length : Int) + 1) r := by
   rw [List.filter_eq_self]
   intro p hp
   obtain ⟨h1, h2, h3⟩ := row1_mem _ _ _ _ _ hp
   have : ¬ p.f0 ≥ p.f1 := by omega
   simp [this]
  rw [e5, e6]
  have e7 : ((pre ++ [x]).length : Int) = (pre.length : Int) + 1 := by simp
  rw [e7] at ih'
  rw [ih']
  rfl
theorem row1_nil (i x : Int) : ∀ (s : List Int) (k : Int), row1 i x k s = [] ↔ x ∉ s := by
 intro s
 induction s with
 | nil => intro k; simp [row1]
 | cons y s ih =>
  intro k
  unfold row1
  by_cases h : x = y
  ·simp [h]
  ·simp [h, ih]
theorem tri_nil : ∀ (l : List Int) (i : Int), tri i l = [] ↔ l.Nodup := by
 intro l
 induction l with
 | nil => intro i; simp [tri]
 | cons x r ih =>
  intro i
  rw [tri, List.append_eq_nil_iff, row1_nil, ih, List.nodup_cons]
theorem rd79_mid (pre : List S79) (x : S79) (r : List S79) : rd_T79 (pre ++ x :: r) (pre.length : Int) = x := by
 unfold rd_T79; rw [Int.toNat_natCast, List.getD_eq_getElem?_getD, List.getElem?_append_right (Nat.le_refl _)]; simp
def okE (n : Nat) (e : S94) : Prop := (0 ≤ e.f1 ∧ e.f1 < (n : Int)) ∧ (0 ≤ e.f2 ∧ e.f2 < (n : Int))
theorem okE_of {l0 : List Int} {l1 : List S94} (h : validE l0 l1 = 0) : l0.length ≤ 40 ∧ l1.length ≤ 80 ∧ ∀ e ∈ l1, okE l0.length e := by
 unfold validE at h
 split at h
 ·exact absurd h (by decide)
 ·split at h
  ·exact absurd h (by decide)
  ·split at h
   ·exact absurd h (by decide)
   ·split at h
    ·exact absurd h (by decide)
    ·rename_i h1 h2 _ h4
     refine ⟨by omega, by omega, fun e he => ?_⟩
     have hb : edgeB l0.length e = true := by
      cases hb : edgeB l0.length e
      ·exact absurd (List.any_eq_true.mpr ⟨e, he, by rw [hb]; rfl⟩) h4
      ·rfl
     unfold edgeB at hb
     simp only [Bool.and_eq_true, decide_eq_true_eq] at hb
     exact hb.2
end Go.Proofs.Ytillofiphkmjjaa.Pl
