/- A part of the proof that the law GraphUnion returns true at every input: contracts of the functions that it calls, and lemmas. -/
import Derived.Test.YtmbnibonggbjgaaZGraphUnion0
import Derived.Deep.Slices
import Derived.Deep.Fields
import Derived.ChangeSame
import Derived.OpenShut
import Derived.Test.YtmbnibonggbjgaaProg
import Derived.Shelf.Abstract
import Derived.Lib.SliceRun
import Derived.BigRegion
import Derived.ProofKit
import Derived.ShutString
import Derived.ChangeOld
import Derived.SizedLaws
import Derived.Carry
/- What an argument reads as, said in the words of the contracts: of a type t and a kind d, 'Opens': whatever can be read at t is told by d. -/
namespace Go.Proofs.Ytmbnibonggbjgaa.Open
open Go.ChangeShapes Go.WideShapes Go.Deep Go.RowKit Go.Proofs.YtmbnibonggbjgaaW.PrintWords
set_option linter.unusedVariables false

def Opens {α : Type} (P : Program) (t : TypeId) (d : Kd α) (good : α → Prop) : Prop :=
  ∀ {H : Type} {enc : TypeId × Value → H} {w : World} {spare : Nat → Bool} {held : Bool} {fuel : Nat} {cs : List Value} {x : DataW H × List MemPlace},
    DataW.trod enc P w 0 spare held fuel t cs = some x → ∃ a : α, d.K w a cs ∧ good a

section
variable {P : Program} {α β γ : Type}

theorem opens_int {t : TypeId} {k : IntKind} (ht : P.underlying t = some (.int k)) : Opens P t (Kd.int k) (fun n => (Lit.int k n).wf = true) := by
  intro H enc w spare held fuel cs x h
  obtain ⟨n, rfl, _, hw⟩ := DataW.trod_int ht h
  exact ⟨n, rfl, hw⟩

theorem opens_iso {t : TypeId} {d : Kd α} {good : α → Prop} (h : Opens P t d good) (f : β → α) (g : α → β) (hfg : ∀ a, f (g a) = a) : Opens P t (Kd.iso d f) (fun b => good (f b)) := by
  intro H enc w spare held fuel cs x hx
  obtain ⟨a, hk, hg⟩ := h hx
  exact ⟨g a, by show d.K w (f (g a)) cs; rw [hfg]; exact hk, by show good (f (g a)); rw [hfg]; exact hg⟩

theorem build {w : World} {d : Kd α} {good : α → Prop} {ad : Addr} (n : Nat) (h : ∀ i, i < n → ∃ a c, d.K w a c ∧ good a ∧ ∀ j u, c[j]? = some u → w.cell? (ad.add (i * d.sz + j)) = some u) :
    ∃ l : List α, l.length = n ∧ (∀ x ∈ l, good x) ∧ ∀ (j : Nat) (p : α), l[j]? = some p → ∃ c, c.length = d.sz ∧ d.K w p c ∧ ∀ i u, c[i]? = some u → w.cell? (ad.add (j * d.sz + i)) = some u := by
  induction n with
  | zero => exact ⟨[], rfl, by simp, by simp⟩
  | succ n ih =>
    obtain ⟨l, hl, hg, hc⟩ := ih (fun i hi => h i (by omega))
    obtain ⟨a, c, hk, hga, hca⟩ := h n (by omega)
    refine ⟨l ++ [a], by simp [hl], ?_, ?_⟩
    · intro x hx
      rcases List.mem_append.mp hx with hx | hx
      · exact hg x hx
      · rw [List.mem_singleton.mp hx]; exact hga
    · intro j p hj
      by_cases e : j < n
      · rw [List.getElem?_append_left (by omega)] at hj
        exact hc j p hj
      · have e2 : j = n := by
          have := (List.getElem?_eq_some_iff.mp hj).1
          simp [hl] at this; omega
        subst e2
        rw [List.getElem?_append_right (by omega)] at hj
        simp [hl] at hj
        subst hj
        exact ⟨c, d.K_len hk, hk, hca⟩

theorem opens_slice {t e : TypeId} {d : Kd α} {good : α → Prop} (ht : P.underlying t = some (.slice e)) (hE : Opens P e d good) (hC : P.cellsOf e = d.sz) :
    Opens P t (Kd.slice e d) (fun l => ∀ x ∈ l, good x) := by
  intro H enc w spare held fuel cs x h
  rcases open_slice ht h with ⟨rfl, _⟩ | ⟨ad, len, cap, m, n, D, Pl, rfl, _, hl, hm, hmm, _, hi⟩
  · exact ⟨[], ⟨none, 0, rfl, Nat.le_refl _, Kd.C_nil d w⟩, by simp⟩
  · have hlm : len ≤ m := by rw [hmm]; split <;> omega
    have hcells : ∀ i, i < len → ∃ a c, d.K w a c ∧ good a ∧ ∀ j u, c[j]? = some u → w.cell? (ad.add (i * d.sz + j)) = some u := by
      intro i hil
      obtain ⟨cs', hc, ht'⟩ := hi i (by omega)
      obtain ⟨a, hk, hg⟩ := hE ht'
      obtain ⟨_, hcl, hat⟩ := World.cells?_some hc
      refine ⟨a, cs', hk, hg, fun j u hj => ?_⟩
      have hj2 : j < P.cellsOf e := by rw [← hcl]; exact (List.getElem?_eq_some_iff.mp hj).1
      rw [← hC, ← Deep.add_add, hat j hj2, hj]
    obtain ⟨l, hll, hg, hc⟩ := build len hcells
    refine ⟨l, ⟨some ad, cap, by rw [hll], by omega, ⟨rfl, ?_, fun _ => ⟨ad, rfl, hc⟩⟩⟩, hg⟩
    unfold maxLen at hm
    omega

theorem opens_struct2 {t : TypeId} {f0 f1 : Field} {d0 : Kd α} {d1 : Kd β} {g0 : α → Prop} {g1 : β → Prop} (ht : P.underlying t = some (.struct #[f0, f1])) (h0 : f0.offset = 0) (h1 : f1.offset = P.cellsOf f0.type)
    (hs : P.cellsOf t = P.cellsOf f0.type + P.cellsOf f1.type) (o0 : Opens P f0.type d0 g0) (o1 : Opens P f1.type d1 g1) : Opens P t (Kd.pair d0 d1) (fun x => g0 x.1 ∧ g1 x.2) := by
  intro H enc w spare held fuel cs x h
  obtain ⟨xs, n, _, _, hl, hlen, hf⟩ := DataW.trod_struct ht h
  match xs, hlen with
  | [y0, y1], _ =>
    obtain ⟨a0, k0, q0⟩ := o0 (hf 0 f0 rfl)
    obtain ⟨a1, k1, q1⟩ := o1 (hf 1 f1 rfl)
    refine ⟨(a0, a1), ⟨_, _, ?_, k0, k1⟩, q0, q1⟩
    rw [h0, h1, List.drop_zero, List.take_of_length_le (l := cs.drop _) (by rw [List.length_drop]; omega), List.take_append_drop]

theorem opens_struct3 {t : TypeId} {f0 f1 f2 : Field} {d0 : Kd α} {d1 : Kd β} {d2 : Kd γ} {g0 : α → Prop} {g1 : β → Prop} {g2 : γ → Prop} (ht : P.underlying t = some (.struct #[f0, f1, f2])) (h0 : f0.offset = 0) (h1 : f1.offset = P.cellsOf f0.type) (h2 : f2.offset = P.cellsOf f0.type + P.cellsOf f1.type)
    (hs : P.cellsOf t = P.cellsOf f0.type + P.cellsOf f1.type + P.cellsOf f2.type) (o0 : Opens P f0.type d0 g0) (o1 : Opens P f1.type d1 g1) (o2 : Opens P f2.type d2 g2) : Opens P t (Kd.pair d0 (Kd.pair d1 d2)) (fun x => g0 x.1 ∧ g1 x.2.1 ∧ g2 x.2.2) := by
  intro H enc w spare held fuel cs x h
  obtain ⟨xs, n, _, _, hl, hlen, hf⟩ := DataW.trod_struct ht h
  match xs, hlen with
  | [y0, y1, y2], _ =>
    obtain ⟨a0, k0, q0⟩ := o0 (hf 0 f0 rfl)
    obtain ⟨a1, k1, q1⟩ := o1 (hf 1 f1 rfl)
    obtain ⟨a2, k2, q2⟩ := o2 (hf 2 f2 rfl)
    refine ⟨(a0, a1, a2), ⟨_, _, ?_, k0, _, _, rfl, k1, k2⟩, q0, q1, q2⟩
    rw [h0, h1, h2, List.drop_zero, List.take_of_length_le (l := cs.drop (_ + _)) (by rw [List.length_drop]; omega), ← List.drop_drop, List.take_append_drop, List.take_append_drop]
end
end Go.Proofs.Ytmbnibonggbjgaa.Open

namespace Go.Proofs.Ytmbnibonggbjgaa.X
open Go.RowKit Go.Proofs.YtmbnibonggbjgaaW.PrintWords Go.Proofs.YtmbnibonggbjgaaW.PrintLast Go.Proofs.YtmbnibonggbjgaaW.PrintMore
open Go.Proofs.YtmbnibonggbjgaaW.PrintWords renaming blk_drewN → bN, blk_drew → bD, blk_alloc → bA, below_alloc → wA, pw_below_drewN → wN, below_drew1 → wD, blk_below → bB, below_step → wS, blk_at → bT, blk_grown → bG
open Go.Proofs.YtmbnibonggbjgaaW.PrintWords.Kd renaming R_alloc → rA, R_drewN → rN, R_drew → rD, R_below → rB, R_grown → rG, C_below → cB, C_alloc → cA, C_drewN → cN, C_drew → cD
attribute [local go_sem] max2_int min2_int max_two min_two max_three min_three max_four min_four
set_option linter.unusedVariables false
set_option linter.unusedSimpArgs false
def errW : Option Int → Value
 | none => .nilIface
 | some c => .iface 0 (.int .i64 c)
theorem errW_none : errW none = .nilIface := rfl
theorem errW_some (c : Int) : errW (some c) = .iface 0 (.int .i64 c) := rfl
theorem info3 : (Try.prog.info? 3).map (fun i => (i.zero, i.size, i.bytes)) = some (some (.int .i64 0), 1, 8) := by kernel_rfl
theorem info22 : (Try.prog.info? 22).map (fun i => (i.zero, i.size, i.bytes)) = some (some (.slice none 0 0), 1, 24) := by kernel_rfl
theorem info25 : (Try.prog.info? 25).map (fun i => (i.zero, i.size, i.bytes)) = some (some (.agg #[(.slice none 0 0), (.slice none 0 0)]), 2, 48) := by kernel_rfl
theorem info38 : (Try.prog.info? 38).map (fun i => (i.zero, i.size, i.bytes)) = some (some (.agg #[(.int .i64 0), (.int .i64 0), (.int .i64 0)]), 3, 24) := by kernel_rfl
theorem info64 : (Try.prog.info? 64).map (fun i => (i.zero, i.size, i.bytes)) = some (some (.agg #[(.slice none 0 0), (.slice none 0 0)]), 2, 48) := by kernel_rfl
-- the values' own types
def rd_L1 (xs : List (List Int)) (i : Int) : (List Int) := xs.getD i.toNat ([] : List Int)
theorem at_L1 {w : World} {A : Option Addr} {n : Nat} {xs : List (List Int)} (h : Kd.C (Kd.slice 3 (Kd.int .i64)) w A n xs) (i : Int) (h0 : 0 ≤ i) (h1 : i < n) : ∃ ad A0 c0, A = some ad ∧ w.cell? (ad.add i.toNat) = some (.slice A0 (rd_L1 xs i).length c0) ∧ (rd_L1 xs i).length ≤ c0 ∧ (Kd.int .i64).C w A0 (rd_L1 xs i).length (rd_L1 xs i) := by
 obtain ⟨ad, c, e, _, hK, hc0⟩ := Kd.C_get h ([] : List Int) i h0 h1
 have hc : ∀ j u, c[j]? = some u → w.cell? (ad.add (i.toNat * 1 + j)) = some u := hc0
 obtain ⟨A0, c0, rfl, l0, g0⟩ := hK
 exact ⟨ad, A0, c0, e, by have hq := hc 0 _ rfl; rwa [Nat.mul_one, Nat.add_zero] at hq, l0, g0⟩
/-! #### struct type 38 -/
structure S38 where
 f0 : Int
 f1 : Int
 f2 : Int
def z38 : S38 := ⟨(0 : Int), (0 : Int), (0 : Int)⟩
def k38 : Kd S38 := Kd.iso (Kd.pair (Kd.int .i64) (Kd.pair (Kd.int .i64) (Kd.int .i64))) (fun x : S38 => (x.f0, x.f1, x.f2))
theorem k38_open {w : World} {x : S38} {cs : List Value} (h : k38.K w x cs) : cs = [.int .i64 x.f0, .int .i64 x.f1, .int .i64 x.f2] := by
 obtain ⟨_, _, rfl, rfl, ⟨_, _, rfl, rfl, rfl⟩⟩ := h
 exact rfl
theorem k38_openM {w : World} {base : Nat} {ok : Nat → Prop} {x : S38} {cs : List Value} (h : k38.M w base ok x cs) : cs = [.int .i64 x.f0, .int .i64 x.f1, .int .i64 x.f2] := by
 obtain ⟨_, _, rfl, rfl, ⟨_, _, rfl, rfl, rfl⟩⟩ := h
 exact rfl
theorem k38_mk (w : World) (x : S38)  : k38.K w x [.int .i64 x.f0, .int .i64 x.f1, .int .i64 x.f2] := ⟨[.int .i64 x.f0], [.int .i64 x.f1, .int .i64 x.f2], rfl, rfl, ⟨[.int .i64 x.f1], [.int .i64 x.f2], rfl, rfl, rfl⟩⟩
theorem k38_mkM (w : World) (base : Nat) (ok : Nat → Prop) (x : S38)  : k38.M w base ok x [.int .i64 x.f0, .int .i64 x.f1, .int .i64 x.f2] := ⟨[.int .i64 x.f0], [.int .i64 x.f1, .int .i64 x.f2], rfl, rfl, ⟨[.int .i64 x.f1], [.int .i64 x.f2], rfl, rfl, rfl⟩⟩
theorem k38_mkF (W : World) (ok : Nat → Prop) (x : S38) : Kd.FK k38 W ok x [.int .i64 x.f0, .int .i64 x.f1, .int .i64 x.f2] := fun W2 _ => k38_mk W2 x
def rd_T38 (xs : List S38) (i : Int) : S38 := xs.getD i.toNat z38
theorem at_T38 {w : World} {A : Option Addr} {n : Nat} {xs : List S38} (h : Kd.C k38 w A n xs) (i : Int) (h0 : 0 ≤ i) (h1 : i < n) : ∃ ad , A = some ad ∧ w.cell? (ad.add (i.toNat * 3)) = some (.int .i64 (rd_T38 xs i).f0) ∧ w.cell? ⟨(ad.add (i.toNat * 3)).block, (ad.add (i.toNat * 3)).off + 1, none⟩ = some (.int .i64 (rd_T38 xs i).f1) ∧ w.cell? ⟨(ad.add (i.toNat * 3)).block, (ad.add (i.toNat * 3)).off + 2, none⟩ = some (.int .i64 (rd_T38 xs i).f2) := by
 obtain ⟨ad, c, e, _, hK, hc0⟩ := Kd.C_get h z38 i h0 h1
 have hc : ∀ j u, c[j]? = some u → w.cell? (ad.add (i.toNat * 3 + j)) = some u := hc0
 obtain rfl := k38_open hK
 exact ⟨ad, e, hc 0 _ rfl, by rw [← add_field _ _ 1 (by omega)]; exact hc 1 _ rfl, by rw [← add_field _ _ 2 (by omega)]; exact hc 2 _ rfl⟩
def rd_L3 (xs : List (List S38)) (i : Int) : (List S38) := xs.getD i.toNat ([] : List S38)
theorem at_L3 {w : World} {A : Option Addr} {n : Nat} {xs : List (List S38)} (h : Kd.C (Kd.slice 38 k38) w A n xs) (i : Int) (h0 : 0 ≤ i) (h1 : i < n) : ∃ ad A0 c0, A = some ad ∧ w.cell? (ad.add i.toNat) = some (.slice A0 (rd_L3 xs i).length c0) ∧ (rd_L3 xs i).length ≤ c0 ∧ k38.C w A0 (rd_L3 xs i).length (rd_L3 xs i) := by
 obtain ⟨ad, c, e, _, hK, hc0⟩ := Kd.C_get h ([] : List S38) i h0 h1
 have hc : ∀ j u, c[j]? = some u → w.cell? (ad.add (i.toNat * 1 + j)) = some u := hc0
 obtain ⟨A0, c0, rfl, l0, g0⟩ := hK
 exact ⟨ad, A0, c0, e, by have hq := hc 0 _ rfl; rwa [Nat.mul_one, Nat.add_zero] at hq, l0, g0⟩
/-! #### struct type 25 -/
structure S25 where
 f0 : (List Int)
 f1 : (List S38)
def z25 : S25 := ⟨([] : List Int), ([] : List S38)⟩
def k25 : Kd S25 := Kd.iso (Kd.pair (Kd.slice 3 (Kd.int .i64)) (Kd.slice 38 k38)) (fun x : S25 => (x.f0, x.f1))
theorem k25_open {w : World} {x : S25} {cs : List Value} (h : k25.K w x cs) : ∃ A0 c0 A1 c1, cs = [.slice A0 x.f0.length c0, .slice A1 x.f1.length c1] ∧ x.f0.length ≤ c0 ∧ (Kd.int .i64).C w A0 x.f0.length x.f0 ∧ x.f1.length ≤ c1 ∧ k38.C w A1 x.f1.length x.f1 := by
 obtain ⟨_, _, rfl, ⟨A0, c0, rfl, l0, g0⟩, ⟨A1, c1, rfl, l1, g1⟩⟩ := h
 exact ⟨A0, c0, A1, c1, rfl, l0, g0, l1, g1⟩
theorem k25_openM {w : World} {base : Nat} {ok : Nat → Prop} {x : S25} {cs : List Value} (h : k25.M w base ok x cs) : ∃ v0 v1, cs = [v0, v1] ∧ (Kd.int .i64).R 3 w base ok v0 x.f0 ∧ k38.R 38 w base ok v1 x.f1 := by
 obtain ⟨_, _, rfl, ⟨v0, rfl, g0⟩, ⟨v1, rfl, g1⟩⟩ := h
 exact ⟨v0, v1, rfl, g0, g1⟩
theorem k25_mk (w : World) (x : S25) {A0 : Option Addr} {c0 : Nat} (l0 : x.f0.length ≤ c0) (g0 : (Kd.int .i64).C w A0 x.f0.length x.f0) {A1 : Option Addr} {c1 : Nat} (l1 : x.f1.length ≤ c1) (g1 : k38.C w A1 x.f1.length x.f1) : k25.K w x [.slice A0 x.f0.length c0, .slice A1 x.f1.length c1] := ⟨[.slice A0 x.f0.length c0], [.slice A1 x.f1.length c1], rfl, ⟨A0, c0, rfl, l0, g0⟩, ⟨A1, c1, rfl, l1, g1⟩⟩
theorem k25_mkM (w : World) (base : Nat) (ok : Nat → Prop) (x : S25) {v0 : Value} (g0 : (Kd.int .i64).R 3 w base ok v0 x.f0) {v1 : Value} (g1 : k38.R 38 w base ok v1 x.f1) : k25.M w base ok x [v0, v1] := ⟨[v0], [v1], rfl, ⟨v0, rfl, g0⟩, ⟨v1, rfl, g1⟩⟩
theorem k25_openF {W : World} {ok : Nat → Prop} {x : S25} {cs : List Value} (h : Kd.FK k25 W ok x cs) : ∃ A0 c0 A1 c1, cs = [.slice A0 x.f0.length c0, .slice A1 x.f1.length c1] ∧ x.f0.length ≤ c0 ∧ Kd.F (Kd.int .i64) W ok A0 x.f0.length x.f0 ∧ x.f1.length ≤ c1 ∧ Kd.F k38 W ok A1 x.f1.length x.f1 := by
 obtain ⟨A0, c0, A1, c1, rfl, l0, _, l1, _⟩ := k25_open (Kd.FK_now h)
 exact ⟨A0, c0, A1, c1, rfl, l0, (fun W' hW => by obtain ⟨A0_, c0_, A1_, c1_, he, l0_, g0_, l1_, g1_⟩ := k25_open (h W' hW); injection (Option.some.inj (show some (Value.slice A0 x.f0.length c0) = some (Value.slice A0_ x.f0.length c0_) from congrArg (fun l => l[0]?) he)) with ha_ _ _; rw [ha_]; exact g0_), l1, (fun W' hW => by obtain ⟨A0_, c0_, A1_, c1_, he, l0_, g0_, l1_, g1_⟩ := k25_open (h W' hW); injection (Option.some.inj (show some (Value.slice A1 x.f1.length c1) = some (Value.slice A1_ x.f1.length c1_) from congrArg (fun l => l[1]?) he)) with ha_ _ _; rw [ha_]; exact g1_)⟩
theorem k25_mkF (W : World) (ok : Nat → Prop) (x : S25) {A0 : Option Addr} {c0 : Nat} (l0 : x.f0.length ≤ c0) (g0 : Kd.F (Kd.int .i64) W ok A0 x.f0.length x.f0) {A1 : Option Addr} {c1 : Nat} (l1 : x.f1.length ≤ c1) (g1 : Kd.F k38 W ok A1 x.f1.length x.f1) : Kd.FK k25 W ok x [.slice A0 x.f0.length c0, .slice A1 x.f1.length c1] := fun W2 hW => k25_mk W2 x l0 (g0 W2 hW) l1 (g1 W2 hW)
def rd_T25 (xs : List S25) (i : Int) : S25 := xs.getD i.toNat z25
theorem at_T25 {w : World} {A : Option Addr} {n : Nat} {xs : List S25} (h : Kd.C k25 w A n xs) (i : Int) (h0 : 0 ≤ i) (h1 : i < n) : ∃ ad A0 c0 A1 c1, A = some ad ∧ w.cell? (ad.add (i.toNat * 2)) = some (.slice A0 (rd_T25 xs i).f0.length c0) ∧ w.cell? ⟨(ad.add (i.toNat * 2)).block, (ad.add (i.toNat * 2)).off + 1, none⟩ = some (.slice A1 (rd_T25 xs i).f1.length c1) ∧ (rd_T25 xs i).f0.length ≤ c0 ∧ (Kd.int .i64).C w A0 (rd_T25 xs i).f0.length (rd_T25 xs i).f0 ∧ (rd_T25 xs i).f1.length ≤ c1 ∧ k38.C w A1 (rd_T25 xs i).f1.length (rd_T25 xs i).f1 := by
 obtain ⟨ad, c, e, _, hK, hc0⟩ := Kd.C_get h z25 i h0 h1
 have hc : ∀ j u, c[j]? = some u → w.cell? (ad.add (i.toNat * 2 + j)) = some u := hc0
 obtain ⟨A0, c0, A1, c1, rfl, l0, g0, l1, g1⟩ := k25_open hK
 exact ⟨ad, A0, c0, A1, c1, e, hc 0 _ rfl, by rw [← add_field _ _ 1 (by omega)]; exact hc 1 _ rfl, l0, g0, l1, g1⟩
/-! #### struct type 64 -/
structure S64 where
 f0 : (List Int)
 f1 : (List Int)
def z64 : S64 := ⟨([] : List Int), ([] : List Int)⟩
def k64 : Kd S64 := Kd.iso (Kd.pair (Kd.slice 3 (Kd.int .i64)) (Kd.slice 3 (Kd.int .i64))) (fun x : S64 => (x.f0, x.f1))
theorem k64_open {w : World} {x : S64} {cs : List Value} (h : k64.K w x cs) : ∃ A0 c0 A1 c1, cs = [.slice A0 x.f0.length c0, .slice A1 x.f1.length c1] ∧ x.f0.length ≤ c0 ∧ (Kd.int .i64).C w A0 x.f0.length x.f0 ∧ x.f1.length ≤ c1 ∧ (Kd.int .i64).C w A1 x.f1.length x.f1 := by
 obtain ⟨_, _, rfl, ⟨A0, c0, rfl, l0, g0⟩, ⟨A1, c1, rfl, l1, g1⟩⟩ := h
 exact ⟨A0, c0, A1, c1, rfl, l0, g0, l1, g1⟩
theorem k64_openM {w : World} {base : Nat} {ok : Nat → Prop} {x : S64} {cs : List Value} (h : k64.M w base ok x cs) : ∃ v0 v1, cs = [v0, v1] ∧ (Kd.int .i64).R 3 w base ok v0 x.f0 ∧ (Kd.int .i64).R 3 w base ok v1 x.f1 := by
 obtain ⟨_, _, rfl, ⟨v0, rfl, g0⟩, ⟨v1, rfl, g1⟩⟩ := h
 exact ⟨v0, v1, rfl, g0, g1⟩
theorem k64_mk (w : World) (x : S64) {A0 : Option Addr} {c0 : Nat} (l0 : x.f0.length ≤ c0) (g0 : (Kd.int .i64).C w A0 x.f0.length x.f0) {A1 : Option Addr} {c1 : Nat} (l1 : x.f1.length ≤ c1) (g1 : (Kd.int .i64).C w A1 x.f1.length x.f1) : k64.K w x [.slice A0 x.f0.length c0, .slice A1 x.f1.length c1] := ⟨[.slice A0 x.f0.length c0], [.slice A1 x.f1.length c1], rfl, ⟨A0, c0, rfl, l0, g0⟩, ⟨A1, c1, rfl, l1, g1⟩⟩
theorem k64_mkM (w : World) (base : Nat) (ok : Nat → Prop) (x : S64) {v0 : Value} (g0 : (Kd.int .i64).R 3 w base ok v0 x.f0) {v1 : Value} (g1 : (Kd.int .i64).R 3 w base ok v1 x.f1) : k64.M w base ok x [v0, v1] := ⟨[v0], [v1], rfl, ⟨v0, rfl, g0⟩, ⟨v1, rfl, g1⟩⟩
theorem k64_openF {W : World} {ok : Nat → Prop} {x : S64} {cs : List Value} (h : Kd.FK k64 W ok x cs) : ∃ A0 c0 A1 c1, cs = [.slice A0 x.f0.length c0, .slice A1 x.f1.length c1] ∧ x.f0.length ≤ c0 ∧ Kd.F (Kd.int .i64) W ok A0 x.f0.length x.f0 ∧ x.f1.length ≤ c1 ∧ Kd.F (Kd.int .i64) W ok A1 x.f1.length x.f1 := by
 obtain ⟨A0, c0, A1, c1, rfl, l0, _, l1, _⟩ := k64_open (Kd.FK_now h)
 exact ⟨A0, c0, A1, c1, rfl, l0, (fun W' hW => by obtain ⟨A0_, c0_, A1_, c1_, he, l0_, g0_, l1_, g1_⟩ := k64_open (h W' hW); injection (Option.some.inj (show some (Value.slice A0 x.f0.length c0) = some (Value.slice A0_ x.f0.length c0_) from congrArg (fun l => l[0]?) he)) with ha_ _ _; rw [ha_]; exact g0_), l1, (fun W' hW => by obtain ⟨A0_, c0_, A1_, c1_, he, l0_, g0_, l1_, g1_⟩ := k64_open (h W' hW); injection (Option.some.inj (show some (Value.slice A1 x.f1.length c1) = some (Value.slice A1_ x.f1.length c1_) from congrArg (fun l => l[1]?) he)) with ha_ _ _; rw [ha_]; exact g1_)⟩
theorem k64_mkF (W : World) (ok : Nat → Prop) (x : S64) {A0 : Option Addr} {c0 : Nat} (l0 : x.f0.length ≤ c0) (g0 : Kd.F (Kd.int .i64) W ok A0 x.f0.length x.f0) {A1 : Option Addr} {c1 : Nat} (l1 : x.f1.length ≤ c1) (g1 : Kd.F (Kd.int .i64) W ok A1 x.f1.length x.f1) : Kd.FK k64 W ok x [.slice A0 x.f0.length c0, .slice A1 x.f1.length c1] := fun W2 hW => k64_mk W2 x l0 (g0 W2 hW) l1 (g1 W2 hW)
def rd_T64 (xs : List S64) (i : Int) : S64 := xs.getD i.toNat z64
theorem at_T64 {w : World} {A : Option Addr} {n : Nat} {xs : List S64} (h : Kd.C k64 w A n xs) (i : Int) (h0 : 0 ≤ i) (h1 : i < n) : ∃ ad A0 c0 A1 c1, A = some ad ∧ w.cell? (ad.add (i.toNat * 2)) = some (.slice A0 (rd_T64 xs i).f0.length c0) ∧ w.cell? ⟨(ad.add (i.toNat * 2)).block, (ad.add (i.toNat * 2)).off + 1, none⟩ = some (.slice A1 (rd_T64 xs i).f1.length c1) ∧ (rd_T64 xs i).f0.length ≤ c0 ∧ (Kd.int .i64).C w A0 (rd_T64 xs i).f0.length (rd_T64 xs i).f0 ∧ (rd_T64 xs i).f1.length ≤ c1 ∧ (Kd.int .i64).C w A1 (rd_T64 xs i).f1.length (rd_T64 xs i).f1 := by
 obtain ⟨ad, c, e, _, hK, hc0⟩ := Kd.C_get h z64 i h0 h1
 have hc : ∀ j u, c[j]? = some u → w.cell? (ad.add (i.toNat * 2 + j)) = some u := hc0
 obtain ⟨A0, c0, A1, c1, rfl, l0, g0, l1, g1⟩ := k64_open hK
 exact ⟨ad, A0, c0, A1, c1, e, hc 0 _ rfl, by rw [← add_field _ _ 1 (by omega)]; exact hc 1 _ rfl, l0, g0, l1, g1⟩
def rd_L6 (xs : List (List (List Int))) (i : Int) : (List (List Int)) := xs.getD i.toNat ([] : List (List Int))
theorem at_L6 {w : World} {A : Option Addr} {n : Nat} {xs : List (List (List Int))} (h : Kd.C (Kd.slice 22 (Kd.slice 3 (Kd.int .i64))) w A n xs) (i : Int) (h0 : 0 ≤ i) (h1 : i < n) : ∃ ad A0 c0, A = some ad ∧ w.cell? (ad.add i.toNat) = some (.slice A0 (rd_L6 xs i).length c0) ∧ (rd_L6 xs i).length ≤ c0 ∧ (Kd.slice 3 (Kd.int .i64)).C w A0 (rd_L6 xs i).length (rd_L6 xs i) := by
 obtain ⟨ad, c, e, _, hK, hc0⟩ := Kd.C_get h ([] : List (List Int)) i h0 h1
 have hc : ∀ j u, c[j]? = some u → w.cell? (ad.add (i.toNat * 1 + j)) = some u := hc0
 obtain ⟨A0, c0, rfl, l0, g0⟩ := hK
 exact ⟨ad, A0, c0, e, by have hq := hc 0 _ rfl; rwa [Nat.mul_one, Nat.add_zero] at hq, l0, g0⟩
/-! #### struct type 81 -/
structure S81 where
 f0 : Int
 f1 : Int
 f2 : Int
def z81 : S81 := ⟨(0 : Int), (0 : Int), (0 : Int)⟩
def k81 : Kd S81 := Kd.iso (Kd.pair (Kd.int .u8) (Kd.pair (Kd.int .u8) (Kd.int .u8))) (fun x : S81 => (x.f0, x.f1, x.f2))
theorem k81_open {w : World} {x : S81} {cs : List Value} (h : k81.K w x cs) : cs = [.int .u8 x.f0, .int .u8 x.f1, .int .u8 x.f2] := by
 obtain ⟨_, _, rfl, rfl, ⟨_, _, rfl, rfl, rfl⟩⟩ := h
 exact rfl
theorem k81_openM {w : World} {base : Nat} {ok : Nat → Prop} {x : S81} {cs : List Value} (h : k81.M w base ok x cs) : cs = [.int .u8 x.f0, .int .u8 x.f1, .int .u8 x.f2] := by
 obtain ⟨_, _, rfl, rfl, ⟨_, _, rfl, rfl, rfl⟩⟩ := h
 exact rfl
theorem k81_mk (w : World) (x : S81)  : k81.K w x [.int .u8 x.f0, .int .u8 x.f1, .int .u8 x.f2] := ⟨[.int .u8 x.f0], [.int .u8 x.f1, .int .u8 x.f2], rfl, rfl, ⟨[.int .u8 x.f1], [.int .u8 x.f2], rfl, rfl, rfl⟩⟩
theorem k81_mkM (w : World) (base : Nat) (ok : Nat → Prop) (x : S81)  : k81.M w base ok x [.int .u8 x.f0, .int .u8 x.f1, .int .u8 x.f2] := ⟨[.int .u8 x.f0], [.int .u8 x.f1, .int .u8 x.f2], rfl, rfl, ⟨[.int .u8 x.f1], [.int .u8 x.f2], rfl, rfl, rfl⟩⟩
theorem k81_mkF (W : World) (ok : Nat → Prop) (x : S81) : Kd.FK k81 W ok x [.int .u8 x.f0, .int .u8 x.f1, .int .u8 x.f2] := fun W2 _ => k81_mk W2 x
def rd_T81 (xs : List S81) (i : Int) : S81 := xs.getD i.toNat z81
theorem at_T81 {w : World} {A : Option Addr} {n : Nat} {xs : List S81} (h : Kd.C k81 w A n xs) (i : Int) (h0 : 0 ≤ i) (h1 : i < n) : ∃ ad , A = some ad ∧ w.cell? (ad.add (i.toNat * 3)) = some (.int .u8 (rd_T81 xs i).f0) ∧ w.cell? ⟨(ad.add (i.toNat * 3)).block, (ad.add (i.toNat * 3)).off + 1, none⟩ = some (.int .u8 (rd_T81 xs i).f1) ∧ w.cell? ⟨(ad.add (i.toNat * 3)).block, (ad.add (i.toNat * 3)).off + 2, none⟩ = some (.int .u8 (rd_T81 xs i).f2) := by
 obtain ⟨ad, c, e, _, hK, hc0⟩ := Kd.C_get h z81 i h0 h1
 have hc : ∀ j u, c[j]? = some u → w.cell? (ad.add (i.toNat * 3 + j)) = some u := hc0
 obtain rfl := k81_open hK
 exact ⟨ad, e, hc 0 _ rfl, by rw [← add_field _ _ 1 (by omega)]; exact hc 1 _ rfl, by rw [← add_field _ _ 2 (by omega)]; exact hc 2 _ rfl⟩
theorem oT {p : Prop} [Decidable p] (h : decide p = true := by first | (with_reducible assumption) | assumption) : p := of_decide_eq_true h
theorem rS {p : Prop} (h : p := by first | rfl | (simp; done) | (simp [*]; done)) : p := h
theorem hB {p : Prop} (h : p := by repeat (first | (with_reducible first | exact HB.out | apply below_alloc | apply pw_below_drewN | apply below_drew1) | exact HB.out)) : p := h
theorem aM {p : Prop} (h : p := by (try simp only [List.map_toArray, List.map_cons, List.map_nil]); first | done | rfl | (simp only [List.length_drop, List.length_take]; rfl)) : p := h
theorem pB {w0 w : World} {g : Nat} {o : Obj} (x : Aside0 (w0.heap[g]? = some o)) (m : w0.heap[g]? = some o → w.heap[g]? = some o := by intro h; (with_reducible repeat (first | refine bN ?_ _ | refine bD ?_ | refine bA ?_ _)); exact h) : w.heap[g]? = some o := m x.out
theorem uB {w0 w w1 : World} {g : Nat} {o : Obj} (x : Aside0 (w0.heap[g]? = some o)) (hb : Below w.heap.size w w1) (m : w0.heap[g]? = some o → w.heap[g]? = some o := by intro h; (with_reducible repeat (first | refine bN ?_ _ | refine bD ?_ | refine bA ?_ _)); exact h) : Aside0 (w1.heap[g]? = some o) := ⟨bB (m x.out) hb⟩
theorem uL {w0 w : World} {g g' : Nat} {o : Obj} (x : Aside0 (w0.heap[g]? = some o)) (hg : g' = w.heap.size) (m : w0.heap[g]? = some o → w.heap[g]? = some o := by intro h; (with_reducible repeat (first | refine bN ?_ _ | refine bD ?_ | refine bA ?_ _)); exact h) : Aside0 (g ≠ g') := ⟨by rw [hg]; exact Nat.ne_of_lt (blk_lt (m x.out))⟩
theorem uG {w0 w : World} {g g' : Nat} {o : Obj} (x : Aside0 (w0.heap[g]? = some o)) (hg : g' = w.heap.size) (m : w0.heap[g]? = some o → w.heap[g]? = some o := by intro h; (with_reducible repeat (first | refine bN ?_ _ | refine bD ?_ | refine bA ?_ _)); exact h) : Aside0 (g' ≠ g) := ⟨by rw [hg]; exact Nat.ne_of_gt (blk_lt (m x.out))⟩
theorem pH {w w0 w1 : World} (x : Aside0 (Below w.heap.size w w0)) (m : Below w.heap.size w w0 → Below w.heap.size w w1 := by intro h; repeat (first | (with_reducible first | exact h | apply wA | apply wN | apply wD | refine below_set ?_ (Aside0.out (by assumption))) | exact h)) : Below w.heap.size w w1 := m x.out
theorem uH {w w0 w1 w2 : World} (x : Aside0 (Below w.heap.size w w0)) (hb : Below w1.heap.size w1 w2) (m : Below w.heap.size w w0 → Below w.heap.size w w1 := by intro h; repeat (first | (with_reducible first | exact h | apply wA | apply wN | apply wD | refine below_set ?_ (Aside0.out (by assumption))) | exact h)) : Aside0 (Below w.heap.size w w2) := ⟨wS (m x.out) hb⟩
theorem uS {w w0 w1 : World} {g : Nat} (x : Aside0 (Below w.heap.size w w0)) (hg : g = w1.heap.size) (m : Below w.heap.size w w0 → Below w.heap.size w w1 := by intro h; repeat (first | (with_reducible first | exact h | apply wA | apply wN | apply wD | refine below_set ?_ (Aside0.out (by assumption))) | exact h)) : Aside0 (w.heap.size ≤ g) := ⟨by rw [hg]; exact below_size (m x.out)⟩
theorem pV {α : Type} {d : Kd α} {e b : Nat} {ok : Nat → Prop} {v : Value} {l : List α} {w0 w : World} (x : Aside0 (Kd.V d e w0 b ok v l)) (m : Kd.V d e w0 b ok v l → Kd.V d e w b ok v l := by intro h; (with_reducible repeat (first | apply Kd.V_alloc | apply Kd.V_drewN | apply Kd.V_drew)); exact h) : Kd.V d e w b ok v l := m x.out
theorem uV {α : Type} {d : Kd α} {e b : Nat} {ok : Nat → Prop} {v : Value} {l : List α} {w0 w : World} {w1 : World} (x : Aside0 (Kd.V d e w0 b ok v l)) (hb : Below w.heap.size w w1) (m : Kd.V d e w0 b ok v l → Kd.V d e w b ok v l := by intro h; (with_reducible repeat (first | apply Kd.V_alloc | apply Kd.V_drewN | apply Kd.V_drew)); exact h) : Aside0 (Kd.V d e w1 b ok v l) := ⟨Kd.V_below (m x.out) hb⟩
theorem eV {α : Type} {d : Kd α} {e b : Nat} {ok : Nat → Prop} {v : Value} {l : List α} {w0 w : World} {w1 : World} {u : Value} (x : Aside0 (Kd.V d e w0 b ok v l)) (hu : ∀ k, u.ownBlock = some k → w.heap.size ≤ k) (hb : Below w.heap.size w w1) (m : Kd.V d e w0 b ok v l → Kd.V d e w b ok v l := by intro h; (with_reducible repeat (first | apply Kd.V_alloc | apply Kd.V_drewN | apply Kd.V_drew)); exact h) : Aside0 (Kd.V d e w1 b (fun k => ok k ∧ some k ≠ u.ownBlock) v l) := ⟨Kd.V_elder' (m x.out) hu hb⟩
theorem gV {α : Type} {d : Kd α} {e b : Nat} {ok : Nat → Prop} {v : Value} {l : List α} {w0 w : World} {w1 : World} (x : Aside0 (Kd.V d e w0 b ok v l)) (a : Nat) (hg : a = w.heap.size) (hb : Below w.heap.size w w1) (m : Kd.V d e w0 b ok v l → Kd.V d e w b ok v l := by intro h; (with_reducible repeat (first | apply Kd.V_alloc | apply Kd.V_drewN | apply Kd.V_drew)); exact h) : Aside0 (Kd.V d e w1 b (fun k => ok k ∧ k ≠ a) v l) := ⟨Kd.V_below (Kd.V_elderB (m x.out) a (Nat.le_of_eq hg.symm)) hb⟩
theorem pR {α : Type} {d : Kd α} {e b : Nat} {ok : Nat → Prop} {v : Value} {l : List α} {w0 w : World} (x : Aside0 (Kd.R d e w0 b ok v l)) (m : Kd.R d e w0 b ok v l → Kd.R d e w b ok v l := by intro h; (with_reducible repeat (first | apply rA | apply rN | apply rD)); exact h) : Kd.R d e w b ok v l := m x.out
theorem uR {α : Type} {d : Kd α} {e b : Nat} {ok : Nat → Prop} {v : Value} {l : List α} {w0 w : World} {w1 : World} (x : Aside0 (Kd.R d e w0 b ok v l)) (hb : Below w.heap.size w w1) (m : Kd.R d e w0 b ok v l → Kd.R d e w b ok v l := by intro h; (with_reducible repeat (first | apply rA | apply rN | apply rD)); exact h) : Aside0 (Kd.R d e w1 b ok v l) := ⟨rB (m x.out) hb⟩
theorem eR {α : Type} {d : Kd α} {e b : Nat} {ok : Nat → Prop} {v : Value} {l : List α} {w0 w : World} {w1 : World} {u : Value} (x : Aside0 (Kd.R d e w0 b ok v l)) (hu : ∀ k, u.ownBlock = some k → w.heap.size ≤ k) (hb : Below w.heap.size w w1) (m : Kd.R d e w0 b ok v l → Kd.R d e w b ok v l := by intro h; (with_reducible repeat (first | apply rA | apply rN | apply rD)); exact h) : Aside0 (Kd.R d e w1 b (fun k => ok k ∧ some k ≠ u.ownBlock) v l) := ⟨Kd.R_elder' (m x.out) hu hb⟩
theorem gR {α : Type} {d : Kd α} {e b : Nat} {ok : Nat → Prop} {v : Value} {l : List α} {w0 w : World} {w1 : World} (x : Aside0 (Kd.R d e w0 b ok v l)) (a : Nat) (hg : a = w.heap.size) (hb : Below w.heap.size w w1) (m : Kd.R d e w0 b ok v l → Kd.R d e w b ok v l := by intro h; (with_reducible repeat (first | apply rA | apply rN | apply rD)); exact h) : Aside0 (Kd.R d e w1 b (fun k => ok k ∧ k ≠ a) v l) := ⟨rB (Kd.R_elderB (m x.out) a (Nat.le_of_eq hg.symm)) hb⟩
theorem pN {α : Type} {d : Kd α} {e b : Nat} {ok : Nat → Prop} {v : Value} {l : List α} {w0 w : World} (x : Aside0 (Kd.N d e w0 b ok v l)) (m : Kd.N d e w0 b ok v l → Kd.N d e w b ok v l := by intro h; (with_reducible repeat (first | apply Kd.N_alloc | apply Kd.N_drewN | apply Kd.N_drew)); exact h) : Kd.N d e w b ok v l := m x.out
theorem uN {α : Type} {d : Kd α} {e b : Nat} {ok : Nat → Prop} {v : Value} {l : List α} {w0 w : World} {w1 : World} (x : Aside0 (Kd.N d e w0 b ok v l)) (hb : Below w.heap.size w w1) (m : Kd.N d e w0 b ok v l → Kd.N d e w b ok v l := by intro h; (with_reducible repeat (first | apply Kd.N_alloc | apply Kd.N_drewN | apply Kd.N_drew)); exact h) : Aside0 (Kd.N d e w1 b ok v l) := ⟨Kd.N_below (m x.out) hb⟩
theorem eN {α : Type} {d : Kd α} {e b : Nat} {ok : Nat → Prop} {v : Value} {l : List α} {w0 w : World} {w1 : World} {u : Value} (x : Aside0 (Kd.N d e w0 b ok v l)) (hu : ∀ k, u.ownBlock = some k → w.heap.size ≤ k) (hb : Below w.heap.size w w1) (m : Kd.N d e w0 b ok v l → Kd.N d e w b ok v l := by intro h; (with_reducible repeat (first | apply Kd.N_alloc | apply Kd.N_drewN | apply Kd.N_drew)); exact h) : Aside0 (Kd.N d e w1 b (fun k => ok k ∧ some k ≠ u.ownBlock) v l) := ⟨Kd.N_elder' (m x.out) hu hb⟩
theorem gN {α : Type} {d : Kd α} {e b : Nat} {ok : Nat → Prop} {v : Value} {l : List α} {w0 w : World} {w1 : World} (x : Aside0 (Kd.N d e w0 b ok v l)) (a : Nat) (hg : a = w.heap.size) (hb : Below w.heap.size w w1) (m : Kd.N d e w0 b ok v l → Kd.N d e w b ok v l := by intro h; (with_reducible repeat (first | apply Kd.N_alloc | apply Kd.N_drewN | apply Kd.N_drew)); exact h) : Aside0 (Kd.N d e w1 b (fun k => ok k ∧ k ≠ a) v l) := ⟨Kd.N_below (Kd.N_elderB (m x.out) a (Nat.le_of_eq hg.symm)) hb⟩
end Go.Proofs.Ytmbnibonggbjgaa.X

/- Words for walks by hand: what is held of blocks and of rows that are only read. -/
namespace Go.Proofs.Ytmbnibonggbjgaa.X
open Go.RowKit Go.Proofs.YtmbnibonggbjgaaW.PrintWords Go.Proofs.YtmbnibonggbjgaaW.PrintLast Go.Proofs.YtmbnibonggbjgaaW.PrintMore
set_option linter.unusedVariables false

/-- Variable g of type t holds two cells. -/
structure Box2 (W : World) (g t : Nat) (a b : Value) : Prop where
  get : W.heap[g]? = some (.cells #[a, b] t (0, 0))
theorem Box2.below {W W' : World} {g t : Nat} {a b : Value} (h : Box2 W g t a b) (hb : Below W.heap.size W W') : Box2 W' g t a b := ⟨blk_below h.get hb⟩
theorem Box2.c0 {W : World} {g t : Nat} {a b : Value} (h : Box2 W g t a b) : W.cell? ⟨g, 0, none⟩ = some a := (blk_cell h.get 0).trans rfl
theorem Box2.c1 {W : World} {g t : Nat} {a b : Value} (h : Box2 W g t a b) : W.cell? ⟨g, 1, none⟩ = some b := (blk_cell h.get 1).trans rfl
theorem two_new (w : World) (a b : Value) (t : Nat) (a' b' : Value) (t' : Nat) :
    Box2 ((w.alloc (.cells #[a, b] t)).alloc (.cells #[a', b'] t')) w.heap.size t a b ∧ Box2 ((w.alloc (.cells #[a, b] t)).alloc (.cells #[a', b'] t')) (w.heap.size + 1) t' a' b' ∧
    Below w.heap.size w ((w.alloc (.cells #[a, b] t)).alloc (.cells #[a', b'] t')) := by
  refine ⟨⟨blk_alloc (heap_alloc_new w _) _⟩, ⟨?_⟩, below_alloc (below_alloc (Below.refl _ _) _) _⟩
  have h := heap_alloc_new (w.alloc (.cells #[a, b] t)) (.cells #[a', b'] t')
  rw [show (w.alloc (.cells #[a, b] t)).heap.size = w.heap.size + 1 from by simp] at h
  exact h
theorem one_new (w : World) (a b : Value) (t : Nat) : Box2 (w.alloc (.cells #[a, b] t)) w.heap.size t a b ∧ Below w.heap.size w (w.alloc (.cells #[a, b] t)) := ⟨⟨heap_alloc_new w _⟩, below_alloc (Below.refl _ _) _⟩
/-- Variable g of type t holds three cells. -/
structure Box3 (W : World) (g t : Nat) (a b c : Value) : Prop where
  get : W.heap[g]? = some (.cells #[a, b, c] t (0, 0))
theorem Box3.below {W W' : World} {g t : Nat} {a b c : Value} (h : Box3 W g t a b c) (hb : Below W.heap.size W W') : Box3 W' g t a b c := ⟨blk_below h.get hb⟩
theorem Box3.c0 {W : World} {g t : Nat} {a b c : Value} (h : Box3 W g t a b c) : W.cell? ⟨g, 0, none⟩ = some a := (blk_cell h.get 0).trans rfl
theorem Box3.c1 {W : World} {g t : Nat} {a b c : Value} (h : Box3 W g t a b c) : W.cell? ⟨g, 1, none⟩ = some b := (blk_cell h.get 1).trans rfl
theorem Box3.c2 {W : World} {g t : Nat} {a b c : Value} (h : Box3 W g t a b c) : W.cell? ⟨g, 2, none⟩ = some c := (blk_cell h.get 2).trans rfl
theorem three_new (w : World) (a b c : Value) (t : Nat) : Box3 (w.alloc (.cells #[a, b, c] t)) w.heap.size t a b c ∧ Below w.heap.size w (w.alloc (.cells #[a, b, c] t)) := ⟨⟨heap_alloc_new w _⟩, below_alloc (Below.refl _ _) _⟩
/-- A row that is only read. -/
structure Row {α : Type} (d : Kd α) (W : World) (A : Option Addr) (c : Nat) (l : List α) : Prop where
  cap : l.length ≤ c
  at_ : Kd.C d W A l.length l
theorem Row.below {α : Type} {d : Kd α} {W W' : World} {A : Option Addr} {c : Nat} {l : List α} (h : Row d W A c l) (hb : Below W.heap.size W W') : Row d W' A c l := ⟨h.cap, Kd.C_below h.at_ hb⟩
theorem Row.of_R {α : Type} {d : Kd α} {e : Nat} {W : World} {base : Nat} {ok : Nat → Prop} {v : Value} {l : List α} (h : d.R e W base ok v l) : ∃ A c, v = .slice A l.length c ∧ Row d W A c l := by
  obtain ⟨A, c, e, h1, h2⟩ := Kd.R_reads h
  exact ⟨A, c, e, h1, h2⟩
/-- Everything below a mark is as it was. -/
structure Since (W W' : World) : Prop where
  get : Below W.heap.size W W'
theorem Since.refl (W : World) : Since W W := ⟨Below.refl _ _⟩
theorem Since.step {W W' W'' : World} (h : Since W W') (hb : Below W'.heap.size W' W'') : Since W W'' := ⟨below_step h.get hb⟩
end Go.Proofs.Ytmbnibonggbjgaa.X

/- A region that draws its order, walked by an invariant: J tells of the operations that came up and of what they left; each operation is shown once. -/
namespace Go.Proofs.Ytmbnibonggbjgaa.X
open Go.RowKit Go.Proofs.YtmbnibonggbjgaaW.PrintWords Go.Proofs.YtmbnibonggbjgaaW.PrintLast Go.Proofs.YtmbnibonggbjgaaW.PrintMore
set_option linter.unusedVariables false

section
variable {P : Program} {ops : Array Oper} {Q : Exit → Act → World → Prop} {md : Region.Mode}
theorem count_set (l : List Bool) (i : Nat) (h : l.getD i true = false) : (l.set i true).count false + 1 = l.count false := by
  induction l generalizing i with
  | nil => simp at h
  | cons b r ih =>
    cases i with
    | zero =>
      have : b = false := by simpa using h
      subst this
      simp
    | succ i =>
      have := ih i (by simpa using h)
      cases b <;> simp <;> omega
theorem ready_of {T : List (List Nat × List Nat)} {l : List Bool} {i : Nat} (h : i ∈ readyT T l) : readyAt T l i = true ∧ i < T.length := by
  unfold readyT at h
  rw [List.mem_filter, List.mem_range] at h
  exact ⟨h.2, h.1⟩
theorem inv_ (J : List Bool → Act → World → Prop) (T : Bool × List (List Nat × List Nat)) (hT : rtab md ops = T)
    (hstep : ∀ l a w i, J l a w → l.length = ops.size → readyAt T.2 l i = true → i < T.2.length → wpOp P ops Q i (fun a' w' => J (l.set i true) a' w') a w)
    (hend : ∀ l a w, J l a w → l.length = ops.size → readyT T.2 l = [] → Q .normal a w) :
    ∀ (n : Nat) (l : Array Bool) (a : Act) (w : World), J l.toList a w → l.size = ops.size → l.toList.count false ≤ n → wpAnyLast P md ops Q (fun _ => True) [] n l a w := by
  intro n
  induction n with
  | zero =>
    intro l a w hJ hl hn
    have hr : readyT T.2 l.toList = [] := by
      unfold readyT
      rw [List.filter_eq_nil_iff]
      intro i _ h
      unfold readyAt at h
      simp only [Bool.and_eq_true, Bool.not_eq_true'] at h
      have := count_set l.toList i h.1
      omega
    exact ⟨by rw [ready_eq, hT]; exact hr, hend _ _ _ hJ (by simpa using hl) hr⟩
  | succ n ih =>
    intro l a w hJ hl hn
    refine ⟨fun hr => hend _ _ _ hJ (by simpa using hl) (by rw [← hT, ← ready_eq]; exact hr), fun i hi => ?_⟩
    rw [ready_eq, hT] at hi
    obtain ⟨h1, h2⟩ := ready_of hi
    refine wpOp_mono (fun a' w' h => ⟨fun _ _ => trivial, ?_⟩) (hstep _ a w i hJ (by simpa using hl) h1 h2)
    refine ih _ a' w' (by simpa using h) (by simpa using hl) ?_
    unfold readyAt at h1
    simp only [Bool.and_eq_true, Bool.not_eq_true'] at h1
    have := count_set l.toList i h1.1
    simp
    omega
theorem drawn_ {id : Nat} {a : Act} {w : World} (J : List Bool → Act → World → Prop) (T : Bool × List (List Nat × List Nat)) (hT : rtab .any ops = T) (hm : P.follows .mixedOrders = true)
    (h0 : J (List.replicate ops.size false) a w.drew)
    (hstep : ∀ l a w i, J l a w → l.length = ops.size → readyAt T.2 l i = true → i < T.2.length → wpOp P ops Q i (fun a' w' => J (l.set i true) a' w') a w)
    (hend : ∀ l a w, J l a w → l.length = ops.size → readyT T.2 l = [] → Q .normal a w) : (Code.region id ops true).wp P Q a w := by
  refine start_ (S := fun _ => True) (ds := []) (Array.replicate ops.size false) hm rfl rfl trivial (fun _ => ?_)
  exact inv_ J T hT hstep hend _ _ _ _ (by simpa using h0) (by simp) (by simp)
end

theorem cell_in {w : World} {a : Addr} {u : Value} {cs : Array Value} {t : TypeId} (h : w.cell? a = some u) (hb : w.heap[a.block]? = some (.cells cs t (0, 0))) : u ∈ cs.toList := by
  unfold World.cell? at h
  rw [hb] at h
  simp only at h
  split at h
  · cases h
  · obtain ⟨hi, e⟩ := Array.getElem?_eq_some_iff.mp h
    rw [← e]
    exact Array.mem_toList_iff.mpr (Array.getElem_mem hi)
/-- A kind whose cells are whole numbers. -/
def Flat {α : Type} (d : Kd α) : Prop := ∀ w x cs, d.K w x cs → (∀ w', d.K w' x cs) ∧ ∀ u ∈ cs, ∃ n, u = .int .i64 n
theorem flat_int : Flat (Kd.int .i64) := by
  intro w x cs h
  obtain rfl : cs = [.int .i64 x] := h
  exact ⟨fun _ => rfl, fun u hu => ⟨x, List.mem_singleton.mp hu⟩⟩
theorem flat38 : Flat k38 := by
  intro w x cs h
  obtain rfl := k38_open h
  refine ⟨fun w' => k38_mk w' x, fun u hu => ?_⟩
  rcases List.mem_cons.mp hu with rfl | hu
  · exact ⟨_, rfl⟩
  rcases List.mem_cons.mp hu with rfl | hu
  · exact ⟨_, rfl⟩
  exact ⟨_, List.mem_singleton.mp hu⟩
/-- A row of numbers stays where a variable of two rows is written. -/
theorem Row.far {α : Type} {d : Kd α} (hd : Flat d) {W : World} {A : Option Addr} {c : Nat} {l : List α} (h : Row d W A c l) {g t : Nat} {a b : Value} (hb : Box2 W g t a b) (na : ∀ n, a ≠ .int .i64 n) (nb : ∀ n, b ≠ .int .i64 n) (j : Nat) (v : Value) :
    Row d (W.setCell ⟨g, j, none⟩ v) A c l := by
  refine ⟨h.cap, h.at_.1, h.at_.2.1, fun hn => ?_⟩
  obtain ⟨ad, e, hc⟩ := h.at_.2.2 hn
  refine ⟨ad, e, fun i p hp => ?_⟩
  obtain ⟨cs, h1, h2, h3⟩ := hc i p hp
  obtain ⟨f1, f2⟩ := hd _ _ _ h2
  refine ⟨cs, h1, f1 _, fun k u hu => ?_⟩
  have h4 := h3 k u hu
  rw [cell_far ?_]
  · exact h4
  · intro hg
    have hm := cell_in h4 (by rw [show (ad.add (i * d.sz + k)).block = g from hg]; exact hb.get)
    obtain ⟨n, rfl⟩ := f2 u (List.mem_of_getElem? hu)
    simp at hm
    rcases hm with hm | hm
    · exact na n hm.symm
    · exact nb n hm.symm
theorem Box2.far {W : World} {g t : Nat} {a b : Value} (h : Box2 W g t a b) {p : Addr} (hp : g ≠ p.block) (u : Value) : Box2 (W.setCell p u) g t a b := ⟨blk_far h.get hp u⟩
theorem Box2.put0 {W : World} {g t : Nat} {a b : Value} (h : Box2 W g t a b) (u : Value) : Box2 (W.setCell ⟨g, 0, none⟩ u) g t u b := ⟨blk_put h.get 0 u rfl⟩
theorem Box2.put1 {W : World} {g t : Nat} {a b : Value} (h : Box2 W g t a b) (u : Value) : Box2 (W.setCell ⟨g, 1, none⟩ u) g t a u := ⟨blk_put h.get 1 u rfl⟩
theorem Since.put {W W' : World} (h : Since W W') {g j : Nat} (hg : W.heap.size ≤ g) (u : Value) : Since W (W'.setCell ⟨g, j, none⟩ u) := ⟨below_set h.get hg⟩
/-- A value that is a row, only read. -/
structure Vr {α : Type} (d : Kd α) (W : World) (v : Value) (l : List α) : Prop where
  get : ∃ A c, v = .slice A l.length c ∧ Row d W A c l
theorem Vr.below {α : Type} {d : Kd α} {W W' : World} {v : Value} {l : List α} (h : Vr d W v l) (hb : Below W.heap.size W W') : Vr d W' v l := by
  obtain ⟨A, c, e, r⟩ := h.get
  exact ⟨A, c, e, r.below hb⟩
theorem Vr.of_R {α : Type} {d : Kd α} {e : Nat} {W : World} {base : Nat} {ok : Nat → Prop} {v : Value} {l : List α} (h : d.R e W base ok v l) : Vr d W v l := ⟨Row.of_R h⟩
theorem Vr.far {α : Type} {d : Kd α} (hd : Flat d) {W : World} {u : Value} {l : List α} (h : Vr d W u l) {g t : Nat} {a b : Value} (hb : Box2 W g t a b) (na : ∀ n, a ≠ .int .i64 n) (nb : ∀ n, b ≠ .int .i64 n) (j : Nat) (v : Value) : Vr d (W.setCell ⟨g, j, none⟩ v) u l := by
  obtain ⟨A, c, e, r⟩ := h.get
  exact ⟨A, c, e, r.far hd hb na nb j v⟩
theorem Vr.ne {α : Type} {d : Kd α} {W : World} {u : Value} {l : List α} (h : Vr d W u l) : ∀ n, u ≠ .int .i64 n := by
  obtain ⟨A, c, rfl, r⟩ := h.get
  intro n e
  cases e
theorem Row.V {α : Type} {d : Kd α} (hd : Kd.Heap d) {W : World} {A : Option Addr} {c : Nat} {l : List α} (h : Row d W A c l) (e base : Nat) : Kd.V d e W base (fun k => k < W.heap.size) (.slice A l.length c) l := Kd.V_mk h.cap (Kd.C_F hd h.at_)
theorem Vr.far2 {α : Type} {d : Kd α} (hd : Flat d) {W : World} {u : Value} {l : List α} (h : Vr d W u l) {g t : Nat} {a b v : Value} (hb : Box2 W g t a b) (na : ∀ n, a ≠ .int .i64 n) (nb : ∀ n, b ≠ .int .i64 n) (nv : ∀ n, v ≠ .int .i64 n) (v' : Value) :
    Vr d ((W.setCell ⟨g, 0, none⟩ v).setCell ⟨g, 1, none⟩ v') u l := (h.far hd hb na nb 0 v).far hd (hb.put0 v) nv nb 1 v'
theorem Box2.put2 {W : World} {g t : Nat} {a b : Value} (h : Box2 W g t a b) (v v' : Value) : Box2 ((W.setCell ⟨g, 0, none⟩ v).setCell ⟨g, 1, none⟩ v') g t v v' := (h.put0 v).put1 v'
theorem Box2.far2 {W : World} {g t : Nat} {a b : Value} (h : Box2 W g t a b) {g' : Nat} (hp : g ≠ g') (v v' : Value) : Box2 ((W.setCell ⟨g', 0, none⟩ v).setCell ⟨g', 1, none⟩ v') g t a b := (h.far (p := ⟨g', 0, none⟩) hp v).far (p := ⟨g', 1, none⟩) hp v'
theorem Since.put2 {W W' : World} (h : Since W W') {g : Nat} (hg : W.heap.size ≤ g) (v v' : Value) : Since W ((W'.setCell ⟨g, 0, none⟩ v).setCell ⟨g, 1, none⟩ v') := (h.put hg v).put hg v'
theorem size_put2 {W : World} {g g' : Nat} (h : g < W.heap.size) (v v' : Value) : g < ((W.setCell ⟨g', 0, none⟩ v).setCell ⟨g', 1, none⟩ v').heap.size := by simpa [World.setCell] using h
theorem need {T : List (List Nat × List Nat)} {l : List Bool} {i j : Nat} {r : List Nat × List Nat} (h : readyAt T l i = true) (hT : T[i]? = some r) (hj : j ∈ r.1) : l.getD j false = true := by
  unfold readyAt at h
  rw [hT] at h
  simp only [Bool.and_eq_true, Bool.not_eq_true', List.all_eq_true] at h
  exact h.2 j hj
theorem need_not {T : List (List Nat × List Nat)} {l : List Bool} {i : Nat} (h : readyAt T l i = true) : l.getD i true = false := by
  unfold readyAt at h
  simp only [Bool.and_eq_true, Bool.not_eq_true'] at h
  exact h.1
theorem all_done {T : List (List Nat × List Nat)} {l : List Bool} (h : readyT T l = []) (i : Nat) {r : List Nat × List Nat} (hT : T[i]? = some r) (hn : r.1.all (fun j => l.getD j false) = true) : l.getD i true = true := by
  unfold readyT at h
  rw [List.filter_eq_nil_iff] at h
  have h1 := h i (List.mem_range.mpr (by
    obtain ⟨hi, _⟩ := List.getElem?_eq_some_iff.mp hT
    exact hi))
  unfold readyAt at h1
  rw [hT] at h1
  simp only [hn, Bool.and_true, Bool.not_eq_true', Bool.not_eq_false] at h1
  exact h1
theorem nil_ne : ∀ n, (Value.slice none 0 0) ≠ .int .i64 n := fun _ e => by cases e
theorem heap38 : Kd.Heap k38 := Kd.heap_iso _ (Kd.heap_pair (Kd.heap_int _) (Kd.heap_pair (Kd.heap_int _) (Kd.heap_int _)))
theorem tri_new (w : World) (a b : Value) (t : Nat) (a' b' : Value) (t' : Nat) (a'' b'' : Value) (t'' : Nat) :
    Box2 (((w.alloc (.cells #[a, b] t)).alloc (.cells #[a', b'] t')).alloc (.cells #[a'', b''] t'')) w.heap.size t a b ∧
    Box2 (((w.alloc (.cells #[a, b] t)).alloc (.cells #[a', b'] t')).alloc (.cells #[a'', b''] t'')) (w.heap.size + 1) t' a' b' ∧
    Box2 (((w.alloc (.cells #[a, b] t)).alloc (.cells #[a', b'] t')).alloc (.cells #[a'', b''] t'')) (w.heap.size + 2) t'' a'' b'' ∧
    Below w.heap.size w (((w.alloc (.cells #[a, b] t)).alloc (.cells #[a', b'] t')).alloc (.cells #[a'', b''] t'')) := by
  obtain ⟨h1, h2, h3⟩ := two_new w a b t a' b' t'
  have h4 := below_alloc (Below.refl ((w.alloc (.cells #[a, b] t)).alloc (.cells #[a', b'] t')).heap.size ((w.alloc (.cells #[a, b] t)).alloc (.cells #[a', b'] t'))) (.cells #[a'', b''] t'')
  refine ⟨h1.below h4, h2.below h4, ⟨?_⟩, below_step h3 h4⟩
  have h := heap_alloc_new ((w.alloc (.cells #[a, b] t)).alloc (.cells #[a', b'] t')) (.cells #[a'', b''] t'')
  rw [show ((w.alloc (.cells #[a, b] t)).alloc (.cells #[a', b'] t')).heap.size = w.heap.size + 2 from by simp] at h
  exact h
end Go.Proofs.Ytmbnibonggbjgaa.X

namespace Go.Proofs.Ytmbnibonggbjgaa.X
open Go.RowKit Go.Proofs.YtmbnibonggbjgaaW.PrintWords Go.Proofs.YtmbnibonggbjgaaW.PrintLast Go.Proofs.YtmbnibonggbjgaaW.PrintMore
open Go.Proofs.YtmbnibonggbjgaaW.PrintWords renaming blk_drewN → bN, blk_drew → bD, blk_alloc → bA, below_alloc → wA, pw_below_drewN → wN, below_drew1 → wD, blk_below → bB, below_step → wS, blk_at → bT, blk_grown → bG
open Go.Proofs.YtmbnibonggbjgaaW.PrintWords.Kd renaming R_alloc → rA, R_drewN → rN, R_drew → rD, R_below → rB, R_grown → rG, C_below → cB, C_alloc → cA, C_drewN → cN, C_drew → cD
attribute [local go_sem] max2_int min2_int max_two min_two max_three min_three max_four min_four
set_option linter.unusedVariables false
set_option linter.unusedSimpArgs false
/-! ### graph_within: function 44 -/
def graph_within.f (a0 : Int) (a1 : Int) : Option (Bool) := if a0 ≥ 0 then (some (decide (a0 ≤ a1))) else (some false)
set_option maxHeartbeats 8000000 in
set_option maxRecDepth 100000 in
theorem graph_within.calls (a0 : Int) (a1 : Int) (r : Bool) (w : World) (h : graph_within.f a0 a1 = some r) :
  Calls Try.prog 44 #[.int .i64 a0, .int .i64 a1] w fun e w' => e = .returned (.bool r) ∧ Drawn0 w w' := by
 have H : (if a0 ≥ 0 then (some (decide (a0 ≤ a1))) else (some false)) = some r := h
 clear h
 by_cases c3 : a0 ≥ 0
 ·rw [if_pos c3] at H
  have c3b0 : decide (0 ≤ a0) = true := decide_eq_true c3
  clear c3
  obtain rfl := Option.some.inj H
  go_enter Try.func44, Try.ntmps44
  go_wp2
  go_ret
  exact ⟨by first | rfl | (simp; done) | (simp [*]; done), by repeat (first | exact Drawn0.refl _ | apply Drawn0.step)⟩
 ·rw [if_neg c3] at H
  have c3b0 : decide (0 ≤ a0) = false := decide_eq_false c3
  clear c3
  obtain rfl := Option.some.inj H
  go_enter Try.func44, Try.ntmps44
  go_wp2
  go_ret
  exact ⟨by first | rfl | (simp; done) | (simp [*]; done), by repeat (first | exact Drawn0.refl _ | apply Drawn0.step)⟩
end Go.Proofs.Ytmbnibonggbjgaa.X

namespace Go.Proofs.Ytmbnibonggbjgaa.X
open Go.RowKit Go.Proofs.YtmbnibonggbjgaaW.PrintWords Go.Proofs.YtmbnibonggbjgaaW.PrintLast Go.Proofs.YtmbnibonggbjgaaW.PrintMore
open Go.Proofs.YtmbnibonggbjgaaW.PrintWords renaming blk_drewN → bN, blk_drew → bD, blk_alloc → bA, below_alloc → wA, pw_below_drewN → wN, below_drew1 → wD, blk_below → bB, below_step → wS, blk_at → bT, blk_grown → bG
open Go.Proofs.YtmbnibonggbjgaaW.PrintWords.Kd renaming R_alloc → rA, R_drewN → rN, R_drew → rD, R_below → rB, R_grown → rG, C_below → cB, C_alloc → cA, C_drewN → cN, C_drew → cD
attribute [local go_sem] max2_int min2_int max_two min_two max_three min_three max_four min_four
set_option linter.unusedVariables false
set_option linter.unusedSimpArgs false
/-! ### graph_fits: function 52 -/
def graph_fits.f (a0_0 : Int) (a0_1 : Int) (a0_2 : Int) (a1 : Int) : Option (Bool) := (graph_within.f a0_0 99).bind fun t102 => (if t102 = true then ((graph_within.f a0_1 (wrap64 (a1 - 1))).bind fun t103 => (if t103 = true then ((graph_within.f a0_2 (wrap64 (a1 - 1))).bind fun t104 => (some t104)) else (some false))) else (some false))
set_option maxHeartbeats 8000000 in
set_option maxRecDepth 100000 in
theorem graph_fits.calls (a0_0 : Int) (a0_1 : Int) (a0_2 : Int) (a1 : Int) (r : Bool) (w : World) (h : graph_fits.f a0_0 a0_1 a0_2 a1 = some r) :
  Calls Try.prog 52 #[.agg #[.int .i64 a0_0, .int .i64 a0_1, .int .i64 a0_2], .int .i64 a1] w fun e w' => e = .returned (.bool r) ∧ Below w.heap.size w w' := by
 have hu38 := Try.underlying38
 have HB := Aside0.mk (Below.refl w.heap.size w)
 have H : ((graph_within.f a0_0 99).bind fun t102 => (if t102 = true then ((graph_within.f a0_1 (wrap64 (a1 - 1))).bind fun t103 => (if t103 = true then ((graph_within.f a0_2 (wrap64 (a1 - 1))).bind fun t104 => (some t104)) else (some false))) else (some false))) = some r := h
 clear h
 replace H := Option.bind_eq_some_iff.mp H
 obtain ⟨t102, A30, H⟩ := H
 replace H : (if t102 = true then ((graph_within.f a0_1 (wrap64 (a1 - 1))).bind fun t103 => (if t103 = true then ((graph_within.f a0_2 (wrap64 (a1 - 1))).bind fun t104 => (some t104)) else (some false))) else (some false)) = some r := H
 have A3 := Aside0.mk A30
 clear A30
 by_cases c4 : t102 = true
 ·subst c4
  have H1 : ((graph_within.f a0_1 (wrap64 (a1 - 1))).bind fun t103 => (if t103 = true then ((graph_within.f a0_2 (wrap64 (a1 - 1))).bind fun t104 => (some t104)) else (some false))) = some r := by rw [if_pos rfl] at H; exact H
  clear H
  have H := H1
  clear H1
  replace H := Option.bind_eq_some_iff.mp H
  obtain ⟨t103, A50, H⟩ := H
  replace H : (if t103 = true then ((graph_within.f a0_2 (wrap64 (a1 - 1))).bind fun t104 => (some t104)) else (some false)) = some r := H
  have A5 := Aside0.mk A50
  clear A50
  by_cases c6 : t103 = true
  ·subst c6
   have H1 : ((graph_within.f a0_2 (wrap64 (a1 - 1))).bind fun t104 => (some t104)) = some r := by rw [if_pos rfl] at H; exact H
   clear H
   have H := H1
   clear H1
   replace H := Option.bind_eq_some_iff.mp H
   obtain ⟨t104, A70, H⟩ := H
   replace H : (some t104) = some r := H
   have A7 := Aside0.mk A70
   clear A70
   obtain rfl := Option.some.inj H
   go_enter Try.func52, Try.ntmps52
   go_wp2_with (first | ((with_reducible refine gate_dst (N := 2) rfl ?_); refine box_event ?hg (N := 2) ?hd (cs := #[.int .i64 a0_0, .int .i64 a0_1, .int .i64 a0_2]) (t := 38) ?hr ?_; (case hd => rfl); (case hg => rfl); (case hr => first | (go_simp; done) | (go_simp; rfl)); intro Q01 hg w8 hbox hb; have Q00 := Aside0.mk (hbox); have Q03 := Aside0.mk ((by rw [hg]; exact (below_size hB) : w.heap.size ≤ Q01)); have Q02 := Aside0.mk ((by rw [hg]; exact (below_size hB) : w.heap.size ≤ Q01)); replace HB := uH HB hb; clear hb hbox hg; have Q04 : w8.cell? ⟨Q01, 0, none⟩ = some (.int .i64 a0_0) := (blk_cell Q00.out 0).trans rfl; have Q05 : w8.cell? ⟨Q01, 1, none⟩ = some (.int .i64 a0_1) := (blk_cell Q00.out 1).trans rfl; have Q06 : w8.cell? ⟨Q01, 2, none⟩ = some (.int .i64 a0_2) := (blk_cell Q00.out 2).trans rfl; have Q07 := blk_frozen Q00.out 0; have Q08 := blk_frozen Q00.out 1; have Q09 := blk_frozen Q00.out 2) | ((with_reducible refine gate_callee (f := 44) rfl ?_); refine goesL_ (some 7) rfl rfl Try.func44 (by kernel_rfl) rfl #[.int .i64 a0_0, .int .i64 99] rfl aM ?_; (with_reducible refine (graph_within.calls a0_0 99 true _ A3.out).mono ?_); rintro e w' ⟨rfl, ⟨nd, rfl⟩⟩; refine ⟨_, rfl, ?_⟩) | (go_at_call 44; (with_reducible refine (graph_within.calls a0_1 (wrap64 (a1 - 1)) true _ A5.out).mono ?_); rintro e w' ⟨rfl, ⟨nd, rfl⟩⟩) | (go_at_call 44; (with_reducible refine (graph_within.calls a0_2 (wrap64 (a1 - 1)) t104 _ A7.out).mono ?_); rintro e w' ⟨rfl, ⟨nd, rfl⟩⟩))
   go_ret
   exact ⟨by first | rfl | (simp [errW_none, errW_some] <;> rfl) | (simp [*, errW_none, errW_some] <;> rfl), by repeat (first | (with_reducible first | exact HB.out | apply wA | apply wN | apply wD | refine below_set ?_ Q02.out) | exact HB.out)⟩
  ·replace c6 := Bool.eq_false_iff.mpr c6
   subst c6
   have H1 : (some false) = some r := by rw [if_neg (show ¬ (false = true) by decide)] at H; exact H
   clear H
   have H := H1
   clear H1
   obtain rfl := Option.some.inj H
   go_enter Try.func52, Try.ntmps52
   go_wp2_with (first | ((with_reducible refine gate_dst (N := 2) rfl ?_); refine box_event ?hg (N := 2) ?hd (cs := #[.int .i64 a0_0, .int .i64 a0_1, .int .i64 a0_2]) (t := 38) ?hr ?_; (case hd => rfl); (case hg => rfl); (case hr => first | (go_simp; done) | (go_simp; rfl)); intro Q01 hg w10 hbox hb; have Q00 := Aside0.mk (hbox); have Q03 := Aside0.mk ((by rw [hg]; exact (below_size hB) : w.heap.size ≤ Q01)); have Q02 := Aside0.mk ((by rw [hg]; exact (below_size hB) : w.heap.size ≤ Q01)); replace HB := uH HB hb; clear hb hbox hg; have Q0a : w10.cell? ⟨Q01, 0, none⟩ = some (.int .i64 a0_0) := (blk_cell Q00.out 0).trans rfl; have Q0b : w10.cell? ⟨Q01, 1, none⟩ = some (.int .i64 a0_1) := (blk_cell Q00.out 1).trans rfl; have Q0c : w10.cell? ⟨Q01, 2, none⟩ = some (.int .i64 a0_2) := (blk_cell Q00.out 2).trans rfl; have Q0d := blk_frozen Q00.out 0; have Q0e := blk_frozen Q00.out 1; have Q0f := blk_frozen Q00.out 2) | ((with_reducible refine gate_callee (f := 44) rfl ?_); refine goesL_ (some 7) rfl rfl Try.func44 (by kernel_rfl) rfl #[.int .i64 a0_0, .int .i64 99] rfl aM ?_; (with_reducible refine (graph_within.calls a0_0 99 true _ A3.out).mono ?_); rintro e w' ⟨rfl, ⟨nd, rfl⟩⟩; refine ⟨_, rfl, ?_⟩) | (go_at_call 44; (with_reducible refine (graph_within.calls a0_1 (wrap64 (a1 - 1)) false _ A5.out).mono ?_); rintro e w' ⟨rfl, ⟨nd, rfl⟩⟩))
   go_ret
   exact ⟨by first | rfl | (simp [errW_none, errW_some] <;> rfl) | (simp [*, errW_none, errW_some] <;> rfl), by repeat (first | (with_reducible first | exact HB.out | apply wA | apply wN | apply wD | refine below_set ?_ Q02.out) | exact HB.out)⟩
 ·replace c4 := Bool.eq_false_iff.mpr c4
  subst c4
  have H1 : (some false) = some r := by rw [if_neg (show ¬ (false = true) by decide)] at H; exact H
  clear H
  have H := H1
  clear H1
  obtain rfl := Option.some.inj H
  go_enter Try.func52, Try.ntmps52
  go_wp2_with (first | ((with_reducible refine gate_dst (N := 2) rfl ?_); refine box_event ?hg (N := 2) ?hd (cs := #[.int .i64 a0_0, .int .i64 a0_1, .int .i64 a0_2]) (t := 38) ?hr ?_; (case hd => rfl); (case hg => rfl); (case hr => first | (go_simp; done) | (go_simp; rfl)); intro Q01 hg w12 hbox hb; have Q00 := Aside0.mk (hbox); have Q03 := Aside0.mk ((by rw [hg]; exact (below_size hB) : w.heap.size ≤ Q01)); have Q02 := Aside0.mk ((by rw [hg]; exact (below_size hB) : w.heap.size ≤ Q01)); replace HB := uH HB hb; clear hb hbox hg; have Q0g : w12.cell? ⟨Q01, 0, none⟩ = some (.int .i64 a0_0) := (blk_cell Q00.out 0).trans rfl; have Q0h : w12.cell? ⟨Q01, 1, none⟩ = some (.int .i64 a0_1) := (blk_cell Q00.out 1).trans rfl; have Q0i : w12.cell? ⟨Q01, 2, none⟩ = some (.int .i64 a0_2) := (blk_cell Q00.out 2).trans rfl; have Q0j := blk_frozen Q00.out 0; have Q0k := blk_frozen Q00.out 1; have Q0l := blk_frozen Q00.out 2) | ((with_reducible refine gate_callee (f := 44) rfl ?_); refine goesL_ (some 7) rfl rfl Try.func44 (by kernel_rfl) rfl #[.int .i64 a0_0, .int .i64 99] rfl aM ?_; (with_reducible refine (graph_within.calls a0_0 99 false _ A3.out).mono ?_); rintro e w' ⟨rfl, ⟨nd, rfl⟩⟩; refine ⟨_, rfl, ?_⟩))
  go_ret
  exact ⟨by first | rfl | (simp [errW_none, errW_some] <;> rfl) | (simp [*, errW_none, errW_some] <;> rfl), by repeat (first | (with_reducible first | exact HB.out | apply wA | apply wN | apply wD | refine below_set ?_ Q02.out) | exact HB.out)⟩
end Go.Proofs.Ytmbnibonggbjgaa.X

namespace Go.Proofs.Ytmbnibonggbjgaa.X
open Go.RowKit Go.Proofs.YtmbnibonggbjgaaW.PrintWords Go.Proofs.YtmbnibonggbjgaaW.PrintLast Go.Proofs.YtmbnibonggbjgaaW.PrintMore
open Go.Proofs.YtmbnibonggbjgaaW.PrintWords renaming blk_drewN → bN, blk_drew → bD, blk_alloc → bA, below_alloc → wA, pw_below_drewN → wN, below_drew1 → wD, blk_below → bB, below_step → wS, blk_at → bT, blk_grown → bG
open Go.Proofs.YtmbnibonggbjgaaW.PrintWords.Kd renaming R_alloc → rA, R_drewN → rN, R_drew → rD, R_below → rB, R_grown → rG, C_below → cB, C_alloc → cA, C_drewN → cN, C_drew → cD
attribute [local go_sem] max2_int min2_int max_two min_two max_three min_three max_four min_four
set_option linter.unusedVariables false
set_option linter.unusedSimpArgs false
/-! ### graph_Valid: function 26 -/
def kindB (t : Int) : Bool := decide (0 ≤ t) && decide (t ≤ 99)
def edgeB (n : Int) (e : S38) : Bool := kindB e.f0 && ((decide (0 ≤ e.f1) && decide (e.f1 < n)) && (decide (0 ≤ e.f2) && decide (e.f2 < n)))
theorem within_kind (t : Int) : graph_within.f t 99 = some (kindB t) := by
 unfold graph_within.f kindB
 by_cases h : t ≥ 0
 ·rw [if_pos h]; simp [h]
 ·rw [if_neg h]; simp [h]
theorem within_lt (t n : Int) (h0 : 0 ≤ n) (hn : n ≤ 9223372036854775807) : graph_within.f t (wrap64 (n - 1)) = some (decide (0 ≤ t) && decide (t < n)) := by
 have e : wrap64 (n - 1) = n - 1 := by unfold wrap64; omega
 unfold graph_within.f
 rw [e]
 by_cases h : t ≥ 0
 ·rw [if_pos h]; simp [h, Int.le_sub_one_iff]
 ·rw [if_neg h]; simp [h]
theorem fits_edge (e : S38) (n : Int) (h0 : 0 ≤ n) (hn : n ≤ 9223372036854775807) : graph_fits.f e.f0 e.f1 e.f2 n = some (edgeB n e) := by
 unfold graph_fits.f edgeB
 rw [within_kind, within_lt _ _ h0 hn, within_lt _ _ h0 hn]
 simp only [Option.bind_some]
 cases kindB e.f0 <;> cases (decide (0 ≤ e.f1) && decide (e.f1 < n)) <;> simp
theorem wrap_succ {i : Int} {n : Nat} (h0 : 0 ≤ i) (h : i < (n : Int)) (hn : n ≤ 9223372036854775807) : wrap64 (i + 1) = i + 1 := by
 unfold wrap64
 omega
theorem getD_at {α : Type} (l : List α) (z : α) (j : Nat) (hj : j < l.length) : l.getD j z = l[j] := by
 rw [List.getD_eq_getElem?_getD, List.getElem?_eq_getElem hj]; rfl
theorem any_miss {α : Type} (p : α → Bool) (z : α) (l : List α) (i : Int) (hi : (l.length : Int) ≤ i) (h : ∀ j : Nat, (j : Int) < i → p (l.getD j z) = false) : l.any p = false := by
 rw [List.any_eq_false]
 intro x hx
 obtain ⟨j, hj, rfl⟩ := List.mem_iff_getElem.mp hx
 have := h j (by omega)
 rw [getD_at _ _ _ hj] at this
 simp [this]
theorem any_hit {α : Type} (p : α → Bool) (z : α) (l : List α) (i : Int) (h0 : 0 ≤ i) (hi : i < (l.length : Int)) (h : p (l.getD i.toNat z) = true) : l.any p = true := by
 rw [List.any_eq_true]
 have hj : i.toNat < l.length := by omega
 rw [getD_at _ _ _ hj] at h
 exact ⟨_, List.getElem_mem hj, h⟩
theorem miss_step {α : Type} (p : α → Bool) (z : α) (l : List α) (i : Int) (h0 : 0 ≤ i) (h : ∀ j : Nat, (j : Int) < i → p (l.getD j z) = false) (hn : p (l.getD i.toNat z) = false) : ∀ j : Nat, (j : Int) < i + 1 → p (l.getD j z) = false := by
 intro j hj
 by_cases e : (j : Int) < i
 ·exact h j e
 ·obtain rfl : j = i.toNat := by omega
  exact hn
set_option maxHeartbeats 1000000 in
theorem Valid1_calls (t : Int) (w : World) : Calls Try.prog 49 #[.int .i64 t] w fun e w' => e = .returned (.bool (!kindB t)) ∧ Drawn0 w w' := by
 go_enter Try.func49, Try.ntmps49
 go_wp2_with (go_at_call 44; refine (graph_within.calls t 99 (kindB t) _ (within_kind t)).mono ?_; rintro e w' ⟨rfl, ⟨nd, rfl⟩⟩)
 go_ret
 exact ⟨by first | rfl | (simp; done), by repeat (first | exact Drawn0.refl _ | apply Drawn0.step)⟩
set_option maxHeartbeats 2000000 in
/-- slices.IndexFunc at ints, with any function that only draws. -/
theorem IndexFunc60_calls (p : Int → Bool) (g : Nat) (lb : Array Value) (eg : ∀ args w, (callFunc g args).run Try.prog w = .ok (.enter g args) w) (A0 : Option Addr) (c0 : Nat) (l0 : List Int) (w : World)
  (hp : ∀ W, Drawn0 w W → ∀ x, Calls Try.prog g (#[.int .i64 x] ++ lb) W fun e w' => e = .returned (.bool (p x)) ∧ Drawn0 W w')
  (hr0 : Kd.C (Kd.int .i64) w A0 l0.length l0) (hbig : l0.length ≤ 9223372036854775807) :
  Calls Try.prog 60 #[.slice A0 l0.length c0, .func (.func g) #[] lb] w fun e w' => ∃ r : Int, e = .returned (.int .i64 r) ∧ Aside0 (decide (r ≥ 0) = l0.any p) ∧ Drawn0 w w' := by
 have HR := Aside0.mk hr0
 have HP := Aside0.mk hp
 have HB := Aside0.mk hbig
 clear hr0 hp hbig
 go_enter Try.func60, Try.ntmps60
 go_wp2
 go_loopg [5, 8] l0.length (fun gg _ s8 wr => ∃ i : Int, s8 = .int .i64 i ∧ Aside0 (0 ≤ i ∧ i ≤ (l0.length : Int) ∧ (l0.length : Int) - i ≤ gg ∧ ∀ j : Nat, (j : Int) < i → p (l0.getD j 0) = false) ∧ Drawn0 w wr)
 case atStart => exact ⟨0, rfl, ⟨by omega, by omega, by omega, fun j hj => by omega⟩, by repeat (first | exact Drawn0.refl _ | apply Drawn0.step)⟩
 case round =>
  obtain ⟨i, rfl, A, ⟨m1, rfl⟩⟩ := hrel
  by_cases hlt : i < (l0.length : Int)
  ·have c3b0 : decide (i < (l0.length : Int)) = true := decide_eq_true hlt
   have p105 : 0 ≤ i := A.out.1
   obtain ⟨ad105, e105, hx105_0⟩ := Kd.at_int HR.out i p105 hlt
   cases e105
   have HC := Aside0.mk (HP.out (w.drewN m1) ⟨⟨m1, rfl⟩⟩ (rd l0 i))
   have q105 := eq_true hlt
   clear hlt
   replace p105 := eq_true p105
   cases hq : p (rd l0 i) with
   | true =>
    rw [hq] at HC
    have HQ := Aside0.mk hq
    clear hq
    go_wp2_with (go_at_fn g; refine (HC.out).mono ?_; rintro e w' ⟨rfl, ⟨nd, rfl⟩⟩)
    go_ret
    refine ⟨i, rfl, ⟨?_⟩, by repeat (first | exact Drawn0.refl _ | apply Drawn0.step)⟩
    rw [any_hit p 0 l0 i (of_eq_true p105) (of_eq_true q105) HQ.out]
    simp [p105]
   | false =>
    rw [hq] at HC
    have HQ := Aside0.mk hq
    clear hq
    go_wp2_with (go_at_fn g; refine (HC.out).mono ?_; rintro e w' ⟨rfl, ⟨nd, rfl⟩⟩)
    go_roundg (l0.length - (i + 1).toNat)
    case measure => have := A.out; have := of_eq_true q105; omega
    case rel =>
     have q := of_eq_true q105
     have z := of_eq_true p105
     refine ⟨i + 1, ?_, ⟨by omega, by omega, by omega, miss_step p 0 l0 i z A.out.2.2.2 HQ.out⟩, by repeat (first | exact Drawn0.refl _ | apply Drawn0.step)⟩
     rw [wrap_succ z q HB.out]
  ·have c3b0 : decide (i < (l0.length : Int)) = false := decide_eq_false hlt
   have HL := Aside0.mk hlt
   clear hlt
   go_wp2
   go_ret
   refine ⟨-1, rfl, ⟨?_⟩, by repeat (first | exact Drawn0.refl _ | apply Drawn0.step)⟩
   rw [any_miss p 0 l0 i (by have := HL.out; omega) A.out.2.2.2]
   decide
set_option maxHeartbeats 2000000 in
theorem ContainsFunc48_calls (p : Int → Bool) (g : Nat) (lb : Array Value) (eg : ∀ args w, (callFunc g args).run Try.prog w = .ok (.enter g args) w) (A0 : Option Addr) (c0 : Nat) (l0 : List Int) (w : World)
  (hp : ∀ W, Drawn0 w W → ∀ x, Calls Try.prog g (#[.int .i64 x] ++ lb) W fun e w' => e = .returned (.bool (p x)) ∧ Drawn0 W w')
  (hr0 : Kd.C (Kd.int .i64) w A0 l0.length l0) (hbig : l0.length ≤ 9223372036854775807) :
  Calls Try.prog 48 #[.slice A0 l0.length c0, .func (.func g) #[] lb] w fun e w' => e = .returned (.bool (l0.any p)) ∧ Drawn0 w w' := by
 have HK := Aside0.mk (IndexFunc60_calls p g lb eg A0 c0 l0 w hp hr0 hbig)
 clear hp hr0 hbig eg
 go_enter Try.func48, Try.ntmps48
 go_wp2_with (go_at_call 60; refine (HK.out).mono ?_; rintro e w' ⟨r, rfl, HQ, ⟨nd, rfl⟩⟩)
 go_ret
 exact ⟨by first | (rw [← HQ.out]; rfl) | (rw [← HQ.out]; simp; done), by repeat (first | exact Drawn0.refl _ | apply Drawn0.step)⟩
set_option maxHeartbeats 2000000 in
/-- slices.IndexFunc at edges, with any function that lays blocks of its own at the most. -/
theorem IndexFunc61_calls (p : S38 → Bool) (g : Nat) (lb : Array Value) (eg : ∀ args w, (callFunc g args).run Try.prog w = .ok (.enter g args) w) (A0 : Option Addr) (c0 : Nat) (l0 : List S38) (w : World)
  (hp : ∀ W, Below w.heap.size w W → ∀ x : S38, Calls Try.prog g (#[.agg #[.int .i64 x.f0, .int .i64 x.f1, .int .i64 x.f2]] ++ lb) W fun e w' => e = .returned (.bool (p x)) ∧ Below W.heap.size W w')
  (hr0 : Kd.C k38 w A0 l0.length l0) (hbig : l0.length ≤ 9223372036854775807) :
  Calls Try.prog 61 #[.slice A0 l0.length c0, .func (.func g) #[] lb] w fun e w' => ∃ r : Int, e = .returned (.int .i64 r) ∧ Aside0 (decide (r ≥ 0) = l0.any p) ∧ Below w.heap.size w w' := by
 have hu38 := Try.underlying38
 have HR := Aside0.mk hr0
 have HP := Aside0.mk hp
 have HB := Aside0.mk hbig
 clear hr0 hp hbig
 go_enter Try.func61, Try.ntmps61
 go_wp2
 go_loopg [5, 8] l0.length (fun gg _ s8 wr => ∃ i : Int, s8 = .int .i64 i ∧ Aside0 (0 ≤ i ∧ i ≤ (l0.length : Int) ∧ (l0.length : Int) - i ≤ gg ∧ ∀ j : Nat, (j : Int) < i → p (l0.getD j z38) = false) ∧ Aside0 (Below w.heap.size w wr))
 case atStart => exact ⟨0, rfl, ⟨by omega, by omega, by omega, fun j hj => by omega⟩, ⟨Below.refl _ _⟩⟩
 case round =>
  obtain ⟨i, rfl, A, BW⟩ := hrel
  by_cases hlt : i < (l0.length : Int)
  ·have c3b0 : decide (i < (l0.length : Int)) = true := decide_eq_true hlt
   have p105 : 0 ≤ i := A.out.1
   obtain ⟨ad105, e105, hx105_0, hx105_1, hx105_2⟩ := at_T38 (cB HR.out BW.out) i p105 hlt
   cases e105
   have HC := Aside0.mk (HP.out wr BW.out (rd_T38 l0 i))
   have q105 := eq_true hlt
   clear hlt
   replace p105 := eq_true p105
   cases hq : p (rd_T38 l0 i) with
   | true =>
    rw [hq] at HC
    have HQ := Aside0.mk hq
    clear hq
    go_wp2_with (go_at_fn g; refine (HC.out).mono ?_; rintro e w' ⟨rfl, hb'⟩)
    go_ret
    refine ⟨i, rfl, ⟨?_⟩, wS BW.out hb'⟩
    rw [any_hit p z38 l0 i (of_eq_true p105) (of_eq_true q105) HQ.out]
    simp [p105]
   | false =>
    rw [hq] at HC
    have HQ := Aside0.mk hq
    clear hq
    go_wp2_with (go_at_fn g; refine (HC.out).mono ?_; rintro e w' ⟨rfl, hb'⟩)
    go_roundg (l0.length - (i + 1).toNat)
    case measure => have := A.out; have := of_eq_true q105; omega
    case rel =>
     have q := of_eq_true q105
     have z := of_eq_true p105
     refine ⟨i + 1, ?_, ⟨by omega, by omega, by omega, miss_step p z38 l0 i z A.out.2.2.2 HQ.out⟩, ⟨wS BW.out hb'⟩⟩
     rw [wrap_succ z q HB.out]
  ·have c3b0 : decide (i < (l0.length : Int)) = false := decide_eq_false hlt
   have HL := Aside0.mk hlt
   clear hlt
   go_wp2
   go_ret
   refine ⟨-1, rfl, ⟨?_⟩, BW.out⟩
   rw [any_miss p z38 l0 i (by have := HL.out; omega) A.out.2.2.2]
   decide
set_option maxHeartbeats 2000000 in
theorem ContainsFunc50_calls (p : S38 → Bool) (g : Nat) (lb : Array Value) (eg : ∀ args w, (callFunc g args).run Try.prog w = .ok (.enter g args) w) (A0 : Option Addr) (c0 : Nat) (l0 : List S38) (w : World)
  (hp : ∀ W, Below w.heap.size w W → ∀ x : S38, Calls Try.prog g (#[.agg #[.int .i64 x.f0, .int .i64 x.f1, .int .i64 x.f2]] ++ lb) W fun e w' => e = .returned (.bool (p x)) ∧ Below W.heap.size W w')
  (hr0 : Kd.C k38 w A0 l0.length l0) (hbig : l0.length ≤ 9223372036854775807) :
  Calls Try.prog 50 #[.slice A0 l0.length c0, .func (.func g) #[] lb] w fun e w' => e = .returned (.bool (l0.any p)) ∧ Below w.heap.size w w' := by
 have HK := Aside0.mk (IndexFunc61_calls p g lb eg A0 c0 l0 w hp hr0 hbig)
 clear hp hr0 hbig eg
 go_enter Try.func50, Try.ntmps50
 go_wp2_with (go_at_call 61; refine (HK.out).mono ?_; rintro e w' ⟨r, rfl, HQ, hb'⟩)
 go_ret
 exact ⟨by first | (rw [← HQ.out]; rfl) | (rw [← HQ.out]; simp; done), hb'⟩
set_option maxHeartbeats 1000000 in
theorem Valid2_calls (A0 : Option Addr) (n c0 : Nat) (v1 : Value) (B : Nat) (e : S38) (w : World) (hn : (n : Int) ≤ 9223372036854775807) (hB : B < w.heap.size) (hc : w.cell? ⟨B, 0, none⟩ = some (.slice A0 n c0)) :
  Calls Try.prog 51 #[.agg #[.int .i64 e.f0, .int .i64 e.f1, .int .i64 e.f2], .pointer (some ⟨B, 0, none⟩)] w fun r w' => r = .returned (.bool (!edgeB n e)) ∧ Below w.heap.size w w' := by
 have hu38 := Try.underlying38
 have hu25 := Try.underlying25
 have HF := Aside0.mk (fits_edge e n (by omega) hn)
 clear hn
 go_enter Try.func51, Try.ntmps51
 go_wp2_with (go_at_call 52; refine (graph_fits.calls e.f0 e.f1 e.f2 n (edgeB n e) _ HF.out).mono ?_; rintro r w' ⟨rfl, hb'⟩)
 go_ret
 exact ⟨rfl, wS (wA (Below.refl _ _) _) hb'⟩
def validE (l0 : List Int) (l1 : List S38) : Int := if l0.length > 40 then 3 else if l1.length > 80 then 3 else if l0.any (fun t => !kindB t) = true then 6 else if l1.any (fun e => !edgeB l0.length e) = true then 6 else 0
def graph_Valid.f (l0 : List Int) (l1 : List S38) : Option Int := some (validE l0 l1)
set_option maxHeartbeats 8000000 in
theorem graph_Valid.calls (A0_0 : Option Addr) (c0_0 : Nat) (l0_0 : List Int) (A0_1 : Option Addr) (c0_1 : Nat) (l0_1 : List S38) (r : Int) (w : World) (hr0_0 : Kd.C (Kd.int .i64) w A0_0 l0_0.length l0_0) (hc0_0 : l0_0.length ≤ c0_0) (hr0_1 : Kd.C k38 w A0_1 l0_1.length l0_1) (hc0_1 : l0_1.length ≤ c0_1) (h : graph_Valid.f l0_0 l0_1 = some r) :
  Calls Try.prog 26 #[.agg #[.slice A0_0 l0_0.length c0_0, .slice A0_1 l0_1.length c0_1]] w fun e w' => e = .returned (.int .i64 r) ∧ Below w.heap.size w w' := by
 have hu25 := Try.underlying25
 have HR0 := Aside0.mk hr0_0
 have HR1 := Aside0.mk hr0_1
 have H := Aside0.mk (Option.some.inj h)
 clear h hr0_0 hr0_1 hc0_0 hc0_1
 have e49 : ∀ args w, (callFunc 49 args).run Try.prog w = .ok (.enter 49 args) w := enters_of Try.func49 (by kernel_rfl) rfl
 have e51 : ∀ args w, (callFunc 51 args).run Try.prog w = .ok (.enter 51 args) w := enters_of Try.func51 (by kernel_rfl) rfl
 have E49 := Aside0.mk e49
 have E51 := Aside0.mk e51
 clear e49 e51
 by_cases c1 : l0_0.length > 40
 ·have b1 : decide (40 < (l0_0.length : Int)) = true := decide_eq_true (by omega)
  have b2 : decide (40 < l0_0.length) = true := decide_eq_true (by omega)
  have hr : r = 3 := by rw [← H.out]; unfold validE; rw [if_pos c1]
  subst hr
  clear c1 H
  go_enter Try.func26, Try.ntmps26
  go_wp2
  go_ret
  exact ⟨rfl, wA (Below.refl _ _) _⟩
 ·have b1 : decide (40 < (l0_0.length : Int)) = false := decide_eq_false (by omega)
  have b2 : decide (40 < l0_0.length) = false := decide_eq_false (by omega)
  by_cases c2 : l0_1.length > 80
  ·have b3 : decide (80 < (l0_1.length : Int)) = true := decide_eq_true (by omega)
   have b4 : decide (80 < l0_1.length) = true := decide_eq_true (by omega)
   have hr : r = 3 := by rw [← H.out]; unfold validE; rw [if_neg c1, if_pos c2]
   subst hr
   clear c1 c2 H
   go_enter Try.func26, Try.ntmps26
   go_wp2
   repeat (go_quiet (fail); try go_wp2)
   go_ret
   exact ⟨rfl, wA (Below.refl _ _) _⟩
  ·have b3 : decide (80 < (l0_1.length : Int)) = false := decide_eq_false (by omega)
   have b4 : decide (80 < l0_1.length) = false := decide_eq_false (by omega)
   have C1 := Aside0.mk c1
   have C2 := Aside0.mk c2
   clear c1 c2
   have K48 := fun W (hW : Below w.heap.size w W) => ContainsFunc48_calls (fun t => !kindB t) 49 #[] E49.out A0_0 c0_0 l0_0 W (fun W hW x => Valid1_calls x W) (cB HR0.out hW) (by have := C1.out; omega)
   have K50 := fun W (hW : Below w.heap.size w W) B (hB : B < W.heap.size) (hc : W.cell? ⟨B, 0, none⟩ = some (.slice A0_0 l0_0.length c0_0)) => ContainsFunc50_calls (fun e => !edgeB l0_0.length e) 51 #[.pointer (some ⟨B, 0, none⟩)] E51.out A0_1 c0_1 l0_1 W (fun W2 hW2 x => Valid2_calls A0_0 l0_0.length c0_0 (.slice A0_1 l0_1.length c0_1) B x W2 (by have := C1.out; omega) (Nat.lt_of_lt_of_le hB hW2.size) ((hW2.cell (p := ⟨B, 0, none⟩) hB).trans hc)) (cB HR1.out hW) (by have := C2.out; omega)
   have K48' := Aside0.mk K48
   have K50' := Aside0.mk K50
   clear K48 K50
   cases c3 : l0_0.any (fun t => !kindB t) with
   | true =>
    have hr : r = 6 := by rw [← H.out]; unfold validE; rw [if_neg C1.out, if_neg C2.out, if_pos c3]
    subst hr
    have C3 := Aside0.mk c3
    clear c3 H
    go_enter Try.func26, Try.ntmps26
    go_wp2_with (go_at_call 48; refine (K48'.out _ (wA (Below.refl _ _) _)).mono ?_; rw [C3.out]; rintro e w' ⟨rfl, ⟨nd, rfl⟩⟩)
    go_ret
    exact ⟨rfl, by repeat (first | exact wA (Below.refl _ _) _ | apply wN)⟩
   | false =>
    have C3 := Aside0.mk c3
    clear c3
    cases c4 : l0_1.any (fun e => !edgeB l0_0.length e) with
    | true =>
     have hr : r = 6 := by rw [← H.out]; unfold validE; rw [if_neg C1.out, if_neg C2.out, if_neg (by rw [C3.out]; decide), if_pos c4]
     subst hr
     have C4 := Aside0.mk c4
     clear c4 H
     go_enter Try.func26, Try.ntmps26
     go_wp2_with (first | (go_at_call 48; refine (K48'.out _ (wA (Below.refl _ _) _)).mono ?_; rw [C3.out]; rintro e w' ⟨rfl, ⟨nd, rfl⟩⟩) | (go_at_call 50; refine Calls.mono (K50'.out _ (by repeat (first | exact wA (Below.refl _ _) _ | apply wN)) _ (by simp) (by go_simp)) ?_; rw [C4.out]; rintro e w' ⟨rfl, hb'⟩))
     go_ret
     exact ⟨rfl, wS (by repeat (first | exact wA (Below.refl _ _) _ | apply wN)) hb'⟩
    | false =>
     have hr : r = 0 := by rw [← H.out]; unfold validE; rw [if_neg C1.out, if_neg C2.out, if_neg (by rw [C3.out]; decide), if_neg (by rw [c4]; decide)]
     subst hr
     have C4 := Aside0.mk c4
     clear c4 H
     go_enter Try.func26, Try.ntmps26
     go_wp2_with (first | (go_at_call 48; refine (K48'.out _ (wA (Below.refl _ _) _)).mono ?_; rw [C3.out]; rintro e w' ⟨rfl, ⟨nd, rfl⟩⟩) | (go_at_call 50; refine Calls.mono (K50'.out _ (by repeat (first | exact wA (Below.refl _ _) _ | apply wN)) _ (by simp) (by go_simp)) ?_; rw [C4.out]; rintro e w' ⟨rfl, hb'⟩))
     go_ret
     exact ⟨rfl, wS (by repeat (first | exact wA (Below.refl _ _) _ | apply wN)) hb'⟩
end Go.Proofs.Ytmbnibonggbjgaa.X

namespace Go.Proofs.Ytmbnibonggbjgaa.X
open Go.RowKit Go.Proofs.YtmbnibonggbjgaaW.PrintWords Go.Proofs.YtmbnibonggbjgaaW.PrintLast Go.Proofs.YtmbnibonggbjgaaW.PrintMore
open Go.Proofs.YtmbnibonggbjgaaW.PrintWords renaming blk_drewN → bN, blk_drew → bD, blk_alloc → bA, below_alloc → wA, pw_below_drewN → wN, below_drew1 → wD, blk_below → bB, below_step → wS, blk_at → bT, blk_grown → bG
open Go.Proofs.YtmbnibonggbjgaaW.PrintWords.Kd renaming R_alloc → rA, R_drewN → rN, R_drew → rD, R_below → rB, R_grown → rG, C_below → cB, C_alloc → cA, C_drewN → cN, C_drew → cD
attribute [local go_sem] max2_int min2_int max_two min_two max_three min_three max_four min_four
set_option linter.unusedVariables false
set_option linter.unusedSimpArgs false
/-! ### graph_ascending: function 39 -/
mutual
def graph_ascending.l0 : Nat → List Int → Int → List Int → Int → Int → Option (Int)
 | 0, _, _, _, _, _ => none
 | k + 1, x0, x1, x7, x8, x9 => if x9 < x8 then (if 0 ≤ x9 then (if x9 < (x7.length : Int) then ((graph_within.f (rd x7 x9) (wrap64 (x1 - 1))).bind fun t102 => (if t102 = true then (if x9 > 0 then (if 0 ≤ (wrap64 (x9 - 1)) then (if (wrap64 (x9 - 1)) < (x0.length : Int) then (graph_ascending.j1 k x0 x1 x7 x8 x9 (decide ((rd x7 x9) ≤ (rd x0 (wrap64 (x9 - 1)))))) else (none)) else (none)) else (graph_ascending.j1 k x0 x1 x7 x8 x9 false)) else (some 6))) else (none)) else (none)) else (some 0)
def graph_ascending.j1 : Nat → List Int → Int → List Int → Int → Int → Bool → Option (Int)
 | 0, _, _, _, _, _, _ => none
 | k + 1, x0, x1, x7, x8, x9, x29 => if x29 = true then (some 12) else (graph_ascending.l0 k x0 x1 x7 x8 (wrap64 (x9 + 1)))
end
def graph_ascending.f (k : Nat) (l0 : List Int) (a1 : Int) : Option (Int) := graph_ascending.l0 k l0 a1 l0 (l0.length : Int) 0
theorem graph_ascending.mono_l : ∀ k, (∀ y0 y1 y2 y3 y4, LeO (graph_ascending.l0 k y0 y1 y2 y3 y4) (graph_ascending.l0 (k + 1) y0 y1 y2 y3 y4)) ∧ (∀ y0 y1 y2 y3 y4 y5, LeO (graph_ascending.j1 k y0 y1 y2 y3 y4 y5) (graph_ascending.j1 (k + 1) y0 y1 y2 y3 y4 y5))
 | 0 => ⟨fun _ _ _ _ _ r h => by simp [graph_ascending.l0] at h, fun _ _ _ _ _ _ r h => by simp [graph_ascending.j1] at h⟩
 | k + 1 => by
  obtain ⟨ih0, ih1⟩ := graph_ascending.mono_l k
  refine ⟨?_, ?_⟩
  ·intro y0 y1 y2 y3 y4
   unfold graph_ascending.l0
   repeat' first
   | (with_reducible exact ih0 _ _ _ _ _)
   | (with_reducible exact ih1 _ _ _ _ _ _)
   | (with_reducible exact LeO.refl _)
   | (with_reducible exact LeO.none _)
   | (with_reducible refine LeO.ite ?_ ?_)
   | (with_reducible refine LeO.bind ?_ (fun _ => ?_))
   | exact ih0 _ _ _ _ _
   | exact ih1 _ _ _ _ _ _
   | exact LeO.none _
   | refine LeO.ite ?_ ?_
   | refine LeO.bind ?_ (fun _ => ?_)
  ·intro y0 y1 y2 y3 y4 y5
   unfold graph_ascending.j1
   repeat' first
   | (with_reducible exact ih0 _ _ _ _ _)
   | (with_reducible exact ih1 _ _ _ _ _ _)
   | (with_reducible exact LeO.refl _)
   | (with_reducible exact LeO.none _)
   | (with_reducible refine LeO.ite ?_ ?_)
   | (with_reducible refine LeO.bind ?_ (fun _ => ?_))
   | exact ih0 _ _ _ _ _
   | exact ih1 _ _ _ _ _ _
   | exact LeO.none _
   | refine LeO.ite ?_ ?_
   | refine LeO.bind ?_ (fun _ => ?_)
theorem graph_ascending.mono : ∀ a0 a1 k, LeO (graph_ascending.f k a0 a1) (graph_ascending.f (k + 1) a0 a1) := by
 intro a0 a1 k
 obtain ⟨ih0, ih1⟩ := graph_ascending.mono_l k
 unfold graph_ascending.f
 repeat' first
   | (with_reducible exact ih0 _ _ _ _ _)
   | (with_reducible exact ih1 _ _ _ _ _ _)
   | (with_reducible exact LeO.refl _)
   | (with_reducible exact LeO.none _)
   | (with_reducible refine LeO.ite ?_ ?_)
   | (with_reducible refine LeO.bind ?_ (fun _ => ?_))
   | exact ih0 _ _ _ _ _
   | exact ih1 _ _ _ _ _ _
   | exact LeO.none _
   | refine LeO.ite ?_ ?_
   | refine LeO.bind ?_ (fun _ => ?_)
set_option maxHeartbeats 8000000 in
set_option maxRecDepth 100000 in
theorem graph_ascending.calls (k : Nat) (A0 : Option Addr) (c0 : Nat) (l0 : List Int) (a1 : Int) (r : Int) (w : World) (hr0 : Kd.C (Kd.int .i64) w A0 l0.length l0) (hc0 : l0.length ≤ c0) (h : graph_ascending.f k l0 a1 = some r) :
  Calls Try.prog 39 #[.slice A0 l0.length c0, .int .i64 a1] w fun e w' => e = .returned (.int .i64 r) ∧ Drawn0 w w' := by
 have HR0 := Aside0.mk hr0
 have HC0 := Aside0.mk hc0
 clear hr0 hc0
 have H : (graph_ascending.l0 k l0 a1 l0 (l0.length : Int) 0) = some r := h
 clear h
 have H' := Aside0.mk H
 clear H
 go_enter Try.func39, Try.ntmps39
 go_wp2
 go_loopg [9] k (fun kq v9 w' => ∃ (x9_1 : Int), v9 = .int .i64 x9_1 ∧ Aside0 (graph_ascending.l0 kq l0 a1 l0 (l0.length : Int) x9_1 = some r) ∧ Aside0 (kq ≤ k) ∧ Drawn0 w w')
 case atStart => exact ⟨(0), rS, H', ⟨Nat.le_refl _⟩, by repeat (first | exact Drawn0.refl _ | apply Drawn0.step)⟩
 case round =>
  clear H'
  try clear p2
  obtain ⟨x9_1, rfl, HA, HK1, ⟨m1, rfl⟩⟩ := hrel
  cases gk with
  | zero => exact absurd HA.out (by simp [graph_ascending.l0])
  | succ k1 =>
   have H := HA.out
   clear HA
   simp only [graph_ascending.l0] at H
   by_cases c3 : x9_1 < (l0.length : Int)
   ·rw [if_pos c3] at H
    have c3b0 : decide (x9_1 < (l0.length : Int)) = true := decide_eq_true c3
    clear c3
    by_cases c4 : 0 ≤ x9_1
    ·rw [if_pos c4] at H
     have c4b0 : decide (0 ≤ x9_1) = true := decide_eq_true c4
     clear c4
     by_cases c5 : x9_1 < (l0.length : Int)
     ·rw [if_pos c5] at H
      have c5b0 : decide (x9_1 < (l0.length : Int)) = true := decide_eq_true c5
      clear c5
      replace H := Option.bind_eq_some_iff.mp H
      obtain ⟨t102, A60, H⟩ := H
      replace H : (if t102 = true then (if x9_1 > 0 then (if 0 ≤ (wrap64 (x9_1 - 1)) then (if (wrap64 (x9_1 - 1)) < (l0.length : Int) then (graph_ascending.j1 k1 l0 a1 l0 (l0.length : Int) x9_1 (decide ((rd l0 x9_1) ≤ (rd l0 (wrap64 (x9_1 - 1)))))) else (none)) else (none)) else (graph_ascending.j1 k1 l0 a1 l0 (l0.length : Int) x9_1 false)) else (some 6)) = some r := H
      have A6 := Aside0.mk A60
      clear A60
      by_cases c7 : t102 = true
      ·subst c7
       have H1 : (if x9_1 > 0 then (if 0 ≤ (wrap64 (x9_1 - 1)) then (if (wrap64 (x9_1 - 1)) < (l0.length : Int) then (graph_ascending.j1 k1 l0 a1 l0 (l0.length : Int) x9_1 (decide ((rd l0 x9_1) ≤ (rd l0 (wrap64 (x9_1 - 1)))))) else (none)) else (none)) else (graph_ascending.j1 k1 l0 a1 l0 (l0.length : Int) x9_1 false)) = some r := by rw [if_pos rfl] at H; exact H
       clear H
       have H := H1
       clear H1
       have HC8 := Aside0.mk H
       clear H
       have p101 : 0 ≤ (x9_1 : Int) := oT
       have q101 : x9_1 < (l0.length : Int) := oT
       obtain ⟨ad101, e101, hx101_0⟩ := Kd.at_int HR0.out x9_1 p101 q101
       cases e101
       replace p101 := eq_true p101
       replace q101 := eq_true q101
       go_upto_region 6 with (first | ((with_reducible refine gate_callee (f := 44) rfl ?_); refine goesL_ (some 17) rfl rfl Try.func44 (by kernel_rfl) rfl #[.int .i64 (rd l0 x9_1), .int .i64 (wrap64 (a1 - 1))] rfl aM ?_; (with_reducible refine (graph_within.calls (rd l0 x9_1) (wrap64 (a1 - 1)) true _ A6.out).mono ?_); rintro e w' ⟨rfl, ⟨nd, rfl⟩⟩; refine ⟨_, rfl, ?_⟩))
       (try simp only [Act.put, List.setIfInBounds_toArray, List.set_cons_zero, List.set_cons_succ])
       go_cut [29] (fun v29 wc => ∃ (kq : Nat) (x29_7 : Bool), v29 = .bool x29_7 ∧ Aside0 (graph_ascending.j1 kq l0 a1 l0 (l0.length : Int) x9_1 x29_7 = some r) ∧ Aside0 (kq ≤ k1) ∧ Drawn0 w wc)
       case first =>
        have H := HC8.out
        clear HC8
        by_cases c9 : x9_1 > 0
        ·rw [if_pos c9] at H
         have c9b0 : decide (0 < x9_1) = true := decide_eq_true c9
         clear c9
         (first | rw [c9b0] | (simp only [i64_w, i32_w]; rw [c9b0]) | skip)
         obtain ⟨ji10, hji10⟩ : ∃ j_ : Int, (wrap64 (x9_1 - 1)) = j_ := ⟨_, rfl⟩
         replace H : (if 0 ≤ (ji10) then (if (ji10) < (l0.length : Int) then (graph_ascending.j1 k1 l0 a1 l0 (l0.length : Int) x9_1 (decide ((rd l0 x9_1) ≤ (rd l0 (ji10))))) else (none)) else (none)) = some r := by first | (rw [hji10] at H; exact H) | (simp only [hji10] at H ⊢; exact H)
         have hji10w : (IntKind.i64.wrap (x9_1 - 1)) = ji10 := (i64_w _).trans hji10
         by_cases c11 : 0 ≤ (ji10)
         ·rw [if_pos c11] at H
          have c11b0 : decide (0 ≤ (ji10)) = true := decide_eq_true c11
          clear c11
          by_cases c12 : (ji10) < (l0.length : Int)
          ·rw [if_pos c12] at H
           have c12b0 : decide ((ji10) < (l0.length : Int)) = true := decide_eq_true c12
           clear c12
           have H' := Aside0.mk H
           clear H
           have p103 : 0 ≤ ((ji10) : Int) := oT
           have q103 : (ji10) < (l0.length : Int) := oT
           obtain ⟨ad103, e103, hx103_0⟩ := Kd.at_int HR0.out (ji10) p103 q103
           obtain rfl : ad101 = ad103 := (by injection e103)
           replace p103 := eq_true p103
           replace q103 := eq_true q103
           go_wp2
           go_meet
           case rel => exact ⟨_, (decide ((rd l0 x9_1) ≤ (rd l0 (ji10)))), (by first | rfl | (simp; done) | (simp only [← hji10] <;> (first | rfl | simp)) | (simp [*]; done)), H', ⟨by have := HK1.out; first | omega | exact Nat.le_refl _⟩, by repeat (first | exact Drawn0.refl _ | apply Drawn0.step)⟩
          ·rw [if_neg c12] at H
           exact absurd H (by simp)
         ·rw [if_neg c11] at H
          exact absurd H (by simp)
        ·rw [if_neg c9] at H
         have c9b0 : decide (0 < x9_1) = false := decide_eq_false c9
         clear c9
         (first | rw [c9b0] | (simp only [i64_w, i32_w]; rw [c9b0]) | skip)
         have H' := Aside0.mk H
         clear H
         go_wp2
         go_meet
         case rel => exact ⟨_, (false), rS, H', ⟨by have := HK1.out; first | omega | exact Nat.le_refl _⟩, by repeat (first | exact Drawn0.refl _ | apply Drawn0.step)⟩
       case rest =>
        clear HC8
        try clear c1; try clear p2; try clear c3; try clear c3b0; try clear p3; try clear q3; try clear hx3; try clear c4; try clear c4b0; try clear c5; try clear c5b0; try clear p6; try clear c7; try clear c9; try clear c9b0; try clear c11; try clear c11b0; try clear c12; try clear c12b0; try clear hx101_0; try clear hx103_0; try clear p2; try clear p101; try clear p103; try clear q101; try clear q103
        obtain ⟨kq, x29_7, rfl, HA, HJ7, ⟨mc7, rfl⟩⟩ := hcut
        cases kq with
        | zero => exact absurd HA.out (by simp [graph_ascending.j1])
        | succ kj7 =>
         have H := HA.out
         clear HA
         simp only [graph_ascending.j1] at H
         by_cases c13 : x29_7 = true
         ·subst c13
          have H1 : (some 12) = some r := by rw [if_pos rfl] at H; exact H
          clear H
          have H := H1
          clear H1
          obtain rfl := Option.some.inj H
          go_wp2
          go_ret
          exact ⟨by first | rfl | (simp; done) | (simp [*]; done), by repeat (first | exact Drawn0.refl _ | apply Drawn0.step)⟩
         ·replace c13 := Bool.eq_false_iff.mpr c13
          subst c13
          have H1 : (graph_ascending.l0 kj7 l0 a1 l0 (l0.length : Int) (wrap64 (x9_1 + 1))) = some r := by rw [if_neg (show ¬ (false = true) by decide)] at H; exact H
          clear H
          have H := H1
          clear H1
          have H' := Aside0.mk H
          clear H
          go_wp2
          go_roundg kj7
          case measure => have := HK1.out; have := HJ7.out; omega
          case rel => exact ⟨(wrap64 (x9_1 + 1)), rS, H', ⟨by have := HK1.out; have := HJ7.out; omega⟩, by repeat (first | exact Drawn0.refl _ | apply Drawn0.step)⟩
      ·replace c7 := Bool.eq_false_iff.mpr c7
       subst c7
       have H1 : (some 6) = some r := by rw [if_neg (show ¬ (false = true) by decide)] at H; exact H
       clear H
       have H := H1
       clear H1
       obtain rfl := Option.some.inj H
       have p101 : 0 ≤ (x9_1 : Int) := oT
       have q101 : x9_1 < (l0.length : Int) := oT
       obtain ⟨ad101, e101, hx101_0⟩ := Kd.at_int HR0.out x9_1 p101 q101
       cases e101
       replace p101 := eq_true p101
       replace q101 := eq_true q101
       go_wp2_with (first | ((with_reducible refine gate_callee (f := 44) rfl ?_); refine goesL_ (some 17) rfl rfl Try.func44 (by kernel_rfl) rfl #[.int .i64 (rd l0 x9_1), .int .i64 (wrap64 (a1 - 1))] rfl aM ?_; (with_reducible refine (graph_within.calls (rd l0 x9_1) (wrap64 (a1 - 1)) false _ A6.out).mono ?_); rintro e w' ⟨rfl, ⟨nd, rfl⟩⟩; refine ⟨_, rfl, ?_⟩))
       go_ret
       exact ⟨by first | rfl | (simp; done) | (simp [*]; done), by repeat (first | exact Drawn0.refl _ | apply Drawn0.step)⟩
     ·rw [if_neg c5] at H
      exact absurd H (by simp)
    ·rw [if_neg c4] at H
     exact absurd H (by simp)
   ·rw [if_neg c3] at H
    have c3b0 : decide (x9_1 < (l0.length : Int)) = false := decide_eq_false c3
    clear c3
    obtain rfl := Option.some.inj H
    go_wp2
    go_ret
    exact ⟨by first | rfl | (simp; done) | (simp [*]; done), by repeat (first | exact Drawn0.refl _ | apply Drawn0.step)⟩
end Go.Proofs.Ytmbnibonggbjgaa.X

namespace Go.Proofs.Ytmbnibonggbjgaa.X
open Go.RowKit Go.Proofs.YtmbnibonggbjgaaW.PrintWords Go.Proofs.YtmbnibonggbjgaaW.PrintLast Go.Proofs.YtmbnibonggbjgaaW.PrintMore
open Go.Proofs.YtmbnibonggbjgaaW.PrintWords renaming blk_drewN → bN, blk_drew → bD, blk_alloc → bA, below_alloc → wA, pw_below_drewN → wN, below_drew1 → wD, blk_below → bB, below_step → wS, blk_at → bT, blk_grown → bG
open Go.Proofs.YtmbnibonggbjgaaW.PrintWords.Kd renaming R_alloc → rA, R_drewN → rN, R_drew → rD, R_below → rB, R_grown → rG, C_below → cB, C_alloc → cA, C_drewN → cN, C_drew → cD
attribute [local go_sem] max2_int min2_int max_two min_two max_three min_three max_four min_four
set_option linter.unusedVariables false
set_option linter.unusedSimpArgs false
/-! ### slices_Index_int_int: function 75 -/
def slices_Index_int_int.l0 : Nat → List Int → Int → Int → Int → Option (Int)
 | 0, _, _, _, _ => none
 | k + 1, x0, x1, x7, x8 => if x8 < x7 then (if 0 ≤ x8 then (if x8 < (x0.length : Int) then (if x1 = (rd x0 x8) then (some x8) else (slices_Index_int_int.l0 k x0 x1 x7 (wrap64 (x8 + 1)))) else (none)) else (none)) else (some (-1))
def slices_Index_int_int.f (k : Nat) (l0 : List Int) (a1 : Int) : Option (Int) := slices_Index_int_int.l0 k l0 a1 (l0.length : Int) 0
theorem slices_Index_int_int.mono_l : ∀ k, (∀ y0 y1 y2 y3, LeO (slices_Index_int_int.l0 k y0 y1 y2 y3) (slices_Index_int_int.l0 (k + 1) y0 y1 y2 y3))
 | 0 => fun _ _ _ _ r h => by simp [slices_Index_int_int.l0] at h
 | k + 1 => by
  have ih0 := slices_Index_int_int.mono_l k
  ·intro y0 y1 y2 y3
   unfold slices_Index_int_int.l0
   repeat' first
   | (with_reducible exact ih0 _ _ _ _)
   | (with_reducible exact LeO.refl _)
   | (with_reducible exact LeO.none _)
   | (with_reducible refine LeO.ite ?_ ?_)
   | (with_reducible refine LeO.bind ?_ (fun _ => ?_))
   | exact ih0 _ _ _ _
   | exact LeO.none _
   | refine LeO.ite ?_ ?_
   | refine LeO.bind ?_ (fun _ => ?_)
theorem slices_Index_int_int.mono : ∀ a0 a1 k, LeO (slices_Index_int_int.f k a0 a1) (slices_Index_int_int.f (k + 1) a0 a1) := by
 intro a0 a1 k
 have ih0 := slices_Index_int_int.mono_l k
 unfold slices_Index_int_int.f
 repeat' first
   | (with_reducible exact ih0 _ _ _ _)
   | (with_reducible exact LeO.refl _)
   | (with_reducible exact LeO.none _)
   | (with_reducible refine LeO.ite ?_ ?_)
   | (with_reducible refine LeO.bind ?_ (fun _ => ?_))
   | exact ih0 _ _ _ _
   | exact LeO.none _
   | refine LeO.ite ?_ ?_
   | refine LeO.bind ?_ (fun _ => ?_)
set_option maxHeartbeats 8000000 in
set_option maxRecDepth 100000 in
theorem slices_Index_int_int.calls (k : Nat) (A0 : Option Addr) (c0 : Nat) (l0 : List Int) (a1 : Int) (r : Int) (w : World) (hr0 : Kd.C (Kd.int .i64) w A0 l0.length l0) (hc0 : l0.length ≤ c0) (h : slices_Index_int_int.f k l0 a1 = some r) :
  Calls Try.prog 75 #[.slice A0 l0.length c0, .int .i64 a1] w fun e w' => e = .returned (.int .i64 r) ∧ Drawn0 w w' := by
 have HR0 := Aside0.mk hr0
 have HC0 := Aside0.mk hc0
 clear hr0 hc0
 have H : (slices_Index_int_int.l0 k l0 a1 (l0.length : Int) 0) = some r := h
 clear h
 have H' := Aside0.mk H
 clear H
 go_enter Try.func75, Try.ntmps75
 go_wp2
 go_loopg [8] k (fun kq v8 w' => ∃ (x8_1 : Int), v8 = .int .i64 x8_1 ∧ Aside0 (slices_Index_int_int.l0 kq l0 a1 (l0.length : Int) x8_1 = some r) ∧ Aside0 (kq ≤ k) ∧ Drawn0 w w')
 case atStart => exact ⟨(0), rS, H', ⟨Nat.le_refl _⟩, by repeat (first | exact Drawn0.refl _ | apply Drawn0.step)⟩
 case round =>
  clear H'
  try clear p2
  obtain ⟨x8_1, rfl, HA, HK1, ⟨m1, rfl⟩⟩ := hrel
  cases gk with
  | zero => exact absurd HA.out (by simp [slices_Index_int_int.l0])
  | succ k1 =>
   have H := HA.out
   clear HA
   simp only [slices_Index_int_int.l0] at H
   by_cases c3 : x8_1 < (l0.length : Int)
   ·rw [if_pos c3] at H
    have c3b0 : decide (x8_1 < (l0.length : Int)) = true := decide_eq_true c3
    clear c3
    by_cases c4 : 0 ≤ x8_1
    ·rw [if_pos c4] at H
     have c4b0 : decide (0 ≤ x8_1) = true := decide_eq_true c4
     clear c4
     by_cases c5 : x8_1 < (l0.length : Int)
     ·rw [if_pos c5] at H
      have c5b0 : decide (x8_1 < (l0.length : Int)) = true := decide_eq_true c5
      clear c5
      by_cases c6 : a1 = (rd l0 x8_1)
      ·rw [if_pos c6] at H
       have c6b0 : (a1 == (rd l0 x8_1)) = true := beq_iff_eq.mpr c6
       have c6b1 : (a1 != (rd l0 x8_1)) = false := bne_eq_false_iff_eq.mpr c6
       clear c6
       obtain rfl := Option.some.inj H
       have p101 : 0 ≤ (x8_1 : Int) := oT
       have q101 : x8_1 < (l0.length : Int) := oT
       obtain ⟨ad101, e101, hx101_0⟩ := Kd.at_int HR0.out x8_1 p101 q101
       cases e101
       replace p101 := eq_true p101
       replace q101 := eq_true q101
       go_wp2
       go_ret
       exact ⟨by first | rfl | (simp; done) | (simp [*]; done), by repeat (first | exact Drawn0.refl _ | apply Drawn0.step)⟩
      ·rw [if_neg c6] at H
       have c6b0 : (a1 == (rd l0 x8_1)) = false := beq_eq_false_iff_ne.mpr c6
       have c6b1 : (a1 != (rd l0 x8_1)) = true := bne_iff_ne.mpr c6
       have H' := Aside0.mk H
       clear H
       have p101 : 0 ≤ (x8_1 : Int) := oT
       have q101 : x8_1 < (l0.length : Int) := oT
       obtain ⟨ad101, e101, hx101_0⟩ := Kd.at_int HR0.out x8_1 p101 q101
       cases e101
       replace p101 := eq_true p101
       replace q101 := eq_true q101
       go_wp2
       go_roundg k1
       case measure => have := HK1.out; omega
       case rel => exact ⟨(wrap64 (x8_1 + 1)), rS, H', ⟨by have := HK1.out; omega⟩, by repeat (first | exact Drawn0.refl _ | apply Drawn0.step)⟩
     ·rw [if_neg c5] at H
      exact absurd H (by simp)
    ·rw [if_neg c4] at H
     exact absurd H (by simp)
   ·rw [if_neg c3] at H
    have c3b0 : decide (x8_1 < (l0.length : Int)) = false := decide_eq_false c3
    clear c3
    obtain rfl := Option.some.inj H
    go_wp2
    go_ret
    exact ⟨by first | rfl | (simp; done) | (simp [*]; done), by repeat (first | exact Drawn0.refl _ | apply Drawn0.step)⟩
end Go.Proofs.Ytmbnibonggbjgaa.X

namespace Go.Proofs.Ytmbnibonggbjgaa.X
open Go.RowKit Go.Proofs.YtmbnibonggbjgaaW.PrintWords Go.Proofs.YtmbnibonggbjgaaW.PrintLast Go.Proofs.YtmbnibonggbjgaaW.PrintMore
open Go.Proofs.YtmbnibonggbjgaaW.PrintWords renaming blk_drewN → bN, blk_drew → bD, blk_alloc → bA, below_alloc → wA, pw_below_drewN → wN, below_drew1 → wD, blk_below → bB, below_step → wS, blk_at → bT, blk_grown → bG
open Go.Proofs.YtmbnibonggbjgaaW.PrintWords.Kd renaming R_alloc → rA, R_drewN → rN, R_drew → rD, R_below → rB, R_grown → rG, C_below → cB, C_alloc → cA, C_drewN → cN, C_drew → cD
attribute [local go_sem] max2_int min2_int max_two min_two max_three min_three max_four min_four
set_option linter.unusedVariables false
set_option linter.unusedSimpArgs false
/-! ### slices_Contains_int_int: function 59 -/
def slices_Contains_int_int.f (k : Nat) (l0 : List Int) (a1 : Int) : Option (Bool) := (slices_Index_int_int.f k l0 a1).bind fun t101 => (some (decide (t101 ≥ 0)))
theorem slices_Contains_int_int.mono : ∀ a0 a1 k, LeO (slices_Contains_int_int.f k a0 a1) (slices_Contains_int_int.f (k + 1) a0 a1) := by
 intro a0 a1 k
 unfold slices_Contains_int_int.f
 repeat' first
   | (with_reducible exact slices_Index_int_int.mono _ _ _)
   | (with_reducible exact LeO.refl _)
   | (with_reducible exact LeO.none _)
   | (with_reducible refine LeO.ite ?_ ?_)
   | (with_reducible refine LeO.bind ?_ (fun _ => ?_))
   | exact slices_Index_int_int.mono _ _ _
   | exact LeO.none _
   | refine LeO.ite ?_ ?_
   | refine LeO.bind ?_ (fun _ => ?_)
set_option maxHeartbeats 8000000 in
set_option maxRecDepth 100000 in
theorem slices_Contains_int_int.calls (k : Nat) (A0 : Option Addr) (c0 : Nat) (l0 : List Int) (a1 : Int) (r : Bool) (w : World) (hr0 : Kd.C (Kd.int .i64) w A0 l0.length l0) (hc0 : l0.length ≤ c0) (h : slices_Contains_int_int.f k l0 a1 = some r) :
  Calls Try.prog 59 #[.slice A0 l0.length c0, .int .i64 a1] w fun e w' => e = .returned (.bool r) ∧ Drawn0 w w' := by
 have HR0 := Aside0.mk hr0
 have HC0 := Aside0.mk hc0
 clear hr0 hc0
 have H : ((slices_Index_int_int.f k l0 a1).bind fun t101 => (some (decide (t101 ≥ 0)))) = some r := h
 clear h
 replace H := Option.bind_eq_some_iff.mp H
 obtain ⟨t101, A30, H⟩ := H
 replace H : (some (decide (t101 ≥ 0))) = some r := H
 have A3 := Aside0.mk A30
 clear A30
 obtain rfl := Option.some.inj H
 go_enter Try.func59, Try.ntmps59
 go_wp2_with (first | ((with_reducible refine gate_callee (f := 75) rfl ?_); refine goesL_ (some 7) rfl rfl Try.func75 (by kernel_rfl) rfl #[.slice A0 l0.length c0, .int .i64 a1] rfl aM ?_; (with_reducible refine (slices_Index_int_int.calls k _ _ l0 a1 t101 _ ?side1 ?side2 A3.out).mono ?_); (case side1 => repeat (first | exact HR0.out | (with_reducible refine cA ?_ _) | (with_reducible refine cN ?_ _) | (with_reducible refine cD ?_))); (case side2 => exact HC0.out); rintro e w' ⟨rfl, ⟨nd, rfl⟩⟩; refine ⟨_, rfl, ?_⟩))
 go_ret
 exact ⟨by first | rfl | (simp; done) | (simp [*]; done), by repeat (first | exact Drawn0.refl _ | apply Drawn0.step)⟩
end Go.Proofs.Ytmbnibonggbjgaa.X

namespace Go.Proofs.Ytmbnibonggbjgaa.X
open Go.RowKit Go.Proofs.YtmbnibonggbjgaaW.PrintWords Go.Proofs.YtmbnibonggbjgaaW.PrintLast Go.Proofs.YtmbnibonggbjgaaW.PrintMore
open Go.Proofs.YtmbnibonggbjgaaW.PrintWords renaming blk_drewN → bN, blk_drew → bD, blk_alloc → bA, below_alloc → wA, pw_below_drewN → wN, below_drew1 → wD, blk_below → bB, below_step → wS, blk_at → bT, blk_grown → bG
open Go.Proofs.YtmbnibonggbjgaaW.PrintWords.Kd renaming R_alloc → rA, R_drewN → rN, R_drew → rD, R_below → rB, R_grown → rG, C_below → cB, C_alloc → cA, C_drewN → cN, C_drew → cD
attribute [local go_sem] max2_int min2_int max_two min_two max_three min_three max_four min_four
set_option linter.unusedVariables false
set_option linter.unusedSimpArgs false
/-! ### graph_left: function 40 -/
def graph_left.l0 : Nat → Int → List Int → List Int → Int → Int → Option (List Int)
 | 0, _, _, _, _, _ => none
 | k + 1, x0, x1, x5, x6, x7 => if x6 < x0 then ((slices_Contains_int_int.f k x1 x6).bind fun t101 => (if t101 = true then (if x5.length < 17592186044416 then (graph_left.l0 k x0 x1 (x5 ++ [(-1)]) (wrap64 (x6 + 1)) x7) else (none)) else (if x5.length < 17592186044416 then (graph_left.l0 k x0 x1 (x5 ++ [x7]) (wrap64 (x6 + 1)) (wrap64 (x7 + 1))) else (none)))) else (some x5)
def graph_left.f (k : Nat) (a0 : Int) (l1 : List Int) : Option (List Int) := graph_left.l0 k a0 l1 ([] : List Int) 0 0
theorem graph_left.mono_l : ∀ k, (∀ y0 y1 y2 y3 y4, LeO (graph_left.l0 k y0 y1 y2 y3 y4) (graph_left.l0 (k + 1) y0 y1 y2 y3 y4))
 | 0 => fun _ _ _ _ _ r h => by simp [graph_left.l0] at h
 | k + 1 => by
  have ih0 := graph_left.mono_l k
  ·intro y0 y1 y2 y3 y4
   unfold graph_left.l0
   repeat' first
   | (with_reducible exact ih0 _ _ _ _ _)
   | (with_reducible exact slices_Contains_int_int.mono _ _ _)
   | (with_reducible exact LeO.refl _)
   | (with_reducible exact LeO.none _)
   | (with_reducible refine LeO.ite ?_ ?_)
   | (with_reducible refine LeO.bind ?_ (fun _ => ?_))
   | exact ih0 _ _ _ _ _
   | exact slices_Contains_int_int.mono _ _ _
   | exact LeO.none _
   | refine LeO.ite ?_ ?_
   | refine LeO.bind ?_ (fun _ => ?_)
theorem graph_left.mono : ∀ a0 a1 k, LeO (graph_left.f k a0 a1) (graph_left.f (k + 1) a0 a1) := by
 intro a0 a1 k
 have ih0 := graph_left.mono_l k
 unfold graph_left.f
 repeat' first
   | (with_reducible exact ih0 _ _ _ _ _)
   | (with_reducible exact slices_Contains_int_int.mono _ _ _)
   | (with_reducible exact LeO.refl _)
   | (with_reducible exact LeO.none _)
   | (with_reducible refine LeO.ite ?_ ?_)
   | (with_reducible refine LeO.bind ?_ (fun _ => ?_))
   | exact ih0 _ _ _ _ _
   | exact slices_Contains_int_int.mono _ _ _
   | exact LeO.none _
   | refine LeO.ite ?_ ?_
   | refine LeO.bind ?_ (fun _ => ?_)
set_option maxHeartbeats 8000000 in
set_option maxRecDepth 100000 in
theorem graph_left.calls (k : Nat) (a0 : Int) (A1 : Option Addr) (c1 : Nat) (l1 : List Int) (r : List Int) (w : World) (hr1 : Kd.C (Kd.int .i64) w A1 l1.length l1) (hc1 : l1.length ≤ c1) (h : graph_left.f k a0 l1 = some r) :
  Calls Try.prog 40 #[.int .i64 a0, .slice A1 l1.length c1] w fun e w' => ∃ v0_ : Value, e = .returned (v0_) ∧ Kd.R (Kd.int .i64) 3 w' w.heap.size (fun _ => True) v0_ r ∧ Below w.heap.size w w' := by
 have HR1 := Aside0.mk hr1
 have HC1 := Aside0.mk hc1
 clear hr1 hc1
 have HB := Aside0.mk (Below.refl w.heap.size w)
 have H : (graph_left.l0 k a0 l1 ([] : List Int) 0 0) = some r := h
 clear h
 have H' := Aside0.mk H
 clear H
 go_enter Try.func40, Try.ntmps40
 go_wp2
 go_loopg [5, 6, 7] k (fun kq v5 v6 v7 w' => ∃ (x5_1 : List Int) (x6_1 : Int) (x7_1 : Int), v6 = .int .i64 x6_1 ∧ v7 = .int .i64 x7_1 ∧ Aside0 (graph_left.l0 kq a0 l1 x5_1 x6_1 x7_1 = some r) ∧ Aside0 (kq ≤ k) ∧ Aside0 (Kd.R (Kd.int .i64) 3 w' w.heap.size (fun _ => True) v5 x5_1) ∧ Aside0 (Below w.heap.size w w'))
 case atStart => exact ⟨(([] : List Int)), (0), (0), rS, rS, H', ⟨Nat.le_refl _⟩, ⟨by first | exact Kd.R_nil _ _ _ _ _ | exact Kd.N_nil _ _ _ _ _ | exact Kd.V_nil _ _ _ _ _ | exact Kd.Q_nil _ _ _ _ _ | exact Kd.S_nil _ _ _ _ _⟩, ⟨pH HB⟩⟩
 case round =>
  clear H'
  try clear c1; try clear p2
  obtain ⟨x5_1, x6_1, x7_1, rfl, rfl, HA, HK1, Q00, HB⟩ := hrel
  cases gk with
  | zero => exact absurd HA.out (by simp [graph_left.l0])
  | succ k1 =>
   have H := HA.out
   clear HA
   simp only [graph_left.l0] at H
   by_cases c3 : x6_1 < a0
   ·rw [if_pos c3] at H
    have c3b0 : decide (x6_1 < a0) = true := decide_eq_true c3
    clear c3
    replace H := Option.bind_eq_some_iff.mp H
    obtain ⟨t101, A40, H⟩ := H
    replace H : (if t101 = true then (if x5_1.length < 17592186044416 then (graph_left.l0 k1 a0 l1 (x5_1 ++ [(-1)]) (wrap64 (x6_1 + 1)) x7_1) else (none)) else (if x5_1.length < 17592186044416 then (graph_left.l0 k1 a0 l1 (x5_1 ++ [x7_1]) (wrap64 (x6_1 + 1)) (wrap64 (x7_1 + 1))) else (none))) = some r := H
    have A4 := Aside0.mk A40
    clear A40
    by_cases c5 : t101 = true
    ·subst c5
     have H1 : (if x5_1.length < 17592186044416 then (graph_left.l0 k1 a0 l1 (x5_1 ++ [(-1)]) (wrap64 (x6_1 + 1)) x7_1) else (none)) = some r := by rw [if_pos rfl] at H; exact H
     clear H
     have H := H1
     clear H1
     by_cases c6 : x5_1.length < 17592186044416
     ·rw [if_pos c6] at H
      have LMc6 := Aside0.mk c6
      clear c6
      obtain ⟨y102, hy102⟩ : ∃ y_ : List Int, y_ = (x5_1 ++ [(-1)]) := ⟨_, rfl⟩
      replace H : (graph_left.l0 k1 a0 l1 y102 (wrap64 (x6_1 + 1)) x7_1) = some r := by first | (rw [hy102]; with_reducible exact H) | (have H2_ := (Option.bind_some _ _).symm.trans H; rw [hy102]; with_reducible exact H2_) | (have H2_ := (Option.bind_some _ _).symm.trans H; with_reducible exact H2_) | with_reducible exact H | (rw [hy102]; exact H) | exact H
      have Ny102 := Aside0.mk hy102
      clear hy102
      have H' := Aside0.mk H
      clear H
      go_wp2_with (first | ((with_reducible refine gate_callee (f := 59) rfl ?_); refine goesL_ (some 15) rfl rfl Try.func59 (by kernel_rfl) rfl #[.slice A1 l1.length c1, .int .i64 x6_1] rfl aM ?_; (with_reducible refine (slices_Contains_int_int.calls k1 _ _ l1 x6_1 true _ ?side1 ?side2 A4.out).mono ?_); (case side1 => repeat (first | exact (cB HR1.out HB.out) | (with_reducible refine cA ?_ _) | (with_reducible refine cN ?_ _) | (with_reducible refine cD ?_))); (case side2 => exact HC1.out); rintro e w' ⟨rfl, ⟨nd, rfl⟩⟩; refine ⟨_, rfl, ?_⟩) | ((with_reducible refine gate_builtin (b := .append) (xs := #[.tmp 16, .tmp 17]) rfl ?_); at_builtin; refine Kd.R_append (Kd.int .i64) (w0 := w) w.heap.size rfl (.tmp 16) (.tmp 17) 22 3 (.int .i64 0) 8 rfl Try.underlying22 info3 rfl (by decide) (by omega) u5 x5_1 (-1) [.int .i64 (-1)] (fun _ => True) (fun _ => False) rfl rfl ?aP (fun _ hk => hk.elim) ?aF ?aO ?aB ?aS ?aL ?_; (case aP => exact rfl); (case aB => exact hB); (case aF => exact (fun _ _ => trivial)); (case aO => exact (pR Q00)); (case aS => exact (below_size hB)); (case aL => have := LMc6.out; omega); intro v103 w7 ho hb hg hat; rw [← Ny102.out] at ho; replace HB := Aside0.mk (hb); have Q01 := Aside0.mk (ho); clear Q00; clear ho hb hg hat))
      go_roundg k1
      case measure => have := HK1.out; omega
      case rel => exact ⟨(y102), (wrap64 (x6_1 + 1)), (x7_1), rS, rS, H', ⟨by have := HK1.out; omega⟩, ⟨pR Q01⟩, ⟨pH HB⟩⟩
     ·rw [if_neg c6] at H
      exact absurd H (by simp)
    ·replace c5 := Bool.eq_false_iff.mpr c5
     subst c5
     have H1 : (if x5_1.length < 17592186044416 then (graph_left.l0 k1 a0 l1 (x5_1 ++ [x7_1]) (wrap64 (x6_1 + 1)) (wrap64 (x7_1 + 1))) else (none)) = some r := by rw [if_neg (show ¬ (false = true) by decide)] at H; exact H
     clear H
     have H := H1
     clear H1
     by_cases c8 : x5_1.length < 17592186044416
     ·rw [if_pos c8] at H
      have LMc8 := Aside0.mk c8
      clear c8
      obtain ⟨y105, hy105⟩ : ∃ y_ : List Int, y_ = (x5_1 ++ [x7_1]) := ⟨_, rfl⟩
      replace H : (graph_left.l0 k1 a0 l1 y105 (wrap64 (x6_1 + 1)) (wrap64 (x7_1 + 1))) = some r := by first | (rw [hy105]; with_reducible exact H) | (have H2_ := (Option.bind_some _ _).symm.trans H; rw [hy105]; with_reducible exact H2_) | (have H2_ := (Option.bind_some _ _).symm.trans H; with_reducible exact H2_) | with_reducible exact H | (rw [hy105]; exact H) | exact H
      have Ny105 := Aside0.mk hy105
      clear hy105
      have H' := Aside0.mk H
      clear H
      go_wp2_with (first | ((with_reducible refine gate_callee (f := 59) rfl ?_); refine goesL_ (some 15) rfl rfl Try.func59 (by kernel_rfl) rfl #[.slice A1 l1.length c1, .int .i64 x6_1] rfl aM ?_; (with_reducible refine (slices_Contains_int_int.calls k1 _ _ l1 x6_1 false _ ?side1 ?side2 A4.out).mono ?_); (case side1 => repeat (first | exact (cB HR1.out HB.out) | (with_reducible refine cA ?_ _) | (with_reducible refine cN ?_ _) | (with_reducible refine cD ?_))); (case side2 => exact HC1.out); rintro e w' ⟨rfl, ⟨nd, rfl⟩⟩; refine ⟨_, rfl, ?_⟩) | ((with_reducible refine gate_builtin (b := .append) (xs := #[.tmp 19, .tmp 21]) rfl ?_); at_builtin; refine Kd.R_append (Kd.int .i64) (w0 := w) w.heap.size rfl (.tmp 19) (.tmp 21) 22 3 (.int .i64 0) 8 rfl Try.underlying22 info3 rfl (by decide) (by omega) u5 x5_1 x7_1 [.int .i64 x7_1] (fun _ => True) (fun _ => False) rfl rfl ?aP (fun _ hk => hk.elim) ?aF ?aO ?aB ?aS ?aL ?_; (case aP => exact rfl); (case aB => exact hB); (case aF => exact (fun _ _ => trivial)); (case aO => exact (pR Q00)); (case aS => exact (below_size hB)); (case aL => have := LMc8.out; omega); intro v106 w9 ho hb hg hat; rw [← Ny105.out] at ho; replace HB := Aside0.mk (hb); have Q02 := Aside0.mk (ho); clear Q00; clear ho hb hg hat))
      go_roundg k1
      case measure => have := HK1.out; omega
      case rel => exact ⟨(y105), (wrap64 (x6_1 + 1)), (wrap64 (x7_1 + 1)), rS, rS, H', ⟨by have := HK1.out; omega⟩, ⟨pR Q02⟩, ⟨pH HB⟩⟩
     ·rw [if_neg c8] at H
      exact absurd H (by simp)
   ·rw [if_neg c3] at H
    have c3b0 : decide (x6_1 < a0) = false := decide_eq_false c3
    clear c3
    obtain rfl := Option.some.inj H
    go_wp2
    go_ret
    exact ⟨_, by first | rfl | (simp [errW_none, errW_some] <;> rfl) | (simp [*, errW_none, errW_some] <;> rfl), by (with_reducible repeat (first | apply rA | apply rN | apply rD)); exact Q00.out, by repeat (first | (with_reducible first | exact HB.out | apply wA | apply wN | apply wD) | exact HB.out)⟩
end Go.Proofs.Ytmbnibonggbjgaa.X
