/- The law PullbackOf returns true at every input, and its arguments read afterwards as they read before. No condition. -/
import Derived.Test.YtillofiphkmjjaaZPullbackOf5
import Derived.Test.YtillofiphkmjjaaRows
/- Plain laws: what a valid morphism is; the standard pullback, as both compute it. -/
namespace Go.Proofs.Ytillofiphkmjjaa.Pl
open Go.RowKit Go.Proofs.YtillofiphkmjjaaW.PrintWords Go.Proofs.Ytillofiphkmjjaa.X
set_option linter.unusedVariables false
theorem rd_cons_zero (x : Int) (r : List Int) : rd (x :: r) ((0 : Nat) : Int) = x := rfl
theorem rd_cons_succ (x : Int) (r : List Int) (j : Nat) : rd (x :: r) ((j + 1 : Nat) : Int) = rd r (j : Int) := by
 unfold rd
 rw [Int.toNat_natCast, Int.toNat_natCast]
 rfl
theorem rd_get (l : List Int) (j : Nat) (h : j < l.length) : rd l (j : Int) = l[j] := by
 unfold rd
 rw [Int.toNat_natCast, List.getD_eq_getElem?_getD, List.getElem?_eq_getElem h]
 rfl
theorem rd79_get (l : List S79) (j : Nat) (h : j < l.length) : rd_T79 l (j : Int) = l[j] := by
 unfold rd_T79
 rw [Int.toNat_natCast, List.getD_eq_getElem?_getD, List.getElem?_eq_getElem h]
 rfl
theorem rd94_get (l : List S94) (j : Nat) (h : j < l.length) : rd_T94 l (j : Int) = l[j] := by
 unfold rd_T94
 rw [Int.toNat_natCast, List.getD_eq_getElem?_getD, List.getElem?_eq_getElem h]
 rfl
theorem validE_iff {a0 : List Int} {a1 : List S94} : validE a0 a1 = 0 ↔ a0.length ≤ 40 ∧ a1.length ≤ 80 ∧ (∀ t ∈ a0, kindB t = true) ∧ ∀ e ∈ a1, edgeB a0.length e = true := by
 unfold validE
 constructor
 ·intro h
  split at h
  ·exact absurd h (by decide)
  ·split at h
   ·exact absurd h (by decide)
   ·split at h
    ·exact absurd h (by decide)
    ·split at h
     ·exact absurd h (by decide)
     ·rename_i h1 h2 h3 h4
      refine ⟨by omega, by omega, fun t ht => ?_, fun e he => ?_⟩
      ·cases hb : kindB t
       ·exact absurd (List.any_eq_true.mpr ⟨t, ht, by rw [hb]; rfl⟩) h3
       ·rfl
      ·cases hb : edgeB a0.length e
       ·exact absurd (List.any_eq_true.mpr ⟨e, he, by rw [hb]; rfl⟩) h4
       ·rfl
 ·rintro ⟨h1, h2, h3, h4⟩
  rw [if_neg (by omega), if_neg (by omega), if_neg ?_, if_neg ?_]
  ·intro h
   obtain ⟨e, he, hb⟩ := List.any_eq_true.mp h
   rw [h4 e he] at hb
   exact absurd hb (by decide)
  ·intro h
   obtain ⟨t, ht, hb⟩ := List.any_eq_true.mp h
   rw [h3 t ht] at hb
   exact absurd hb (by decide)
def okN (a0 b0 n : List Int) : Prop := ∀ j : Nat, j < n.length → 0 ≤ rd n j ∧ rd n j < (b0.length : Int) ∧ rd b0 (rd n j) = rd a0 j
def okM (a1 b1 : List S94) (n m : List Int) : Prop := ∀ j : Nat, j < m.length → 0 ≤ rd m j ∧ rd m j < (b1.length : Int) ∧ (rd_T94 a1 j).f0 = (rd_T94 b1 (rd m j)).f0 ∧ rd n (rd_T94 a1 j).f1 = (rd_T94 b1 (rd m j)).f1 ∧ rd n (rd_T94 a1 j).f2 = (rd_T94 b1 (rd m j)).f2
theorem mvN_iff (a0 b0 : List Int) : ∀ (n : List Int) (i : Nat), mvN a0 b0 i n = 0 ↔ ∀ j : Nat, j < n.length → 0 ≤ rd n j ∧ rd n j < (b0.length : Int) ∧ rd b0 (rd n j) = rd a0 ((i + j : Nat) : Int) := by
 intro n
 induction n with
 | nil => intro i; simp [mvN]
 | cons k r ih =>
  intro i
  rw [mvN_cons]
  constructor
  ·intro h
   split at h
   ·exact absurd h (by decide)
   ·split at h
    ·exact absurd h (by decide)
    ·rename_i h1 h2
     intro j hj
     cases j with
     | zero =>
      rw [rd_cons_zero]
      refine ⟨by omega, by omega, ?_⟩
      have := Decidable.of_not_not h2
      simpa using this
     | succ j =>
      rw [rd_cons_succ]
      have e : (i : Int) + 1 = ((i + 1 : Nat) : Int) := by omega
      rw [e] at h
      have := (ih (i + 1)).mp h j (by simpa using hj)
      rw [show i + (j + 1) = i + 1 + j by omega]
      exact this
  ·intro h
   have h0 := h 0 (by simp)
   rw [rd_cons_zero] at h0
   rw [if_neg (by omega), if_neg (fun hh => hh (by simpa using h0.2.2))]
   have e : (i : Int) + 1 = ((i + 1 : Nat) : Int) := by omega
   rw [e]
   refine (ih (i + 1)).mpr (fun j hj => ?_)
   have := h (j + 1) (by simpa using hj)
   rw [rd_cons_succ, show i + (j + 1) = i + 1 + j by omega] at this
   exact this
theorem mvE_iff (a1 b1 : List S94) (n : List Int) : ∀ (m : List Int) (i : Nat), mvE a1 b1 n i m = 0 ↔ ∀ j : Nat, j < m.length → 0 ≤ rd m j ∧ rd m j < (b1.length : Int) ∧ (rd_T94 a1 ((i + j : Nat) : Int)).f0 = (rd_T94 b1 (rd m j)).f0 ∧ rd n (rd_T94 a1 ((i + j : Nat) : Int)).f1 = (rd_T94 b1 (rd m j)).f1 ∧ rd n (rd_T94 a1 ((i + j : Nat) : Int)).f2 = (rd_T94 b1 (rd m j)).f2 := by
 intro m
 induction m with
 | nil => intro i; simp [mvE]
 | cons k r ih =>
  intro i
  rw [mvE_cons]
  constructor
  ·intro h
   split at h
   ·exact absurd h (by decide)
   ·split at h
    ·exact absurd h (by decide)
    ·split at h
     ·exact absurd h (by decide)
     ·rename_i h1 h2 h3
      intro j hj
      cases j with
      | zero =>
       rw [rd_cons_zero, Nat.add_zero]
       exact ⟨by omega, by omega, Decidable.of_not_not h2, Decidable.of_not_not (fun h => h3 (.inl h)), Decidable.of_not_not (fun h => h3 (.inr h))⟩
      | succ j =>
       rw [rd_cons_succ]
       have e : (i : Int) + 1 = ((i + 1 : Nat) : Int) := by omega
       rw [e] at h
       have := (ih (i + 1)).mp h j (by simpa using hj)
       rw [show i + (j + 1) = i + 1 + j by omega]
       exact this
  ·intro h
   have h0 := h 0 (by simp)
   rw [rd_cons_zero, Nat.add_zero] at h0
   rw [if_neg (by omega), if_neg (fun hh => hh h0.2.2.1), if_neg (fun hh => hh.elim (fun h => h h0.2.2.2.1) (fun h => h h0.2.2.2.2))]
   have e : (i : Int) + 1 = ((i + 1 : Nat) : Int) := by omega
   rw [e]
   refine (ih (i + 1)).mpr (fun j hj => ?_)
   have := h (j + 1) (by simpa using hj)
   rw [rd_cons_succ, show i + (j + 1) = i + 1 + j by omega] at this
   exact this
theorem mvalid_iff {a0 : List Int} {a1 : List S94} {b0 : List Int} {b1 : List S94} {n m : List Int} : mvalid a0 a1 b0 b1 n m = 0 ↔ validE a0 a1 = 0 ∧ validE b0 b1 = 0 ∧ n.length = a0.length ∧ m.length = a1.length ∧ okN a0 b0 n ∧ okM a1 b1 n m := by
 have e1 := mvN_iff a0 b0 n 0
 have e2 := mvE_iff a1 b1 n m 0
 simp only [Nat.zero_add, Int.natCast_zero] at e1 e2
 unfold mvalid
 constructor
 ·intro h
  split at h
  ·rename_i h1
   split at h
   ·rename_i h2
    split at h
    ·exact absurd h (by decide)
    ·rename_i h3
     split at h
     ·rename_i h4
      exact ⟨h1, h2, by omega, by omega, e1.mp h4, e2.mp h⟩
     ·rename_i h4
      exact absurd h h4
   ·rename_i h2
    exact absurd h h2
  ·rename_i h1
   exact absurd h h1
 ·rintro ⟨h1, h2, h3, h4, h5, h6⟩
  rw [if_pos h1, if_pos h2, if_neg (by omega), if_pos (e1.mpr h5)]
  exact e2.mpr h6
/-! places of pairs -/
def plc : Int → List S79 → Int → Int → Int
 | _, [], _, _ => -1
 | i, p :: r, a, b => if p.f0 = a ∧ p.f1 = b then i else plc (i + 1) r a b
theorem plc_spec (a b : Int) : ∀ (l : List S79) (i : Int), (plc i l a b = -1 ∧ ∀ p ∈ l, ¬ (p.f0 = a ∧ p.f1 = b)) ∨ ∃ j : Nat, j < l.length ∧ plc i l a b = i + j ∧ (rd_T79 l j).f0 = a ∧ (rd_T79 l j).f1 = b := by
 intro l
 induction l with
 | nil => intro i; exact .inl ⟨rfl, by simp⟩
 | cons p r ih =>
  intro i
  unfold plc
  by_cases h : p.f0 = a ∧ p.f1 = b
  ·right
   exact ⟨0, by simp, by rw [if_pos h]; simp, h.1, h.2⟩
  ·rw [if_neg h]
   rcases ih (i + 1) with ⟨h1, h2⟩ | ⟨j, h1, h2, h3, h4⟩
   ·left
    refine ⟨h1, fun q hq => ?_⟩
    rcases List.mem_cons.mp hq with rfl | hq
    ·exact h
    ·exact h2 q hq
   ·right
    refine ⟨j + 1, by simpa using h1, by rw [h2]; omega, ?_, ?_⟩
    ·rw [rd79_get _ _ (by simpa using h1), List.getElem_cons_succ, ← rd79_get _ _ h1]; exact h3
    ·rw [rd79_get _ _ (by simpa using h1), List.getElem_cons_succ, ← rd79_get _ _ h1]; exact h4
theorem index_l0 (l : List S79) (a b : Int) (hl : l.length ≤ 9223372036854775806) : ∀ (r pre : List S79), l = pre ++ r → Ev (fun k => api_Pair_73.l0 k l (l.length : Int) (pre.length : Int) a b) (plc pre.length r a b) := by
 intro r
 induction r with
 | nil =>
  rintro pre rfl
  rw [show plc (pre.length : Int) [] a b = -1 from rfl]
  exact Ev.step (fun k => by simp only [api_Pair_73.l0]; rw [if_neg (by simp)]) (Ev.now _)
 | cons p r ih =>
  rintro pre rfl
  have e : wrap64 ((pre.length : Int) + 1) = ((pre ++ [p]).length : Int) := wrap_mid pre p r (by omega)
  unfold plc
  by_cases h : p.f0 = a ∧ p.f1 = b
  ·rw [if_pos h]
   refine Ev.step (fun k => by simp only [api_Pair_73.l0]; rw [if_pos (lt_mid pre p r), if_pos (by omega), if_pos (lt_mid pre p r), rd79_mid, if_pos (by rw [h.1, h.2]; simp)]) (Ev.now _)
  ·rw [if_neg h]
   have ih' := ih (pre ++ [p]) (snoc_mid pre p r)
   refine Ev.step (fun k => by simp only [api_Pair_73.l0]; rw [if_pos (lt_mid pre p r), if_pos (by omega), if_pos (lt_mid pre p r), rd79_mid, if_neg (by simp; intro h1 h2; exact h ⟨h1.symm, h2.symm⟩), e]) ?_
   simpa using ih'
theorem index_ev (l : List S79) (a b : Int) (hl : l.length ≤ 9223372036854775806) : Ev (fun k => api_Pair_73.f k l a b) (plc 0 l a b) := by
 unfold api_Pair_73.f
 exact index_l0 l a b hl l [] rfl
theorem place_l0 (l : List S79) (a b : Int) (hl : l.length ≤ 9223372036854775806) : ∀ (r pre : List S79), l = pre ++ r → Ev (fun k => scarfjointref11_place.l0 k l a b (pre.length : Int)) (plc pre.length r a b) := by
 intro r
 induction r with
 | nil =>
  rintro pre rfl
  rw [show plc (pre.length : Int) [] a b = -1 from rfl]
  exact Ev.step (fun k => by simp only [scarfjointref11_place.l0]; rw [if_neg (by simp)]) (Ev.now _)
 | cons p r ih =>
  rintro pre rfl
  have e : wrap64 ((pre.length : Int) + 1) = ((pre ++ [p]).length : Int) := wrap_mid pre p r (by omega)
  have ih' := ih (pre ++ [p]) (snoc_mid pre p r)
  have e3 : ((pre ++ [p]).length : Int) = (pre.length : Int) + 1 := by simp
  unfold plc
  by_cases h0 : p.f0 = a
  ·refine Ev.step (fun k => by simp only [scarfjointref11_place.l0]; rw [if_pos (lt_mid pre p r), if_pos (by omega), rd79_mid, if_pos h0]) ?_
   by_cases h1 : p.f1 = b
   ·rw [if_pos ⟨h0, h1⟩]
    exact Ev.step (fun k => by simp only [scarfjointref11_place.j1]; rw [if_pos (by simp [h1])]) (Ev.now _)
   ·rw [if_neg (fun h => h1 h.2)]
    refine Ev.step (fun k => by simp only [scarfjointref11_place.j1]; rw [if_neg (by simp [h1]), e]) ?_
    rw [← e3]
    exact ih'
  ·rw [if_neg (fun h => h0 h.1)]
   refine Ev.step (fun k => by simp only [scarfjointref11_place.l0]; rw [if_pos (lt_mid pre p r), if_pos (by omega), rd79_mid, if_neg h0]) ?_
   refine Ev.step (fun k => by simp only [scarfjointref11_place.j1]; rw [if_neg (by simp), e]) ?_
   rw [← e3]
   exact ih'
theorem place_ev (l : List S79) (a b : Int) (hl : l.length ≤ 9223372036854775806) : Ev (fun k => scarfjointref11_place.f k l a b) (plc 0 l a b) := by
 unfold scarfjointref11_place.f
 exact place_l0 l a b hl l [] rfl
theorem gsides_l0 (l : List S79) (hl : l.length ≤ 1000000) : ∀ (r pre : List S79) (a b : List Int), l = pre ++ r → a.length = pre.length → b.length = pre.length → Ev (fun k => pullback_sides.l0 k a b l (l.length : Int) (pre.length : Int)) (a ++ r.map S79.f0, b ++ r.map S79.f1) := by
 intro r
 induction r with
 | nil =>
  rintro pre a b rfl ha hb
  refine Ev.step (fun k => by simp only [pullback_sides.l0]; rw [if_neg (by simp)]) ?_
  simpa using Ev.now (a, b)
 | cons p r ih =>
  rintro pre a b rfl ha hb
  have hl' : pre.length ≤ 1000000 := by simp at hl; omega
  have e : wrap64 ((pre.length : Int) + 1) = ((pre ++ [p]).length : Int) := wrap_mid pre p r (by omega)
  have ih' := ih (pre ++ [p]) (a ++ [p.f0]) (b ++ [p.f1]) (snoc_mid pre p r) (by simp [ha]) (by simp [hb])
  refine Ev.step (fun k => by simp only [pullback_sides.l0, Option.bind_some]; rw [if_pos (lt_mid pre p r), if_pos (by omega), if_pos (lt_mid pre p r), rd79_mid, if_pos (by simp; omega), if_pos (by simp; omega), e]) ?_
  simpa using ih'
theorem gsides_ev (l : List S79) (hl : l.length ≤ 1000000) : Ev (fun k => pullback_sides.f k l) (l.map S79.f0, l.map S79.f1) := by
 unfold pullback_sides.f
 simpa using gsides_l0 l hl l [] [] [] rfl rfl rfl
theorem rsides_l0 (l : List S79) (hl : l.length ≤ 1000000) : ∀ (r pre : List S79) (a b : List Int), l = pre ++ r → a.length = pre.length → b.length = pre.length → Ev (fun k => scarfjointref11_sides.l0 k l a b (pre.length : Int)) (a ++ r.map S79.f0, b ++ r.map S79.f1) := by
 intro r
 induction r with
 | nil =>
  rintro pre a b rfl ha hb
  refine Ev.step (fun k => by simp only [scarfjointref11_sides.l0]; rw [if_neg (by simp)]) ?_
  simpa using Ev.now (a, b)
 | cons p r ih =>
  rintro pre a b rfl ha hb
  have hl' : pre.length ≤ 1000000 := by simp at hl; omega
  have e : wrap64 ((pre.length : Int) + 1) = ((pre ++ [p]).length : Int) := wrap_mid pre p r (by omega)
  have ih' := ih (pre ++ [p]) (a ++ [p.f0]) (b ++ [p.f1]) (snoc_mid pre p r) (by simp [ha]) (by simp [hb])
  refine Ev.step (fun k => by simp only [scarfjointref11_sides.l0, Option.bind_some]; rw [if_pos (lt_mid pre p r), if_pos (by omega), rd79_mid, if_pos (by simp; omega), if_pos (by simp; omega), e]) ?_
  simpa using ih'
theorem rsides_ev (l : List S79) (hl : l.length ≤ 1000000) : Ev (fun k => scarfjointref11_sides.f k l) (l.map S79.f0, l.map S79.f1) := by
 unfold scarfjointref11_sides.f
 simpa using rsides_l0 l hl l [] [] [] rfl rfl rfl
/-! the reference's pairs: at most so many, and one more -/
theorem rpairs_l1 (f g : List Int) (most : Nat) (hm : most ≤ 1000) (hf : f.length ≤ 1000000) (hg : g.length ≤ 1000000) (p : List Int) (x : Int) (q : List Int) (hp : f = p ++ x :: q) {R : List S79} : ∀ (r pre : List Int) (acc : List S79), g = pre ++ r →
  Ev (fun k => scarfjointref11_pairs.l0 k f g (most : Int) ((acc ++ row1 p.length x pre.length r).take (most + 1)) (wrap64 ((p.length : Int) + 1))) R → Ev (fun k => scarfjointref11_pairs.l1 k f g (most : Int) (acc.take (most + 1)) (p.length : Int) (pre.length : Int)) R := by
 intro r
 have hlt : (p.length : Int) < (f.length : Int) := by rw [hp]; exact lt_mid p x q
 have hrd : rd f (p.length : Int) = x := by rw [hp]; exact rd_mid p x q
 induction r with
 | nil =>
  rintro pre acc hpre h
  refine Ev.step (fun k => by simp only [scarfjointref11_pairs.l1]; rw [if_neg (by rw [hpre]; simp)]) ?_
  simpa [row1] using h
 | cons y r ih =>
  rintro pre acc hpre h
  have hl2 : (pre.length : Int) < (g.length : Int) := by rw [hpre]; exact lt_mid pre y r
  have hr2 : rd g (pre.length : Int) = y := by rw [hpre]; exact rd_mid pre y r
  have e : wrap64 ((pre.length : Int) + 1) = ((pre ++ [y]).length : Int) := wrap_mid pre y r (by rw [← hpre]; omega)
  have e9 : (pre.length : Int) + 1 = ((pre ++ [y]).length : Int) := by simp
  by_cases hxy : x = y
  ·have e2 : row1 p.length x (pre.length : Int) (y :: r) = ⟨(p.length : Int), (pre.length : Int)⟩ :: row1 p.length x ((pre.length : Int) + 1) r := by rw [row1, if_pos hxy]
   rw [e2] at h
   refine Ev.step (fun k => by simp only [scarfjointref11_pairs.l1]; rw [if_pos hl2, if_pos (by omega), if_pos hlt, if_pos (by omega), hrd, hr2, if_pos hxy]) ?_
   have hlen : (acc.take (most + 1)).length = min (most + 1) acc.length := List.length_take
   by_cases hle : acc.length ≤ most
   ·refine Ev.step (fun k => by simp only [scarfjointref11_pairs.j2]; rw [if_pos (decide_eq_true (by omega)), if_pos (by omega), e]) ?_
    have ih' := ih (pre ++ [y]) (acc ++ [⟨(p.length : Int), (pre.length : Int)⟩]) (by rw [hpre]; exact snoc_mid pre y r) (by rw [e9] at h; simpa using h)
    rw [List.take_of_length_le (by simp; omega)] at ih'
    rw [List.take_of_length_le (by omega)]
    exact ih'
   ·refine Ev.step (fun k => by simp only [scarfjointref11_pairs.j2]; rw [if_neg (by rw [decide_eq_true_eq]; omega), e]) ?_
    refine ih (pre ++ [y]) acc (by rw [hpre]; exact snoc_mid pre y r) ?_
    rw [List.take_append_of_le_length (by omega)] at h ⊢
    exact h
  ·have e2 : row1 p.length x (pre.length : Int) (y :: r) = row1 p.length x ((pre.length : Int) + 1) r := by rw [row1, if_neg hxy]
   rw [e2] at h
   refine Ev.step (fun k => by simp only [scarfjointref11_pairs.l1]; rw [if_pos hl2, if_pos (by omega), if_pos hlt, if_pos (by omega), hrd, hr2, if_neg hxy]) ?_
   refine Ev.step (fun k => by simp only [scarfjointref11_pairs.j2]; rw [if_neg (by decide), e]) ?_
   exact ih (pre ++ [y]) acc (by rw [hpre]; exact snoc_mid pre y r) (by rw [e9] at h; exact h)
theorem rpairs_l0 (f g : List Int) (most : Nat) (hm : most ≤ 1000) (hf : f.length ≤ 1000000) (hg : g.length ≤ 1000000) : ∀ (r pre : List Int) (acc : List S79), f = pre ++ r →
  Ev (fun k => scarfjointref11_pairs.l0 k f g (most : Int) (acc.take (most + 1)) (pre.length : Int)) ((acc ++ rows g pre.length r).take (most + 1)) := by
 intro r
 induction r with
 | nil =>
  rintro pre acc hp
  refine Ev.step (fun k => by simp only [scarfjointref11_pairs.l0]; rw [if_neg (by rw [hp]; simp)]) ?_
  simpa [rows] using Ev.now (acc.take (most + 1))
 | cons x r ih =>
  rintro pre acc hp
  have hl : (pre.length : Int) < (f.length : Int) := by rw [hp]; exact lt_mid pre x r
  have e : wrap64 ((pre.length : Int) + 1) = ((pre ++ [x]).length : Int) := wrap_mid pre x r (by rw [← hp]; omega)
  have ih' := ih (pre ++ [x]) (acc ++ row1 (pre.length : Int) x 0 g) (by rw [hp]; exact snoc_mid pre x r)
  refine Ev.step (fun k => by simp only [scarfjointref11_pairs.l0]; rw [if_pos hl]) ?_
  refine rpairs_l1 f g most hm hf hg pre x r hp g [] acc rfl ?_
  rw [e]
  have e2 : rows g (pre.length : Int) (x :: r) = row1 (pre.length : Int) x 0 g ++ rows g ((pre.length : Int) + 1) r := rfl
  rw [e2]
  simpa using ih'
theorem rpairs_ev (f g : List Int) (most : Nat) (hm : most ≤ 1000) (hf : f.length ≤ 1000000) (hg : g.length ≤ 1000000) : Ev (fun k => scarfjointref11_pairs.f k f g (most : Int)) ((rows g 0 f).take (most + 1)) := by
 unfold scarfjointref11_pairs.f
 simpa using rpairs_l0 f g most hm hf hg f [] [] rfl
theorem row1_iff (i x : Int) : ∀ (s : List Int) (k : Int) (p : S79), p ∈ row1 i x k s ↔ p.f0 = i ∧ ∃ j : Nat, j < s.length ∧ p.f1 = k + j ∧ rd s j = x := by
 intro s
 induction s with
 | nil => intro k p; simp [row1]
 | cons y s ih =>
  intro k p
  unfold row1
  constructor
  ·intro h
   split at h
   ·rename_i hxy
    rcases List.mem_cons.mp h with rfl | h
    ·exact ⟨rfl, 0, by simp, by simp, hxy.symm⟩
    ·obtain ⟨h1, j, h2, h3, h4⟩ := (ih (k + 1) p).mp h
     exact ⟨h1, j + 1, by simpa using h2, by rw [h3]; omega, by rw [rd_cons_succ]; exact h4⟩
   ·obtain ⟨h1, j, h2, h3, h4⟩ := (ih (k + 1) p).mp h
    exact ⟨h1, j + 1, by simpa using h2, by rw [h3]; omega, by rw [rd_cons_succ]; exact h4⟩
  ·rintro ⟨h1, j, h2, h3, h4⟩
   cases j with
   | zero =>
    rw [rd_cons_zero] at h4
    rw [if_pos h4.symm]
    have : p = ⟨i, k⟩ := by
     cases p
     simp at h1 h3
     rw [h1, h3]
    rw [this]
    exact List.mem_cons_self
   | succ j =>
    rw [rd_cons_succ] at h4
    have := (ih (k + 1) p).mpr ⟨h1, j, by simpa using h2, by rw [h3]; omega, h4⟩
    split
    ·exact List.mem_cons_of_mem _ this
    ·exact this
theorem rows_iff (g : List Int) : ∀ (r : List Int) (i : Int) (p : S79), p ∈ rows g i r ↔ ∃ j : Nat, j < r.length ∧ p.f0 = i + j ∧ ∃ j' : Nat, j' < g.length ∧ p.f1 = (j' : Int) ∧ rd g j' = rd r j := by
 intro r
 induction r with
 | nil => intro i p; simp [rows]
 | cons x r ih =>
  intro i p
  have e3 : rows g i (x :: r) = row1 i x 0 g ++ rows g (i + 1) r := rfl
  rw [e3, List.mem_append, row1_iff, ih]
  constructor
  ·rintro (⟨h1, j, h2, h3, h4⟩ | ⟨j, h1, h2, j', h3, h4, h5⟩)
   ·exact ⟨0, by simp, by simp [h1], j, h2, by omega, h4⟩
   ·exact ⟨j + 1, by simpa using h1, by rw [h2]; omega, j', h3, h4, by rw [rd_cons_succ]; exact h5⟩
  ·rintro ⟨j, h1, h2, j', h3, h4, h5⟩
   cases j with
   | zero => exact .inl ⟨by rw [h2]; simp, j', h3, by omega, h5⟩
   | succ j => exact .inr ⟨j, by simpa using h1, by rw [h2]; omega, j', h3, h4, by rw [rd_cons_succ] at h5; exact h5⟩
theorem rows_mem {f g : List Int} {p : S79} : p ∈ rows g 0 f ↔ 0 ≤ p.f0 ∧ p.f0 < (f.length : Int) ∧ 0 ≤ p.f1 ∧ p.f1 < (g.length : Int) ∧ rd f p.f0 = rd g p.f1 := by
 rw [rows_iff]
 constructor
 ·rintro ⟨j, h1, h2, j', h3, h4, h5⟩
  have e : p.f0 = (j : Int) := by omega
  rw [e, h4]
  exact ⟨by omega, by omega, by omega, by omega, h5.symm⟩
 ·rintro ⟨h1, h2, h3, h4, h5⟩
  refine ⟨p.f0.toNat, by omega, by omega, p.f1.toNat, by omega, by omega, ?_⟩
  rw [Int.toNat_of_nonneg h1, Int.toNat_of_nonneg h3]
  exact h5.symm
theorem row1_nodup (i x : Int) : ∀ (s : List Int) (k : Int), (row1 i x k s).Nodup := by
 intro s
 induction s with
 | nil => intro k; simp [row1]
 | cons y s ih =>
  intro k
  unfold row1
  split
  ·refine List.nodup_cons.mpr ⟨fun h => ?_, ih _⟩
   have := (row1_mem _ _ _ _ _ h).2.1
   simp at this
   omega
  ·exact ih _
theorem rows_nodup (g : List Int) : ∀ (r : List Int) (i : Int), (rows g i r).Nodup := by
 intro r
 induction r with
 | nil => intro i; simp [rows]
 | cons x r ih =>
  intro i
  have e3 : rows g i (x :: r) = row1 i x 0 g ++ rows g (i + 1) r := rfl
  rw [e3, List.nodup_append]
  refine ⟨row1_nodup _ _ _ _, ih _, fun a ha b hb hab => ?_⟩
  have h1 := (row1_mem _ _ _ _ _ ha).1
  obtain ⟨j, -, h2, -⟩ := (rows_iff g r (i + 1) b).mp hb
  rw [hab] at h1
  omega
theorem rows_len (g : List Int) : ∀ (r : List Int) (i : Int), (rows g i r).length ≤ r.length * g.length := by
 intro r
 induction r with
 | nil => intro i; simp [rows]
 | cons x r ih =>
  intro i
  have h1 := ih (i + 1)
  have h2 := row1_len i x g 0
  have e3 : rows g i (x :: r) = row1 i x 0 g ++ rows g (i + 1) r := rfl
  rw [e3, List.length_append, List.length_cons, Nat.succ_mul]
  omega
theorem plc_self {l : List S79} (hd : l.Nodup) (j : Nat) (hj : j < l.length) : plc 0 l (rd_T79 l j).f0 (rd_T79 l j).f1 = (j : Int) := by
 rcases plc_spec (rd_T79 l j).f0 (rd_T79 l j).f1 l 0 with ⟨-, h⟩ | ⟨i, h1, h2, h3, h4⟩
 ·exact absurd ⟨rfl, rfl⟩ (h (rd_T79 l j) (by rw [rd79_get _ _ hj]; exact List.getElem_mem _))
 ·rw [rd79_get _ _ hj, rd79_get _ _ h1] at h3 h4
  have e : l[i] = l[j] := by
   cases hx : l[i]
   cases hy : l[j]
   rw [hx, hy] at h3 h4
   simp at h3 h4
   rw [h3, h4]
  have hij : i = j := by
   rcases Nat.lt_trichotomy i j with h | h | h
   ·exact absurd e (List.pairwise_iff_getElem.mp hd i j h1 hj h)
   ·exact h
   ·exact absurd e.symm (List.pairwise_iff_getElem.mp hd j i hj h1 h)
  subst hij
  rw [h2]
  omega
theorem plc_mem {l : List S79} {a b : Int} (h : (⟨a, b⟩ : S79) ∈ l) : 0 ≤ plc 0 l a b ∧ plc 0 l a b < (l.length : Int) ∧ (rd_T79 l (plc 0 l a b)).f0 = a ∧ (rd_T79 l (plc 0 l a b)).f1 = b := by
 rcases plc_spec a b l 0 with ⟨-, h'⟩ | ⟨i, h1, h2, h3, h4⟩
 ·exact absurd ⟨rfl, rfl⟩ (h' _ h)
 ·have e : plc 0 l a b = (i : Int) := by omega
  rw [e]
  exact ⟨by omega, by omega, h3, h4⟩
theorem plc_not {l : List S79} {a b : Int} (h : (⟨a, b⟩ : S79) ∉ l) : plc 0 l a b = -1 := by
 rcases plc_spec a b l 0 with ⟨h', -⟩ | ⟨i, h1, h2, h3, h4⟩
 ·exact h'
 ·rw [rd79_get _ _ h1] at h3 h4
  exact absurd (by rw [← h3, ← h4]; exact List.getElem_mem h1) h
section
variable (x0 : List Int) (x1 : List S94) (x2 : List Int) (x3 : List S94) (x4 : List Int) (x5 : List S94) (x6 x7 x8 x9 : List Int)
def giv : Int := if mvalid x0 x1 x4 x5 x6 x7 = 0 then mvalid x2 x3 x4 x5 x8 x9 else mvalid x0 x1 x4 x5 x6 x7
def edg (x1 x3 : List S94) (P : List S79) (q : S79) : S94 := ⟨(rd_T94 x1 q.f0).f0, plc 0 P (rd_T94 x1 q.f0).f1 (rd_T94 x3 q.f1).f1, plc 0 P (rd_T94 x1 q.f0).f2 (rd_T94 x3 q.f1).f2⟩
def ofR : List S79 × List S79 × List Int × List S94 × Int :=
 if giv x0 x1 x2 x3 x4 x5 x6 x7 x8 x9 = 0 then (if (rows x8 0 x6).length > 40 ∨ (rows x9 0 x7).length > 80 then ([], [], [], [], 3) else (rows x8 0 x6, rows x9 0 x7, (rows x8 0 x6).map (fun p => rd x0 p.f0), (rows x9 0 x7).map (edg x1 x3 (rows x8 0 x6)), 0))
 else ([], [], [], [], giv x0 x1 x2 x3 x4 x5 x6 x7 x8 x9)
theorem given_eq : pullback_given.f x0 x1 x2 x3 x4 x5 x6 x7 x8 x9 = some (giv x0 x1 x2 x3 x4 x5 x6 x7 x8 x9) := by
 unfold pullback_given.f morphism_Valid.f giv
 simp only [Option.bind_some]
 split <;> rfl
theorem rgiven_eq : scarfjointref11_Valid.f x0 x1 x2 x3 x4 x5 x6 x7 x8 x9 = some (giv x0 x1 x2 x3 x4 x5 x6 x7 x8 x9) := by
 unfold scarfjointref11_Valid.f scarfjointref06_Valid.f giv
 simp only [Option.bind_some]
 split <;> rfl
theorem gof_l1 (P Q : List S79) (n : List Int) (hP : P.length ≤ 1000000) (hQ : Q.length ≤ 1000000) (hin : ∀ q ∈ Q, 0 ≤ q.f0 ∧ q.f0 < (x1.length : Int) ∧ 0 ≤ q.f1 ∧ q.f1 < (x3.length : Int)) : ∀ (r pre : List S79) (acc : List S94), Q = pre ++ r → acc.length = pre.length →
  Ev (fun k => pullback_of.l1 k Q (Q.length : Int) (pre.length : Int) x0 x1 x2 x3 x4 x5 x6 x7 x8 x9 P Q n acc) (P, Q, n, acc ++ r.map (edg x1 x3 P), 0) := by
 intro r
 induction r with
 | nil =>
  rintro pre acc hp ha
  refine Ev.step (fun k => by simp only [pullback_of.l1]; rw [if_neg (by rw [hp]; simp)]) ?_
  simpa using Ev.now (P, Q, n, acc, (0 : Int))
 | cons q r ih =>
  rintro pre acc hp ha
  have hl : (pre.length : Int) < (Q.length : Int) := by rw [hp]; exact lt_mid pre q r
  have hrd : rd_T79 Q (pre.length : Int) = q := by rw [hp]; exact rd79_mid pre q r
  have e : wrap64 ((pre.length : Int) + 1) = ((pre ++ [q]).length : Int) := wrap_mid pre q r (by rw [← hp]; omega)
  obtain ⟨g1, g2, g3, g4⟩ := hin q (by rw [hp]; simp)
  have ih' := ih (pre ++ [q]) (acc ++ [edg x1 x3 P q]) (by rw [hp]; exact snoc_mid pre q r) (by simp [ha])
  refine Ev.step (fun k => by simp only [pullback_of.l1]; rw [if_pos hl, if_pos (by omega), if_pos hl, hrd, if_pos g1, if_pos g2, if_pos g3, if_pos g4]) ?_
  refine Ev.bind (index_ev P _ _ (by omega)) (Ev.bind (index_ev P _ _ (by omega)) ?_)
  simp only [if_pos (show acc.length < 5864062014805 by omega), e]
  simpa [edg] using ih'
theorem gof_l0 (P Q : List S79) (hP : P.length ≤ 1000000) (hQ : Q.length ≤ 1000000) (hin' : ∀ p ∈ P, 0 ≤ p.f0 ∧ p.f0 < (x0.length : Int)) (hin : ∀ q ∈ Q, 0 ≤ q.f0 ∧ q.f0 < (x1.length : Int) ∧ 0 ≤ q.f1 ∧ q.f1 < (x3.length : Int)) : ∀ (r pre : List S79) (acc : List Int), P = pre ++ r → acc.length = pre.length →
  Ev (fun k => pullback_of.l0 k P (P.length : Int) (pre.length : Int) x0 x1 x2 x3 x4 x5 x6 x7 x8 x9 P Q acc) (P, Q, acc ++ r.map (fun p => rd x0 p.f0), Q.map (edg x1 x3 P), 0) := by
 intro r
 induction r with
 | nil =>
  rintro pre acc hp ha
  refine Ev.step (fun k => by simp only [pullback_of.l0]; rw [if_neg (by rw [hp]; simp)]) ?_
  simpa using gof_l1 x0 x1 x2 x3 x4 x5 x6 x7 x8 x9 P Q acc hP hQ hin Q [] [] rfl rfl
 | cons q r ih =>
  rintro pre acc hp ha
  have hl : (pre.length : Int) < (P.length : Int) := by rw [hp]; exact lt_mid pre q r
  have hrd : rd_T79 P (pre.length : Int) = q := by rw [hp]; exact rd79_mid pre q r
  have e : wrap64 ((pre.length : Int) + 1) = ((pre ++ [q]).length : Int) := wrap_mid pre q r (by rw [← hp]; omega)
  obtain ⟨g1, g2⟩ := hin' q (by rw [hp]; simp)
  have ih' := ih (pre ++ [q]) (acc ++ [rd x0 q.f0]) (by rw [hp]; exact snoc_mid pre q r) (by simp [ha])
  refine Ev.step (fun k => by simp only [pullback_of.l0]; rw [if_pos hl, if_pos (by omega), if_pos hl, hrd, if_pos g1, if_pos g2, if_pos (by omega), e]) ?_
  simpa using ih'
theorem giv_len (h : giv x0 x1 x2 x3 x4 x5 x6 x7 x8 x9 = 0) : mvalid x0 x1 x4 x5 x6 x7 = 0 ∧ mvalid x2 x3 x4 x5 x8 x9 = 0 := by
 unfold giv at h
 split at h
 ·rename_i h1
  exact ⟨h1, h⟩
 ·rename_i h1
  exact absurd h h1
theorem gof_ev : Ev (fun k => pullback_of.f k x0 x1 x2 x3 x4 x5 x6 x7 x8 x9) (ofR x0 x1 x2 x3 x4 x5 x6 x7 x8 x9) := by
 unfold pullback_of.f ofR
 rw [given_eq]
 simp only [Option.bind_some]
 by_cases h : giv x0 x1 x2 x3 x4 x5 x6 x7 x8 x9 = 0
 ·simp only [if_pos h]
  obtain ⟨m1, m2⟩ := giv_len _ _ _ _ _ _ _ _ _ _ h
  obtain ⟨v1, -, b1, b2, -⟩ := mvalid_iff.mp m1
  obtain ⟨v2, -, c1, c2, -⟩ := mvalid_iff.mp m2
  obtain ⟨l1, l2, -⟩ := okE_of v1
  obtain ⟨l3, l4, -⟩ := okE_of v2
  refine Ev.bind (pairs_ev x6 x8 (by omega) (by omega)) (Ev.bind (pairs_ev x7 x9 (by omega) (by omega)) ?_)
  by_cases h1 : (rows x8 0 x6).length > 40
  ·rw [if_pos (.inl h1)]
   simp only [if_pos (show ((rows x8 0 x6).length : Int) > 40 by omega)]
   exact Ev.step (fun k => by simp only [pullback_of.j0, if_true]) (Ev.now _)
  ·simp only [if_neg (show ¬ ((rows x8 0 x6).length : Int) > 40 by omega)]
   by_cases h2 : (rows x9 0 x7).length > 80
   ·rw [if_pos (.inr h2)]
    refine Ev.step (fun k => by simp only [pullback_of.j0]; rw [if_pos (by simp; omega)]) (Ev.now _)
   ·rw [if_neg (by omega)]
    refine Ev.step (fun k => by simp only [pullback_of.j0]; rw [if_neg (by simp; omega)]) ?_
    simpa using gof_l0 x0 x1 x2 x3 x4 x5 x6 x7 x8 x9 (rows x8 0 x6) (rows x9 0 x7) (by omega) (by omega) (fun p hp => by have := rows_mem.mp hp; omega) (fun q hq => by have := rows_mem.mp hq; omega) (rows x8 0 x6) [] [] rfl rfl
 ·simp only [if_neg h]
  exact Ev.now _
def OfR : List Int × List S94 × List Int × List Int × List Int × List Int × Int :=
 if (ofR x0 x1 x2 x3 x4 x5 x6 x7 x8 x9).2.2.2.2 = 0 then ((ofR x0 x1 x2 x3 x4 x5 x6 x7 x8 x9).2.2.1, (ofR x0 x1 x2 x3 x4 x5 x6 x7 x8 x9).2.2.2.1, (ofR x0 x1 x2 x3 x4 x5 x6 x7 x8 x9).1.map S79.f0, (ofR x0 x1 x2 x3 x4 x5 x6 x7 x8 x9).2.1.map S79.f0, (ofR x0 x1 x2 x3 x4 x5 x6 x7 x8 x9).1.map S79.f1, (ofR x0 x1 x2 x3 x4 x5 x6 x7 x8 x9).2.1.map S79.f1, 0)
 else ([], [], [], [], [], [], (ofR x0 x1 x2 x3 x4 x5 x6 x7 x8 x9).2.2.2.2)
theorem ofR_len : (ofR x0 x1 x2 x3 x4 x5 x6 x7 x8 x9).1.length ≤ 40 ∧ (ofR x0 x1 x2 x3 x4 x5 x6 x7 x8 x9).2.1.length ≤ 80 ∧ (ofR x0 x1 x2 x3 x4 x5 x6 x7 x8 x9).2.2.1.length ≤ 40 ∧ (ofR x0 x1 x2 x3 x4 x5 x6 x7 x8 x9).2.2.2.1.length ≤ 80 := by
 unfold ofR
 split
 ·split
  ·exact ⟨by simp, by simp, by simp, by simp⟩
  ·refine ⟨?_, ?_, ?_, ?_⟩ <;> (try simp only [List.length_map]) <;> omega
 ·exact ⟨by simp, by simp, by simp, by simp⟩
theorem gOf_ev : Ev (fun k => pullback_Of.f k x0 x1 x2 x3 x4 x5 x6 x7 x8 x9) (OfR x0 x1 x2 x3 x4 x5 x6 x7 x8 x9) := by
 unfold pullback_Of.f OfR
 refine Ev.bind (gof_ev x0 x1 x2 x3 x4 x5 x6 x7 x8 x9) ?_
 obtain ⟨l1, l2, -⟩ := ofR_len x0 x1 x2 x3 x4 x5 x6 x7 x8 x9
 by_cases h : (ofR x0 x1 x2 x3 x4 x5 x6 x7 x8 x9).2.2.2.2 = 0
 ·simp only [if_pos h]
  exact Ev.bind (gsides_ev _ (by omega)) (Ev.bind (gsides_ev _ (by omega)) (Ev.now _))
 ·simp only [if_neg h]
  exact Ev.now _
theorem rof_l1 (P Q : List S79) (n : List Int) (hP : P.length ≤ 1000000) (hQ : Q.length ≤ 1000000) (hin : ∀ q ∈ Q, 0 ≤ q.f0 ∧ q.f0 < (x1.length : Int) ∧ 0 ≤ q.f1 ∧ q.f1 < (x3.length : Int)) : ∀ (r pre : List S79) (acc : List S94), Q = pre ++ r → acc.length = pre.length →
  Ev (fun k => scarfjointref11_Of.l1 k P Q (pre.length : Int) x0 x1 x2 x3 x4 x5 x6 x7 x8 x9 n acc) (n, acc ++ r.map (edg x1 x3 P), P.map S79.f0, Q.map S79.f0, P.map S79.f1, Q.map S79.f1, 0) := by
 intro r
 induction r with
 | nil =>
  rintro pre acc hp ha
  refine Ev.step (fun k => by simp only [scarfjointref11_Of.l1]; rw [if_neg (by rw [hp]; simp)]) ?_
  refine Ev.bind (rsides_ev P hP) (Ev.bind (rsides_ev Q hQ) ?_)
  simpa using Ev.now (n, acc, P.map S79.f0, Q.map S79.f0, P.map S79.f1, Q.map S79.f1, (0 : Int))
 | cons q r ih =>
  rintro pre acc hp ha
  have hl : (pre.length : Int) < (Q.length : Int) := by rw [hp]; exact lt_mid pre q r
  have hrd : rd_T79 Q (pre.length : Int) = q := by rw [hp]; exact rd79_mid pre q r
  have e : wrap64 ((pre.length : Int) + 1) = ((pre ++ [q]).length : Int) := wrap_mid pre q r (by rw [← hp]; omega)
  obtain ⟨g1, g2, g3, g4⟩ := hin q (by rw [hp]; simp)
  have ih' := ih (pre ++ [q]) (acc ++ [edg x1 x3 P q]) (by rw [hp]; exact snoc_mid pre q r) (by simp [ha])
  refine Ev.step (fun k => by simp only [scarfjointref11_Of.l1]; rw [if_pos hl, if_pos (by omega), hrd, if_pos g1, if_pos g2, if_pos g3, if_pos g4]) ?_
  refine Ev.bind (place_ev P _ _ (by omega)) (Ev.bind (place_ev P _ _ (by omega)) ?_)
  simp only [if_pos (show acc.length < 5864062014805 by omega), e]
  simpa [edg] using ih'
theorem rof_l0 (P Q : List S79) (hP : P.length ≤ 1000000) (hQ : Q.length ≤ 1000000) (hin' : ∀ p ∈ P, 0 ≤ p.f0 ∧ p.f0 < (x0.length : Int)) (hin : ∀ q ∈ Q, 0 ≤ q.f0 ∧ q.f0 < (x1.length : Int) ∧ 0 ≤ q.f1 ∧ q.f1 < (x3.length : Int)) : ∀ (r pre : List S79) (acc : List Int), P = pre ++ r → acc.length = pre.length →
  Ev (fun k => scarfjointref11_Of.l0 k P Q (pre.length : Int) x0 x1 x2 x3 x4 x5 x6 x7 x8 x9 acc) (acc ++ r.map (fun p => rd x0 p.f0), Q.map (edg x1 x3 P), P.map S79.f0, Q.map S79.f0, P.map S79.f1, Q.map S79.f1, 0) := by
 intro r
 induction r with
 | nil =>
  rintro pre acc hp ha
  refine Ev.step (fun k => by simp only [scarfjointref11_Of.l0]; rw [if_neg (by rw [hp]; simp)]) ?_
  simpa using rof_l1 x0 x1 x2 x3 x4 x5 x6 x7 x8 x9 P Q acc hP hQ hin Q [] [] rfl rfl
 | cons q r ih =>
  rintro pre acc hp ha
  have hl : (pre.length : Int) < (P.length : Int) := by rw [hp]; exact lt_mid pre q r
  have hrd : rd_T79 P (pre.length : Int) = q := by rw [hp]; exact rd79_mid pre q r
  have e : wrap64 ((pre.length : Int) + 1) = ((pre ++ [q]).length : Int) := wrap_mid pre q r (by rw [← hp]; omega)
  obtain ⟨g1, g2⟩ := hin' q (by rw [hp]; simp)
  have ih' := ih (pre ++ [q]) (acc ++ [rd x0 q.f0]) (by rw [hp]; exact snoc_mid pre q r) (by simp [ha])
  refine Ev.step (fun k => by simp only [scarfjointref11_Of.l0]; rw [if_pos hl, if_pos (by omega), hrd, if_pos g1, if_pos g2, if_pos (by omega), e]) ?_
  simpa using ih'
theorem rOf_ev : Ev (fun k => scarfjointref11_Of.f k x0 x1 x2 x3 x4 x5 x6 x7 x8 x9) (OfR x0 x1 x2 x3 x4 x5 x6 x7 x8 x9) := by
 unfold scarfjointref11_Of.f OfR
 rw [rgiven_eq]
 simp only [Option.bind_some]
 by_cases h : giv x0 x1 x2 x3 x4 x5 x6 x7 x8 x9 = 0
 ·simp only [if_pos h]
  obtain ⟨m1, m2⟩ := giv_len _ _ _ _ _ _ _ _ _ _ h
  obtain ⟨v1, -, b1, b2, -⟩ := mvalid_iff.mp m1
  obtain ⟨v2, -, c1, c2, -⟩ := mvalid_iff.mp m2
  obtain ⟨l1, l2, -⟩ := okE_of v1
  obtain ⟨l3, l4, -⟩ := okE_of v2
  refine Ev.bind (rpairs_ev x6 x8 40 (by omega) (by omega) (by omega)) (Ev.bind (rpairs_ev x7 x9 80 (by omega) (by omega) (by omega)) ?_)
  by_cases h1 : (rows x8 0 x6).length > 40
  ·have e : ofR x0 x1 x2 x3 x4 x5 x6 x7 x8 x9 = ([], [], [], [], 3) := by unfold ofR; rw [if_pos h, if_pos (.inl h1)]
   rw [e]
   simp only [if_neg (show ¬ (3 : Int) = 0 by decide), if_pos (show (((rows x8 0 x6).take (40 + 1)).length : Int) > 40 by rw [List.length_take]; omega)]
   exact Ev.step (fun k => by simp only [scarfjointref11_Of.j0, if_true]) (Ev.now _)
  ·rw [List.take_of_length_le (show (rows x8 0 x6).length ≤ 40 + 1 by omega)]
   simp only [if_neg (show ¬ ((rows x8 0 x6).length : Int) > 40 by omega)]
   by_cases h2 : (rows x9 0 x7).length > 80
   ·have e : ofR x0 x1 x2 x3 x4 x5 x6 x7 x8 x9 = ([], [], [], [], 3) := by unfold ofR; rw [if_pos h, if_pos (.inr h2)]
    rw [e]
    simp only [if_neg (show ¬ (3 : Int) = 0 by decide)]
    refine Ev.step (fun k => by simp only [scarfjointref11_Of.j0]; rw [if_pos (by simp; omega)]) (Ev.now _)
   ·have e : ofR x0 x1 x2 x3 x4 x5 x6 x7 x8 x9 = (rows x8 0 x6, rows x9 0 x7, (rows x8 0 x6).map (fun p => rd x0 p.f0), (rows x9 0 x7).map (edg x1 x3 (rows x8 0 x6)), 0) := by unfold ofR; rw [if_pos h, if_neg (by omega)]
    rw [e, List.take_of_length_le (show (rows x9 0 x7).length ≤ 80 + 1 by omega)]
    simp only [if_true]
    refine Ev.step (fun k => by simp only [scarfjointref11_Of.j0]; rw [if_neg (by simp; omega)]) ?_
    simpa using rof_l0 x0 x1 x2 x3 x4 x5 x6 x7 x8 x9 (rows x8 0 x6) (rows x9 0 x7) (by omega) (by omega) (fun p hp => by have := rows_mem.mp hp; omega) (fun q hq => by have := rows_mem.mp hq; omega) (rows x8 0 x6) [] [] rfl rfl
 ·have e : ofR x0 x1 x2 x3 x4 x5 x6 x7 x8 x9 = ([], [], [], [], giv x0 x1 x2 x3 x4 x5 x6 x7 x8 x9) := by unfold ofR; rw [if_neg h]
  rw [e]
  simp only [if_neg h]
  exact Ev.now _
end
theorem mvalid_len {a0 : List Int} {a1 : List S94} {b0 : List Int} {b1 : List S94} {n m : List Int} (h : mvalid a0 a1 b0 b1 n m = 0) : validE a0 a1 = 0 ∧ validE b0 b1 = 0 ∧ n.length = a0.length ∧ m.length = a1.length ∧ n.length ≤ 40 ∧ m.length ≤ 80 := by
 unfold mvalid at h
 split at h
 ·rename_i h1
  split at h
  ·rename_i h2
   split at h
   ·exact absurd h (by decide)
   ·rename_i h3
    obtain ⟨g1, g2, -⟩ := okE_of h1
    refine ⟨h1, h2, ?_, ?_, ?_, ?_⟩ <;> omega
  ·rename_i h2
   exact absurd h h2
 ·rename_i h1
  exact absurd h h1
theorem sorted_perm (l : List Int) : (sorted l).Perm l := List.mergeSort_perm l _
theorem nd_nodup {l : List Int} (h : l.Nodup) : nd l = (l.length : Int) := by
 have hn : (sorted l).Nodup := (sorted_perm l).nodup_iff.mpr h
 have hl : (sorted l).length = l.length := (sorted_perm l).length_eq
 unfold nd
 rw [Lib.compact_all, hl]
 intro j hj
 cases j with
 | zero => exact Lib.keeps_lt_one _ 0 (by omega)
 | succ j =>
  refine Lib.keeps_pos (fun e => ?_)
  have e' : (sorted l)[j + 1] = (sorted l)[j]'(by omega) := by
   have h1 : (sorted l).toArray[j + 1]! = (sorted l)[j + 1] := by simp [hj]
   have h2 : (sorted l).toArray[j + 1 - 1]! = (sorted l)[j]'(by omega) := by simp [show j < (sorted l).length by omega]
   rw [← h1, ← h2]
   exact e
  exact List.pairwise_iff_getElem.mp hn j (j + 1) (by omega) hj (by omega) e'.symm
def meets (P : List S79) : List Int → List Int → Option (List Int)
 | a :: h, b :: k => if plc 0 P a b < 0 then none else (meets P h k).map (plc 0 P a b :: ·)
 | _, _ => some []
theorem meet_l0 (P : List S79) (hP : P.length ≤ 1000000) (h m : List Int) (hl : h.length ≤ 1000000) : ∀ (r pre s pre' acc : List Int), h = pre ++ r → m = pre' ++ s → pre.length = pre'.length → r.length = s.length → acc.length = pre.length →
  Ev (fun k => pullback_meet.l0 k P h m acc (h.length : Int) (pre.length : Int)) (match meets P r s with | some l => (acc ++ l, true) | none => ([], false)) := by
 intro r
 induction r with
 | nil =>
  rintro pre s pre' acc rfl rfl h1 h2 h3
  refine Ev.step (fun k => by simp only [pullback_meet.l0]; rw [if_neg (by simp)]) ?_
  simpa [meets] using Ev.now (acc, true)
 | cons x r ih =>
  rintro pre s pre' acc rfl rfl h1 h2 h3
  cases s with
  | nil => simp at h2
  | cons y s =>
   simp at hl
   have e : wrap64 ((pre.length : Int) + 1) = ((pre ++ [x]).length : Int) := wrap_mid pre x r (by simp; omega)
   refine Ev.step (fun k => by simp only [pullback_meet.l0]; rw [if_pos (lt_mid pre x r), if_pos (by omega), if_pos (lt_mid pre x r), if_pos (lt_mid' pre' y s h1), rd_mid, rd_mid' _ _ _ h1]) ?_
   refine Ev.bind (index_ev P _ _ (by omega)) ?_
   rw [meets]
   by_cases hc : plc 0 P x y < 0
   ·simp only [if_pos hc]
    exact Ev.now _
   ·simp only [if_neg hc, if_pos (show acc.length < 17592186044416 by omega), e]
    have ih' := ih (pre ++ [x]) s (pre' ++ [y]) (acc ++ [plc 0 P x y]) (snoc_mid pre x r) (snoc_mid pre' y s) (by simp [h1]) (by simpa using h2) (by simp [h3])
    cases hm : meets P r s with
    | none => rw [hm] at ih'; exact ih'
    | some l => rw [hm] at ih'; simpa using ih'
theorem meet_ev (P : List S79) (hP : P.length ≤ 1000000) (h m : List Int) (hl : h.length ≤ 1000000) (e : h.length = m.length) : Ev (fun k => pullback_meet.f k P h m) (match meets P h m with | some l => (l, true) | none => ([], false)) := by
 unfold pullback_meet.f
 simpa using meet_l0 P hP h m hl h [] m [] [] rfl rfl rfl e rfl
section
variable (x0 : List Int) (x1 : List S94) (x2 : List Int) (x3 : List S94) (x4 : List Int) (x5 : List S94) (x6 x7 x8 x9 : List Int) (y0 : List Int) (y1 : List S94) (h0 h1 k0 k1 : List Int)
def fine (P Q : List S79) (h0 h1 k0 k1 : List Int) : List Int × List Int × Int :=
 match meets P h0 k0, meets Q h1 k1 with
 | some a, some b => (a, b, 0)
 | _, _ => ([], [], 11)
def medR : List Int × List Int × Int :=
 if (ofR x0 x1 x2 x3 x4 x5 x6 x7 x8 x9).2.2.2.2 = 0 then (if mvalid y0 y1 x0 x1 h0 h1 = 0 then (if mvalid y0 y1 x2 x3 k0 k1 = 0 then fine (ofR x0 x1 x2 x3 x4 x5 x6 x7 x8 x9).1 (ofR x0 x1 x2 x3 x4 x5 x6 x7 x8 x9).2.1 h0 h1 k0 k1 else ([], [], mvalid y0 y1 x2 x3 k0 k1)) else ([], [], mvalid y0 y1 x0 x1 h0 h1))
 else ([], [], (ofR x0 x1 x2 x3 x4 x5 x6 x7 x8 x9).2.2.2.2)
theorem gmed_ev : Ev (fun k => medF k x0 x1 x2 x3 x4 x5 x6 x7 x8 x9 y0 y1 h0 h1 k0 k1) (medR x0 x1 x2 x3 x4 x5 x6 x7 x8 x9 y0 y1 h0 h1 k0 k1) := by
 unfold medF medR
 refine Ev.bind (gof_ev x0 x1 x2 x3 x4 x5 x6 x7 x8 x9) ?_
 obtain ⟨l1, l2, -⟩ := ofR_len x0 x1 x2 x3 x4 x5 x6 x7 x8 x9
 by_cases h : (ofR x0 x1 x2 x3 x4 x5 x6 x7 x8 x9).2.2.2.2 = 0
 ·simp only [if_pos h]
  by_cases hv : mvalid y0 y1 x0 x1 h0 h1 = 0
  ·simp only [if_pos hv]
   by_cases hu : mvalid y0 y1 x2 x3 k0 k1 = 0
   ·simp only [if_pos hu]
    obtain ⟨-, -, a1, a2, a3, a4⟩ := mvalid_len hv
    obtain ⟨-, -, b1, b2, -, -⟩ := mvalid_len hu
    refine Ev.bind (meet_ev _ (by omega) h0 k0 (by omega) (by omega)) (Ev.bind (meet_ev _ (by omega) h1 k1 (by omega) (by omega)) ?_)
    unfold fine
    cases meets (ofR x0 x1 x2 x3 x4 x5 x6 x7 x8 x9).1 h0 k0 with
    | none => exact Ev.now _
    | some a =>
     cases meets (ofR x0 x1 x2 x3 x4 x5 x6 x7 x8 x9).2.1 h1 k1 with
     | none => exact Ev.now _
     | some b => exact Ev.now _
   ·simp only [if_neg hu]
    exact Ev.now _
  ·simp only [if_neg hv]
   exact Ev.now _
 ·simp only [if_neg h]
  exact Ev.now _
end
/-! the mediating morphism of the standard pullback itself -/
def iota : Nat → Nat → List Int
 | _, 0 => []
 | i, n + 1 => (i : Int) :: iota (i + 1) n
theorem iota_len : ∀ (n i : Nat), (iota i n).length = n := by
 intro n
 induction n with
 | zero => intro i; rfl
 | succ n ih => intro i; simp [iota, ih]
theorem iota_rd : ∀ (n i j : Nat), j < n → rd (iota i n) (j : Int) = ((i + j : Nat) : Int) := by
 intro n
 induction n with
 | zero => intro i j h; omega
 | succ n ih =>
  intro i j h
  cases j with
  | zero =>
   show rd ((i : Int) :: iota (i + 1) n) ((0 : Nat) : Int) = _
   rw [rd_cons_zero]
   simp
  | succ j =>
   rw [iota, rd_cons_succ, ih (i + 1) j (by omega)]
   omega
theorem iota_mem : ∀ (n i : Nat) (x : Int), x ∈ iota i n → (i : Int) ≤ x := by
 intro n
 induction n with
 | zero => intro i x h; simp [iota] at h
 | succ n ih =>
  intro i x h
  rw [iota] at h
  rcases List.mem_cons.mp h with rfl | h
  ·omega
  ·have := ih (i + 1) x h
   omega
theorem iota_nodup : ∀ (n i : Nat), (iota i n).Nodup := by
 intro n
 induction n with
 | zero => intro i; simp [iota]
 | succ n ih =>
  intro i
  rw [iota, List.nodup_cons]
  refine ⟨fun h => ?_, ih _⟩
  have := iota_mem n (i + 1) _ h
  omega
theorem meets_self {P : List S79} (hd : P.Nodup) : ∀ (r pre : List S79), P = pre ++ r → meets P (r.map S79.f0) (r.map S79.f1) = some (iota pre.length r.length) := by
 intro r
 induction r with
 | nil => intro pre h; rfl
 | cons p r ih =>
  intro pre h
  have hj : pre.length < P.length := by rw [h]; simp
  have hp : rd_T79 P (pre.length : Int) = p := by rw [h]; exact rd79_mid pre p r
  have e := plc_self hd pre.length hj
  rw [hp] at e
  have ih' := ih (pre ++ [p]) (by rw [h]; exact snoc_mid pre p r)
  rw [List.map_cons, List.map_cons, meets, e, if_neg (by omega), ih', List.length_cons, iota]
  simp
theorem rd_map79 (f : S79 → Int) (P : List S79) (i : Int) (h0 : 0 ≤ i) (h1 : i < (P.length : Int)) : rd (P.map f) i = f (rd_T79 P i) := by
 obtain ⟨j, rfl⟩ : ∃ j : Nat, i = (j : Int) := ⟨i.toNat, by omega⟩
 rw [rd_get _ _ (by rw [List.length_map]; omega), rd79_get _ _ (by omega), List.getElem_map]
theorem rd_map94 (f : S79 → S94) (P : List S79) (i : Int) (h0 : 0 ≤ i) (h1 : i < (P.length : Int)) : rd_T94 (P.map f) i = f (rd_T79 P i) := by
 obtain ⟨j, rfl⟩ : ∃ j : Nat, i = (j : Int) := ⟨i.toNat, by omega⟩
 rw [rd94_get _ _ (by rw [List.length_map]; omega), rd79_get _ _ (by omega), List.getElem_map]
theorem rd79_mem (P : List S79) (i : Int) (h0 : 0 ≤ i) (h1 : i < (P.length : Int)) : rd_T79 P i ∈ P := by
 obtain ⟨j, rfl⟩ : ∃ j : Nat, i = (j : Int) := ⟨i.toNat, by omega⟩
 rw [rd79_get _ _ (by omega)]
 exact List.getElem_mem _
theorem rd94_mem (P : List S94) (i : Int) (h0 : 0 ≤ i) (h1 : i < (P.length : Int)) : rd_T94 P i ∈ P := by
 obtain ⟨j, rfl⟩ : ∃ j : Nat, i = (j : Int) := ⟨i.toNat, by omega⟩
 rw [rd94_get _ _ (by omega)]
 exact List.getElem_mem _
theorem rd_mem (P : List Int) (i : Int) (h0 : 0 ≤ i) (h1 : i < (P.length : Int)) : rd P i ∈ P := by
 obtain ⟨j, rfl⟩ : ∃ j : Nat, i = (j : Int) := ⟨i.toNat, by omega⟩
 rw [rd_get _ _ (by omega)]
 exact List.getElem_mem _
theorem edge_facts {a0 : List Int} {a1 : List S94} (h : validE a0 a1 = 0) (i : Int) (h0 : 0 ≤ i) (h1 : i < (a1.length : Int)) : kindB (rd_T94 a1 i).f0 = true ∧ 0 ≤ (rd_T94 a1 i).f1 ∧ (rd_T94 a1 i).f1 < (a0.length : Int) ∧ 0 ≤ (rd_T94 a1 i).f2 ∧ (rd_T94 a1 i).f2 < (a0.length : Int) := by
 obtain ⟨-, -, -, he⟩ := validE_iff.mp h
 have := he _ (rd94_mem a1 i h0 h1)
 unfold edgeB at this
 simp only [Bool.and_eq_true, decide_eq_true_eq] at this
 exact ⟨this.1, this.2.1.1, this.2.1.2, this.2.2.1, this.2.2.2⟩
theorem okN_int {a0 b0 n : List Int} (h : okN a0 b0 n) (i : Int) (h0 : 0 ≤ i) (h1 : i < (n.length : Int)) : 0 ≤ rd n i ∧ rd n i < (b0.length : Int) ∧ rd b0 (rd n i) = rd a0 i := by
 obtain ⟨j, rfl⟩ : ∃ j : Nat, i = (j : Int) := ⟨i.toNat, by omega⟩
 exact h j (by omega)
theorem okM_int {a1 b1 : List S94} {n m : List Int} (h : okM a1 b1 n m) (i : Int) (h0 : 0 ≤ i) (h1 : i < (m.length : Int)) : 0 ≤ rd m i ∧ rd m i < (b1.length : Int) ∧ (rd_T94 a1 i).f0 = (rd_T94 b1 (rd m i)).f0 ∧ rd n (rd_T94 a1 i).f1 = (rd_T94 b1 (rd m i)).f1 ∧ rd n (rd_T94 a1 i).f2 = (rd_T94 b1 (rd m i)).f2 := by
 obtain ⟨j, rfl⟩ : ∃ j : Nat, i = (j : Int) := ⟨i.toNat, by omega⟩
 exact h j (by omega)
section
variable {x0 : List Int} {x1 : List S94} {x2 : List Int} {x3 : List S94} {x4 : List Int} {x5 : List S94} {x6 x7 x8 x9 : List Int}
theorem ends_mem (m1 : mvalid x0 x1 x4 x5 x6 x7 = 0) (m2 : mvalid x2 x3 x4 x5 x8 x9 = 0) {q : S79} (hq : q ∈ rows x9 0 x7) :
  (⟨(rd_T94 x1 q.f0).f1, (rd_T94 x3 q.f1).f1⟩ : S79) ∈ rows x8 0 x6 ∧ (⟨(rd_T94 x1 q.f0).f2, (rd_T94 x3 q.f1).f2⟩ : S79) ∈ rows x8 0 x6 ∧ (rd_T94 x1 q.f0).f0 = (rd_T94 x3 q.f1).f0 ∧ 0 ≤ q.f0 ∧ q.f0 < (x1.length : Int) ∧ 0 ≤ q.f1 ∧ q.f1 < (x3.length : Int) := by
 obtain ⟨v1, v4, a1, a2, a3, a4⟩ := mvalid_iff.mp m1
 obtain ⟨v2, -, b1, b2, b3, b4⟩ := mvalid_iff.mp m2
 obtain ⟨c1, c2, c3, c4, c5⟩ := rows_mem.mp hq
 obtain ⟨-, -, d1, d2, d3⟩ := okM_int a4 q.f0 c1 c2
 obtain ⟨-, -, e1, e2, e3⟩ := okM_int b4 q.f1 c3 c4
 rw [← c5] at e1 e2 e3
 obtain ⟨-, f1, f2, f3, f4⟩ := edge_facts v1 q.f0 c1 (by omega)
 obtain ⟨-, g1, g2, g3, g4⟩ := edge_facts v2 q.f1 c3 (by omega)
 refine ⟨rows_mem.mpr ⟨f1, ?_, g1, ?_, ?_⟩, rows_mem.mpr ⟨f3, ?_, g3, ?_, ?_⟩, by rw [d1, e1], c1, by omega, c3, by omega⟩
 ·show (rd_T94 x1 q.f0).f1 < _; omega
 ·show (rd_T94 x3 q.f1).f1 < _; omega
 ·show rd x6 (rd_T94 x1 q.f0).f1 = rd x8 (rd_T94 x3 q.f1).f1; rw [d2, e2]
 ·show (rd_T94 x1 q.f0).f2 < _; omega
 ·show (rd_T94 x3 q.f1).f2 < _; omega
 ·show rd x6 (rd_T94 x1 q.f0).f2 = rd x8 (rd_T94 x3 q.f1).f2; rw [d3, e3]
theorem pb_validE (m1 : mvalid x0 x1 x4 x5 x6 x7 = 0) (m2 : mvalid x2 x3 x4 x5 x8 x9 = 0) (hP : (rows x8 0 x6).length ≤ 40) (hQ : (rows x9 0 x7).length ≤ 80) :
  validE ((rows x8 0 x6).map (fun p => rd x0 p.f0)) ((rows x9 0 x7).map (edg x1 x3 (rows x8 0 x6))) = 0 := by
 obtain ⟨v1, v4, a1, a2, a3, a4⟩ := mvalid_iff.mp m1
 obtain ⟨-, -, kx, -⟩ := validE_iff.mp v1
 refine validE_iff.mpr ⟨by rw [List.length_map]; exact hP, by rw [List.length_map]; exact hQ, fun t ht => ?_, fun e he => ?_⟩
 ·obtain ⟨p, hp, rfl⟩ := List.mem_map.mp ht
  obtain ⟨c1, c2, -⟩ := rows_mem.mp hp
  exact kx _ (rd_mem x0 p.f0 c1 (by omega))
 ·obtain ⟨q, hq, rfl⟩ := List.mem_map.mp he
  obtain ⟨e1, e2, -, e3, e4, -⟩ := ends_mem m1 m2 hq
  obtain ⟨f0, -⟩ := edge_facts v1 q.f0 e3 e4
  obtain ⟨g1, g2, -⟩ := plc_mem e1
  obtain ⟨g3, g4, -⟩ := plc_mem e2
  unfold edgeB edg
  simp only [List.length_map, Bool.and_eq_true, decide_eq_true_eq]
  exact ⟨f0, ⟨g1, g2⟩, g3, g4⟩
theorem pb_left (m1 : mvalid x0 x1 x4 x5 x6 x7 = 0) (m2 : mvalid x2 x3 x4 x5 x8 x9 = 0) (hP : (rows x8 0 x6).length ≤ 40) (hQ : (rows x9 0 x7).length ≤ 80) :
  mvalid ((rows x8 0 x6).map (fun p => rd x0 p.f0)) ((rows x9 0 x7).map (edg x1 x3 (rows x8 0 x6))) x0 x1 ((rows x8 0 x6).map S79.f0) ((rows x9 0 x7).map S79.f0) = 0 := by
 obtain ⟨v1, v4, a1, a2, a3, a4⟩ := mvalid_iff.mp m1
 refine mvalid_iff.mpr ⟨pb_validE m1 m2 hP hQ, v1, by simp, by simp, fun j hj => ?_, fun j hj => ?_⟩
 ·rw [List.length_map] at hj
  rw [rd_map79 _ _ _ (by omega) (by omega), rd_map79 _ _ _ (by omega) (by omega)]
  obtain ⟨c1, c2, -⟩ := rows_mem.mp (rd79_mem (rows x8 0 x6) j (by omega) (by omega))
  exact ⟨c1, by omega, rfl⟩
 ·rw [List.length_map] at hj
  obtain ⟨e1, e2, -, e3, e4, -⟩ := ends_mem m1 m2 (rd79_mem (rows x9 0 x7) j (by omega) (by omega))
  obtain ⟨g1, g2, g5, -⟩ := plc_mem e1
  obtain ⟨g3, g4, g6, -⟩ := plc_mem e2
  rw [rd_map79 _ (rows x9 0 x7) _ (by omega) (by omega), rd_map94 _ _ _ (by omega) (by omega)]
  unfold edg
  refine ⟨e3, e4, rfl, ?_, ?_⟩
  ·rw [rd_map79 _ _ _ g1 g2, g5]
  ·rw [rd_map79 _ _ _ g3 g4, g6]
theorem pb_right (m1 : mvalid x0 x1 x4 x5 x6 x7 = 0) (m2 : mvalid x2 x3 x4 x5 x8 x9 = 0) (hP : (rows x8 0 x6).length ≤ 40) (hQ : (rows x9 0 x7).length ≤ 80) :
  mvalid ((rows x8 0 x6).map (fun p => rd x0 p.f0)) ((rows x9 0 x7).map (edg x1 x3 (rows x8 0 x6))) x2 x3 ((rows x8 0 x6).map S79.f1) ((rows x9 0 x7).map S79.f1) = 0 := by
 obtain ⟨v1, v4, a1, a2, a3, a4⟩ := mvalid_iff.mp m1
 obtain ⟨v2, -, b1, b2, b3, b4⟩ := mvalid_iff.mp m2
 refine mvalid_iff.mpr ⟨pb_validE m1 m2 hP hQ, v2, by simp, by simp, fun j hj => ?_, fun j hj => ?_⟩
 ·rw [List.length_map] at hj
  rw [rd_map79 _ _ _ (by omega) (by omega), rd_map79 _ _ _ (by omega) (by omega)]
  obtain ⟨c1, c2, c3, c4, c5⟩ := rows_mem.mp (rd79_mem (rows x8 0 x6) j (by omega) (by omega))
  refine ⟨c3, by omega, ?_⟩
  obtain ⟨-, -, d1⟩ := okN_int a3 _ c1 c2
  obtain ⟨-, -, d2⟩ := okN_int b3 _ c3 c4
  rw [← d2, ← c5, d1]
 ·rw [List.length_map] at hj
  obtain ⟨e1, e2, e0, -, -, e3, e4⟩ := ends_mem m1 m2 (rd79_mem (rows x9 0 x7) j (by omega) (by omega))
  obtain ⟨g1, g2, -, g5⟩ := plc_mem e1
  obtain ⟨g3, g4, -, g6⟩ := plc_mem e2
  rw [rd_map79 _ (rows x9 0 x7) _ (by omega) (by omega), rd_map94 _ _ _ (by omega) (by omega)]
  unfold edg
  refine ⟨e3, e4, e0, ?_, ?_⟩
  ·rw [rd_map79 _ _ _ g1 g2, g5]
  ·rw [rd_map79 _ _ _ g3 g4, g6]
theorem id_valid {a0 : List Int} {a1 : List S94} (h : validE a0 a1 = 0) : mvalid a0 a1 a0 a1 (iota 0 a0.length) (iota 0 a1.length) = 0 := by
 refine mvalid_iff.mpr ⟨h, h, iota_len _ _, iota_len _ _, fun j hj => ?_, fun j hj => ?_⟩
 ·rw [iota_len] at hj
  rw [iota_rd _ _ _ hj, Nat.zero_add]
  exact ⟨by omega, by omega, rfl⟩
 ·rw [iota_len] at hj
  rw [iota_rd _ _ _ hj, Nat.zero_add]
  obtain ⟨-, f1, f2, f3, f4⟩ := edge_facts h (j : Int) (by omega) (by omega)
  refine ⟨by omega, by omega, rfl, ?_, ?_⟩
  ·obtain ⟨i, hi⟩ : ∃ i : Nat, (rd_T94 a1 (j : Int)).f1 = (i : Int) := ⟨((rd_T94 a1 (j : Int)).f1).toNat, by omega⟩
   rw [hi, iota_rd _ _ _ (by omega), Nat.zero_add]
  ·obtain ⟨i, hi⟩ : ∃ i : Nat, (rd_T94 a1 (j : Int)).f2 = (i : Int) := ⟨((rd_T94 a1 (j : Int)).f2).toNat, by omega⟩
   rw [hi, iota_rd _ _ _ (by omega), Nat.zero_add]
end
theorem sameInts02_l0 (l : List Int) (hl : l.length ≤ 9223372036854775807) : ∀ (r pre : List Int), l = pre ++ r → Ev (fun k => scarfjointref02_SameInts.l0 k l l (pre.length : Int)) true := by
 intro r
 induction r with
 | nil =>
  rintro pre rfl
  exact Ev.step (fun k => by simp only [scarfjointref02_SameInts.l0]; rw [if_neg (by simp)]) (Ev.now _)
 | cons x r ih =>
  rintro pre rfl
  refine Ev.step (fun k => by simp only [scarfjointref02_SameInts.l0]; rw [if_pos (lt_mid pre x r), if_pos (by omega), if_pos (lt_mid pre x r), if_pos trivial, wrap_mid pre x r hl]) (ih (pre ++ [x]) (snoc_mid pre x r))
theorem sameInts02_self (l : List Int) (hl : l.length ≤ 1000000) : Ev (fun k => scarfjointref02_SameInts.f k l l) true := by
 unfold scarfjointref02_SameInts.f
 simp only [if_true]
 exact sameInts02_l0 l (by omega) l [] rfl
theorem same06_self (a b : List Int) (ha : a.length ≤ 1000000) (hb : b.length ≤ 1000000) : Ev (fun k => scarfjointref06_Same.f k a b a b) true := by
 unfold scarfjointref06_Same.f
 refine Ev.bind (sameInts02_self a ha) ?_
 simp only [if_true]
 exact Ev.bind (sameInts02_self b hb) (Ev.now _)
end Go.Proofs.Ytillofiphkmjjaa.Pl

/- The plain law of PullbackOf, and the walk with it: the law answers true. -/
namespace Go.Proofs.Ytillofiphkmjjaa.Pure
open Go.RowKit Go.Proofs.YtillofiphkmjjaaW.PrintWords Go.Proofs.Ytillofiphkmjjaa.X Go.Proofs.Ytillofiphkmjjaa.Pl
set_option linter.unusedVariables false
theorem PullbackOf_walk (A0 : Option Addr) (c0 : Nat) (x0 : List Int) (A1 : Option Addr) (c1 : Nat) (x1 : List S94) (A2 : Option Addr) (c2 : Nat) (x2 : List Int) (A3 : Option Addr) (c3 : Nat) (x3 : List S94) (A4 : Option Addr) (c4 : Nat) (x4 : List Int) (A5 : Option Addr) (c5 : Nat) (x5 : List S94) (A6 : Option Addr) (c6 : Nat) (x6 : List Int) (A7 : Option Addr) (c7 : Nat) (x7 : List Int) (A8 : Option Addr) (c8 : Nat) (x8 : List Int) (A9 : Option Addr) (c9 : Nat) (x9 : List Int) (w : World)
  (h0 : Kd.C (Kd.int .i64) w A0 x0.length x0) (hc0 : x0.length ≤ c0) (h1 : Kd.C k94 w A1 x1.length x1) (hc1 : x1.length ≤ c1) (h2 : Kd.C (Kd.int .i64) w A2 x2.length x2) (hc2 : x2.length ≤ c2) (h3 : Kd.C k94 w A3 x3.length x3) (hc3 : x3.length ≤ c3) (h4 : Kd.C (Kd.int .i64) w A4 x4.length x4) (hc4 : x4.length ≤ c4) (h5 : Kd.C k94 w A5 x5.length x5) (hc5 : x5.length ≤ c5) (h6 : Kd.C (Kd.int .i64) w A6 x6.length x6) (hc6 : x6.length ≤ c6) (h7 : Kd.C (Kd.int .i64) w A7 x7.length x7) (hc7 : x7.length ≤ c7) (h8 : Kd.C (Kd.int .i64) w A8 x8.length x8) (hc8 : x8.length ≤ c8) (h9 : Kd.C (Kd.int .i64) w A9 x9.length x9) (hc9 : x9.length ≤ c9) :
  Calls Try.prog 9 #[.agg #[.slice A0 x0.length c0, .slice A1 x1.length c1, .slice A2 x2.length c2, .slice A3 x3.length c3, .slice A4 x4.length c4, .slice A5 x5.length c5, .slice A6 x6.length c6, .slice A7 x7.length c7, .slice A8 x8.length c8, .slice A9 x9.length c9]] w fun e w' => e = .returned (.bool true) ∧ Below w.heap.size w w' := by
 obtain ⟨K0, hO⟩ := gOf_ev x0 x1 x2 x3 x4 x5 x6 x7 x8 x9
 obtain ⟨K1, hR⟩ := rOf_ev x0 x1 x2 x3 x4 x5 x6 x7 x8 x9
 have bad : ∀ er : Int, er ≠ 0 → OfR x0 x1 x2 x3 x4 x5 x6 x7 x8 x9 = ([], [], [], [], [], [], er) → Calls Try.prog 9 #[.agg #[.slice A0 x0.length c0, .slice A1 x1.length c1, .slice A2 x2.length c2, .slice A3 x3.length c3, .slice A4 x4.length c4, .slice A5 x5.length c5, .slice A6 x6.length c6, .slice A7 x7.length c7, .slice A8 x8.length c8, .slice A9 x9.length c9]] w fun e w' => e = .returned (.bool true) ∧ Below w.heap.size w w' := by
  intro er her e
  obtain ⟨K2, hS⟩ := same_self [] [] (by simp) (by simp)
  obtain ⟨K3, hs⟩ := same06_self [] [] (by simp) (by simp)
  obtain ⟨k, k0, k1, k2, k3⟩ : ∃ k, K0 ≤ k ∧ K1 ≤ k ∧ K2 ≤ k ∧ K3 ≤ k := ⟨K0 + K1 + K2 + K3, by omega, by omega, by omega, by omega⟩
  exact law9_a k A0 c0 x0 A1 c1 x1 A2 c2 x2 A3 c3 x3 A4 c4 x4 A5 c5 x5 A6 c6 x6 A7 c7 x7 A8 c8 x8 A9 c9 x9 w ⟨hc0, h0⟩ ⟨hc1, h1⟩ ⟨hc2, h2⟩ ⟨hc3, h3⟩ ⟨hc4, h4⟩ ⟨hc5, h5⟩ ⟨hc6, h6⟩ ⟨hc7, h7⟩ ⟨hc8, h8⟩ ⟨hc9, h9⟩ [] [] [] [] [] [] er ((hO k k0).trans (congrArg some e)) ((hR k k1).trans (congrArg some e)) (hS k k2) (hs k k3) (hs k k3) her
 by_cases hg : giv x0 x1 x2 x3 x4 x5 x6 x7 x8 x9 = 0
 ·by_cases hb : (rows x8 0 x6).length > 40 ∨ (rows x9 0 x7).length > 80
  ·refine bad 3 (by decide) ?_
   have e1 : ofR x0 x1 x2 x3 x4 x5 x6 x7 x8 x9 = ([], [], [], [], 3) := by unfold ofR; rw [if_pos hg, if_pos hb]
   unfold OfR
   rw [e1]
   rfl
  ·have hP : (rows x8 0 x6).length ≤ 40 := by omega
   have hQ : (rows x9 0 x7).length ≤ 80 := by omega
   obtain ⟨m1, m2⟩ := giv_len _ _ _ _ _ _ _ _ _ _ hg
   have hE := pb_validE m1 m2 hP hQ
   have hL := pb_left m1 m2 hP hQ
   have hR' := pb_right m1 m2 hP hQ
   have e1 : ofR x0 x1 x2 x3 x4 x5 x6 x7 x8 x9 = (rows x8 0 x6, rows x9 0 x7, (rows x8 0 x6).map (fun p => rd x0 p.f0), (rows x9 0 x7).map (edg x1 x3 (rows x8 0 x6)), 0) := by unfold ofR; rw [if_pos hg, if_neg hb]
   have e2 : OfR x0 x1 x2 x3 x4 x5 x6 x7 x8 x9 = ((rows x8 0 x6).map (fun p => rd x0 p.f0), (rows x9 0 x7).map (edg x1 x3 (rows x8 0 x6)), (rows x8 0 x6).map S79.f0, (rows x9 0 x7).map S79.f0, (rows x8 0 x6).map S79.f1, (rows x9 0 x7).map S79.f1, 0) := by
    unfold OfR
    rw [e1]
    rfl
   have e3 : medR x0 x1 x2 x3 x4 x5 x6 x7 x8 x9 ((rows x8 0 x6).map (fun p => rd x0 p.f0)) ((rows x9 0 x7).map (edg x1 x3 (rows x8 0 x6))) ((rows x8 0 x6).map S79.f0) ((rows x9 0 x7).map S79.f0) ((rows x8 0 x6).map S79.f1) ((rows x9 0 x7).map S79.f1) = (iota 0 (rows x8 0 x6).length, iota 0 (rows x9 0 x7).length, 0) := by
    unfold medR
    rw [e1]
    simp only [if_true, if_pos hL, if_pos hR']
    unfold fine
    have s1 := meets_self (rows_nodup x8 x6 0) (rows x8 0 x6) [] rfl
    have s2 := meets_self (rows_nodup x9 x7 0) (rows x9 0 x7) [] rfl
    rw [s1, s2]
    rfl
   have hid := id_valid hE
   rw [List.length_map, List.length_map] at hid
   obtain ⟨K2, hS⟩ := same_self ((rows x8 0 x6).map (fun p => rd x0 p.f0)) ((rows x9 0 x7).map (edg x1 x3 (rows x8 0 x6))) (by rw [List.length_map]; omega) (by rw [List.length_map]; omega)
   obtain ⟨K3, hs⟩ := same06_self ((rows x8 0 x6).map S79.f0) ((rows x9 0 x7).map S79.f0) (by rw [List.length_map]; omega) (by rw [List.length_map]; omega)
   obtain ⟨K4, ht⟩ := same06_self ((rows x8 0 x6).map S79.f1) ((rows x9 0 x7).map S79.f1) (by rw [List.length_map]; omega) (by rw [List.length_map]; omega)
   obtain ⟨K5, hM⟩ := gmed_ev x0 x1 x2 x3 x4 x5 x6 x7 x8 x9 ((rows x8 0 x6).map (fun p => rd x0 p.f0)) ((rows x9 0 x7).map (edg x1 x3 (rows x8 0 x6))) ((rows x8 0 x6).map S79.f0) ((rows x9 0 x7).map S79.f0) ((rows x8 0 x6).map S79.f1) ((rows x9 0 x7).map S79.f1)
   obtain ⟨K6, ho⟩ := gof_ev x0 x1 x2 x3 x4 x5 x6 x7 x8 x9
   obtain ⟨k, k0, k1, k2, k3, k4, k5, k6⟩ : ∃ k, K0 ≤ k ∧ K1 ≤ k ∧ K2 ≤ k ∧ K3 ≤ k ∧ K4 ≤ k ∧ K5 ≤ k ∧ K6 ≤ k := ⟨K0 + K1 + K2 + K3 + K4 + K5 + K6, by omega, by omega, by omega, by omega, by omega, by omega, by omega⟩
   exact law9_b k A0 c0 x0 A1 c1 x1 A2 c2 x2 A3 c3 x3 A4 c4 x4 A5 c5 x5 A6 c6 x6 A7 c7 x7 A8 c8 x8 A9 c9 x9 w ⟨hc0, h0⟩ ⟨hc1, h1⟩ ⟨hc2, h2⟩ ⟨hc3, h3⟩ ⟨hc4, h4⟩ ⟨hc5, h5⟩ ⟨hc6, h6⟩ ⟨hc7, h7⟩ ⟨hc8, h8⟩ ⟨hc9, h9⟩ _ _ _ _ _ _ _ _ _ _ ((hO k k0).trans (congrArg some e2)) ((hR k k1).trans (congrArg some e2)) (hS k k2) (hs k k3) (ht k k4) ((hM k k5).trans (congrArg some e3)) ((ho k k6).trans (congrArg some e1)) hid
    (nd_nodup (iota_nodup _ _)) (nd_nodup (iota_nodup _ _)) (by rw [iota_len, List.length_map]) (by rw [iota_len, List.length_map]) (by rw [iota_len]; omega) (by rw [iota_len]; omega)
 ·refine bad _ hg ?_
  have e1 : ofR x0 x1 x2 x3 x4 x5 x6 x7 x8 x9 = ([], [], [], [], giv x0 x1 x2 x3 x4 x5 x6 x7 x8 x9) := by unfold ofR; rw [if_neg hg]
  unfold OfR
  rw [e1]
  simp only [if_neg hg]
end Go.Proofs.Ytillofiphkmjjaa.Pure

/- The seat's own argument types, by 'Opens'. -/
namespace Go.Proofs.Ytillofiphkmjjaa.Open
open Go.ChangeShapes Go.WideShapes Go.Deep Go.RowKit Go.Proofs.YtillofiphkmjjaaW.PrintWords Go.Proofs.Ytillofiphkmjjaa.X
set_option linter.unusedVariables false
section
variable {P : Program} {α β γ δ ε : Type}
theorem opens_true {t : TypeId} {d : Kd α} {g : α → Prop} (h : Opens P t d g) : Opens P t d (fun _ => True) := by
  intro H enc w spare held fuel cs x hx
  obtain ⟨a, hk, _⟩ := h hx
  exact ⟨a, hk, trivial⟩
theorem cut4 {σ : Type} (cs : List σ) (a b c : Nat) : cs = cs.take a ++ ((cs.drop a).take b ++ ((cs.drop (a + b)).take c ++ cs.drop (a + b + c))) := by
  have e1 : cs.drop (a + b) = (cs.drop a).drop b := by rw [List.drop_drop]
  have e2 : cs.drop (a + b + c) = ((cs.drop a).drop b).drop c := by rw [List.drop_drop, List.drop_drop, Nat.add_assoc]
  rw [e1, e2, List.take_append_drop, List.take_append_drop, List.take_append_drop]
theorem cut5 {σ : Type} (cs : List σ) (a b c d : Nat) : cs = cs.take a ++ ((cs.drop a).take b ++ ((cs.drop (a + b)).take c ++ ((cs.drop (a + b + c)).take d ++ cs.drop (a + b + c + d)))) := by
  have e2 : cs.drop (a + b + c + d) = (cs.drop (a + b + c)).drop d := by rw [List.drop_drop]
  rw [e2, List.take_append_drop]
  exact cut4 cs a b c
theorem opens_struct4 {t : TypeId} {f0 f1 f2 f3 : Field} {d0 : Kd α} {d1 : Kd β} {d2 : Kd γ} {d3 : Kd δ} {g0 : α → Prop} {g1 : β → Prop} {g2 : γ → Prop} {g3 : δ → Prop} (ht : P.underlying t = some (.struct #[f0, f1, f2, f3])) (h0 : f0.offset = 0) (h1 : f1.offset = P.cellsOf f0.type) (h2 : f2.offset = P.cellsOf f0.type + P.cellsOf f1.type) (h3 : f3.offset = P.cellsOf f0.type + P.cellsOf f1.type + P.cellsOf f2.type)
    (hs : P.cellsOf t = P.cellsOf f0.type + P.cellsOf f1.type + P.cellsOf f2.type + P.cellsOf f3.type) (o0 : Opens P f0.type d0 g0) (o1 : Opens P f1.type d1 g1) (o2 : Opens P f2.type d2 g2) (o3 : Opens P f3.type d3 g3) : Opens P t (Kd.pair d0 (Kd.pair d1 (Kd.pair d2 d3))) (fun _ => True) := by
  intro H enc w spare held fuel cs x h
  obtain ⟨xs, n, _, _, hl, hlen, hf⟩ := DataW.trod_struct ht h
  match xs, hlen with
  | [y0, y1, y2, y3], _ =>
    obtain ⟨a0, k0, -⟩ := o0 (hf 0 f0 rfl)
    obtain ⟨a1, k1, -⟩ := o1 (hf 1 f1 rfl)
    obtain ⟨a2, k2, -⟩ := o2 (hf 2 f2 rfl)
    obtain ⟨a3, k3, -⟩ := o3 (hf 3 f3 rfl)
    refine ⟨(a0, a1, a2, a3), ⟨_, _, ?_, k0, _, _, rfl, k1, _, _, rfl, k2, k3⟩, trivial⟩
    rw [h0, h1, h2, h3, List.drop_zero, List.take_of_length_le (l := cs.drop (_ + _ + _)) (by rw [List.length_drop]; omega)]
    exact cut4 _ _ _ _
theorem opens_struct5 {t : TypeId} {f0 f1 f2 f3 f4 : Field} {d0 : Kd α} {d1 : Kd β} {d2 : Kd γ} {d3 : Kd δ} {d4 : Kd ε} {g0 : α → Prop} {g1 : β → Prop} {g2 : γ → Prop} {g3 : δ → Prop} {g4 : ε → Prop} (ht : P.underlying t = some (.struct #[f0, f1, f2, f3, f4])) (h0 : f0.offset = 0) (h1 : f1.offset = P.cellsOf f0.type) (h2 : f2.offset = P.cellsOf f0.type + P.cellsOf f1.type) (h3 : f3.offset = P.cellsOf f0.type + P.cellsOf f1.type + P.cellsOf f2.type) (h4 : f4.offset = P.cellsOf f0.type + P.cellsOf f1.type + P.cellsOf f2.type + P.cellsOf f3.type)
    (hs : P.cellsOf t = P.cellsOf f0.type + P.cellsOf f1.type + P.cellsOf f2.type + P.cellsOf f3.type + P.cellsOf f4.type) (o0 : Opens P f0.type d0 g0) (o1 : Opens P f1.type d1 g1) (o2 : Opens P f2.type d2 g2) (o3 : Opens P f3.type d3 g3) (o4 : Opens P f4.type d4 g4) : Opens P t (Kd.pair d0 (Kd.pair d1 (Kd.pair d2 (Kd.pair d3 d4)))) (fun _ => True) := by
  intro H enc w spare held fuel cs x h
  obtain ⟨xs, n, _, _, hl, hlen, hf⟩ := DataW.trod_struct ht h
  match xs, hlen with
  | [y0, y1, y2, y3, y4], _ =>
    obtain ⟨a0, k0, -⟩ := o0 (hf 0 f0 rfl)
    obtain ⟨a1, k1, -⟩ := o1 (hf 1 f1 rfl)
    obtain ⟨a2, k2, -⟩ := o2 (hf 2 f2 rfl)
    obtain ⟨a3, k3, -⟩ := o3 (hf 3 f3 rfl)
    obtain ⟨a4, k4, -⟩ := o4 (hf 4 f4 rfl)
    refine ⟨(a0, a1, a2, a3, a4), ⟨_, _, ?_, k0, _, _, rfl, k1, _, _, rfl, k2, _, _, rfl, k3, k4⟩, trivial⟩
    rw [h0, h1, h2, h3, h4, List.drop_zero, List.take_of_length_le (l := cs.drop (_ + _ + _ + _)) (by rw [List.length_drop]; omega)]
    exact cut5 _ _ _ _ _
end
abbrev okInt (n : Int) : Prop := (Lit.int .i64 n).wf = true
theorem open22 : Opens Try.prog 22 (Kd.slice 3 (Kd.int .i64)) (fun l => ∀ x ∈ l, okInt x) := opens_slice Try.underlying22 (opens_int Try.underlying3) (by kernel_rfl)
theorem open94 : Opens Try.prog 94 k94 (fun e : S94 => okInt e.f0 ∧ okInt e.f1 ∧ okInt e.f2) :=
  opens_iso (opens_struct3 Try.underlying94 rfl (by kernel_rfl) (by kernel_rfl) (by kernel_rfl) (opens_int Try.underlying3) (opens_int Try.underlying3) (opens_int Try.underlying3)) _ (fun p => ⟨p.1, p.2.1, p.2.2⟩) (fun _ => rfl)
theorem open23 : Opens Try.prog 23 (Kd.slice 94 k94) (fun l => ∀ e ∈ l, okInt e.f0 ∧ okInt e.f1 ∧ okInt e.f2) := opens_slice Try.underlying23 open94 (by kernel_rfl)
theorem open25 : Opens Try.prog 25 k25 (fun g : S25 => (∀ x ∈ g.f0, okInt x) ∧ ∀ e ∈ g.f1, okInt e.f0 ∧ okInt e.f1 ∧ okInt e.f2) :=
  opens_iso (opens_struct2 Try.underlying25 rfl (by kernel_rfl) (by kernel_rfl) open22 open23) _ (fun p => ⟨p.1, p.2⟩) (fun _ => rfl)
theorem open27 : Opens Try.prog 27 k27 (fun g : S27 => (∀ x ∈ g.f0, okInt x) ∧ ∀ x ∈ g.f1, okInt x) :=
  opens_iso (opens_struct2 Try.underlying27 rfl (by kernel_rfl) (by kernel_rfl) open22 open22) _ (fun p => ⟨p.1, p.2⟩) (fun _ => rfl)
structure S66 where
  f0 : List Int
  f1 : List S94
  f2 : List Int
  f3 : List S94
  f4 : List Int
  f5 : List Int
  f6 : List Int
  f7 : List Int
def k66 : Kd S66 := Kd.iso (Kd.pair k25 (Kd.pair k25 (Kd.pair k27 k27))) (fun x : S66 => ((⟨x.f0, x.f1⟩ : S25), (⟨x.f2, x.f3⟩ : S25), (⟨x.f4, x.f5⟩ : S27), (⟨x.f6, x.f7⟩ : S27)))
theorem k66_open {w : World} {x : S66} {cs : List Value} (h : k66.K w x cs) : ∃ A0 c0 A1 c1 A2 c2 A3 c3 A4 c4 A5 c5 A6 c6 A7 c7, cs = [.slice A0 x.f0.length c0, .slice A1 x.f1.length c1, .slice A2 x.f2.length c2, .slice A3 x.f3.length c3, .slice A4 x.f4.length c4, .slice A5 x.f5.length c5, .slice A6 x.f6.length c6, .slice A7 x.f7.length c7] ∧ x.f0.length ≤ c0 ∧ (Kd.int .i64).C w A0 x.f0.length x.f0 ∧ x.f1.length ≤ c1 ∧ k94.C w A1 x.f1.length x.f1 ∧ x.f2.length ≤ c2 ∧ (Kd.int .i64).C w A2 x.f2.length x.f2 ∧ x.f3.length ≤ c3 ∧ k94.C w A3 x.f3.length x.f3 ∧ x.f4.length ≤ c4 ∧ (Kd.int .i64).C w A4 x.f4.length x.f4 ∧ x.f5.length ≤ c5 ∧ (Kd.int .i64).C w A5 x.f5.length x.f5 ∧ x.f6.length ≤ c6 ∧ (Kd.int .i64).C w A6 x.f6.length x.f6 ∧ x.f7.length ≤ c7 ∧ (Kd.int .i64).C w A7 x.f7.length x.f7 := by
  obtain ⟨_, _, rfl, h0, ⟨_, _, rfl, h1, ⟨_, _, rfl, h2, h3⟩⟩⟩ := h
  obtain ⟨A0, c0, A1, c1, rfl, l0, g0, l1, g1⟩ := k25_open h0
  obtain ⟨A2, c2, A3, c3, rfl, l2, g2, l3, g3⟩ := k25_open h1
  obtain ⟨A4, c4, A5, c5, rfl, l4, g4, l5, g5⟩ := k27_open h2
  obtain ⟨A6, c6, A7, c7, rfl, l6, g6, l7, g7⟩ := k27_open h3
  exact ⟨A0, c0, A1, c1, A2, c2, A3, c3, A4, c4, A5, c5, A6, c6, A7, c7, rfl, l0, g0, l1, g1, l2, g2, l3, g3, l4, g4, l5, g5, l6, g6, l7, g7⟩
theorem open66 : Opens Try.prog 66 k66 (fun _ => True) :=
  opens_true (opens_iso (opens_struct4 Try.underlying66 rfl (by kernel_rfl) (by kernel_rfl) (by kernel_rfl) (by kernel_rfl) open25 open25 open27 open27) _ (fun p => (⟨p.1.f0, p.1.f1, p.2.1.f0, p.2.1.f1, p.2.2.1.f0, p.2.2.1.f1, p.2.2.2.f0, p.2.2.2.f1⟩ : S66)) (fun _ => rfl))
structure S29 where
  f0 : List Int
  f1 : List S94
  f2 : List Int
  f3 : List S94
  f4 : List Int
  f5 : List S94
  f6 : List Int
  f7 : List Int
  f8 : List Int
  f9 : List Int
def k29 : Kd S29 := Kd.iso (Kd.pair k25 (Kd.pair k25 (Kd.pair k25 (Kd.pair k27 k27)))) (fun x : S29 => ((⟨x.f0, x.f1⟩ : S25), (⟨x.f2, x.f3⟩ : S25), (⟨x.f4, x.f5⟩ : S25), (⟨x.f6, x.f7⟩ : S27), (⟨x.f8, x.f9⟩ : S27)))
theorem k29_open {w : World} {x : S29} {cs : List Value} (h : k29.K w x cs) : ∃ A0 c0 A1 c1 A2 c2 A3 c3 A4 c4 A5 c5 A6 c6 A7 c7 A8 c8 A9 c9, cs = [.slice A0 x.f0.length c0, .slice A1 x.f1.length c1, .slice A2 x.f2.length c2, .slice A3 x.f3.length c3, .slice A4 x.f4.length c4, .slice A5 x.f5.length c5, .slice A6 x.f6.length c6, .slice A7 x.f7.length c7, .slice A8 x.f8.length c8, .slice A9 x.f9.length c9] ∧ x.f0.length ≤ c0 ∧ (Kd.int .i64).C w A0 x.f0.length x.f0 ∧ x.f1.length ≤ c1 ∧ k94.C w A1 x.f1.length x.f1 ∧ x.f2.length ≤ c2 ∧ (Kd.int .i64).C w A2 x.f2.length x.f2 ∧ x.f3.length ≤ c3 ∧ k94.C w A3 x.f3.length x.f3 ∧ x.f4.length ≤ c4 ∧ (Kd.int .i64).C w A4 x.f4.length x.f4 ∧ x.f5.length ≤ c5 ∧ k94.C w A5 x.f5.length x.f5 ∧ x.f6.length ≤ c6 ∧ (Kd.int .i64).C w A6 x.f6.length x.f6 ∧ x.f7.length ≤ c7 ∧ (Kd.int .i64).C w A7 x.f7.length x.f7 ∧ x.f8.length ≤ c8 ∧ (Kd.int .i64).C w A8 x.f8.length x.f8 ∧ x.f9.length ≤ c9 ∧ (Kd.int .i64).C w A9 x.f9.length x.f9 := by
  obtain ⟨_, _, rfl, h0, ⟨_, _, rfl, h1, ⟨_, _, rfl, h2, ⟨_, _, rfl, h3, h4⟩⟩⟩⟩ := h
  obtain ⟨A0, c0, A1, c1, rfl, l0, g0, l1, g1⟩ := k25_open h0
  obtain ⟨A2, c2, A3, c3, rfl, l2, g2, l3, g3⟩ := k25_open h1
  obtain ⟨A4, c4, A5, c5, rfl, l4, g4, l5, g5⟩ := k25_open h2
  obtain ⟨A6, c6, A7, c7, rfl, l6, g6, l7, g7⟩ := k27_open h3
  obtain ⟨A8, c8, A9, c9, rfl, l8, g8, l9, g9⟩ := k27_open h4
  exact ⟨A0, c0, A1, c1, A2, c2, A3, c3, A4, c4, A5, c5, A6, c6, A7, c7, A8, c8, A9, c9, rfl, l0, g0, l1, g1, l2, g2, l3, g3, l4, g4, l5, g5, l6, g6, l7, g7, l8, g8, l9, g9⟩
theorem open29 : Opens Try.prog 29 k29 (fun _ => True) :=
  opens_true (opens_iso (opens_struct5 Try.underlying29 rfl (by kernel_rfl) (by kernel_rfl) (by kernel_rfl) (by kernel_rfl) (by kernel_rfl) open25 open25 open25 open27 open27) _ (fun p => (⟨p.1.f0, p.1.f1, p.2.1.f0, p.2.1.f1, p.2.2.1.f0, p.2.2.1.f1, p.2.2.2.1.f0, p.2.2.2.1.f1, p.2.2.2.2.f0, p.2.2.2.2.f1⟩ : S29)) (fun _ => rfl))
structure S31 where
  f0 : List Int
  f1 : List S94
  f2 : List Int
  f3 : List Int
  f4 : List Int
  f5 : List Int
def k31 : Kd S31 := Kd.iso (Kd.pair k25 (Kd.pair k27 k27)) (fun x : S31 => ((⟨x.f0, x.f1⟩ : S25), (⟨x.f2, x.f3⟩ : S27), (⟨x.f4, x.f5⟩ : S27)))
theorem k31_open {w : World} {x : S31} {cs : List Value} (h : k31.K w x cs) : ∃ A0 c0 A1 c1 A2 c2 A3 c3 A4 c4 A5 c5, cs = [.slice A0 x.f0.length c0, .slice A1 x.f1.length c1, .slice A2 x.f2.length c2, .slice A3 x.f3.length c3, .slice A4 x.f4.length c4, .slice A5 x.f5.length c5] ∧ x.f0.length ≤ c0 ∧ (Kd.int .i64).C w A0 x.f0.length x.f0 ∧ x.f1.length ≤ c1 ∧ k94.C w A1 x.f1.length x.f1 ∧ x.f2.length ≤ c2 ∧ (Kd.int .i64).C w A2 x.f2.length x.f2 ∧ x.f3.length ≤ c3 ∧ (Kd.int .i64).C w A3 x.f3.length x.f3 ∧ x.f4.length ≤ c4 ∧ (Kd.int .i64).C w A4 x.f4.length x.f4 ∧ x.f5.length ≤ c5 ∧ (Kd.int .i64).C w A5 x.f5.length x.f5 := by
  obtain ⟨_, _, rfl, h0, ⟨_, _, rfl, h1, h2⟩⟩ := h
  obtain ⟨A0, c0, A1, c1, rfl, l0, g0, l1, g1⟩ := k25_open h0
  obtain ⟨A2, c2, A3, c3, rfl, l2, g2, l3, g3⟩ := k27_open h1
  obtain ⟨A4, c4, A5, c5, rfl, l4, g4, l5, g5⟩ := k27_open h2
  exact ⟨A0, c0, A1, c1, A2, c2, A3, c3, A4, c4, A5, c5, rfl, l0, g0, l1, g1, l2, g2, l3, g3, l4, g4, l5, g5⟩
theorem open31 : Opens Try.prog 31 k31 (fun _ => True) :=
  opens_true (opens_iso (opens_struct3 Try.underlying31 rfl (by kernel_rfl) (by kernel_rfl) (by kernel_rfl) open25 open27 open27) _ (fun p => (⟨p.1.f0, p.1.f1, p.2.1.f0, p.2.1.f1, p.2.2.f0, p.2.2.f1⟩ : S31)) (fun _ => rfl))
end Go.Proofs.Ytillofiphkmjjaa.Open


namespace Go.Proofs.Ytillofiphkmjjaa.pullbackOf
open Go.ChangeShapes Go.WideShapes Go.ChangeAt Go.RowKit
open Go.ChangeMaps (open_string shut_string)
open Go.Proofs.YtillofiphkmjjaaW.PrintWords Go.Proofs.Ytillofiphkmjjaa.X
set_option linter.unusedVariables false
theorem own : ownKnob Try.prog.godebug = none := by kernel_rfl
theorem laidOut : laidOutB Try.prog = true := by kernel_rfl
set_option maxRecDepth 100000 in
theorem lifted (os : Os) (started : os.Started) (H : Type) (enc : TypeId × Value → H) :
    ReturnsInHanded {} Try.checked os 9 .any (Rows.pullbackOfSpec.pre6 enc Try.prog Try.f9 Rows.pullbackOfRow.domain false) (Rows.pullbackOfSpec.post enc Try.prog Try.f9 false true false false) := by
  refine returnsInHanded_of_change_sized (C := Try.checked) own started (by kernel_rfl) Try.func9
    (ChangeSpec.witness6 (enc := enc) (C := Try.checked) false ⟨#[], #[.agg #[.slice none 0 0, .slice none 0 0, .slice none 0 0, .slice none 0 0, .slice none 0 0, .slice none 0 0, .slice none 0 0, .slice none 0 0, .slice none 0 0, .slice none 0 0]], []⟩ 8 (by kernel_rfl) (by kernel_rfl) (by kernel_rfl) (by kernel_rfl)) ?_
  intro W base args ds gs before hval0 hW hcnd hsz0 _
  clear hsz0
  have hval : ∀ (j : Nat) t v, Try.f9.params[j]? = some t → args[j]? = some v → Value.okWide Try.prog W .any base t v := hval0
  have hW' := hW
  obtain ⟨p, q, hA0, hV, rfl, hfz, hnd⟩ := hW
  have hA : DataW.TrodAll enc Try.prog W 0 (fun _ => true) true Try.f9.params.toList args.toList ds p := hA0
  rw [Try.params9] at hA hval
  obtain ⟨v0, vs0, d0, ds0, p0, q0, hargs, rfl, rfl, h0, r0⟩ := trodAll_cons hA
  obtain ⟨rfl, rfl, rfl⟩ := trodAll_nil r0
  obtain rfl : args = #[v0] := by cases args; simp_all
  obtain ⟨rfl, rfl⟩ := trodVars_none hV
  have k0 := h0
  have lt0 : ∀ x ∈ p0, x.block < W.heap.size := by obtain ⟨m, hm⟩ := k0; exact DataW.trod_lt m _ _ _ hm
  obtain ⟨cs0, rfl, hz0⟩ := okWide_struct Try.underlying29 (hval 0 29 v0 rfl rfl)
  obtain ⟨m0, hm0⟩ := h0
  obtain ⟨x0, K0, g0⟩ := Open.open29 hm0
  replace K0 : Open.k29.K W x0 cs0.toList := K0
  obtain ⟨A0_0, c0_0, A0_1, c0_1, A0_2, c0_2, A0_3, c0_3, A0_4, c0_4, A0_5, c0_5, A0_6, c0_6, A0_7, c0_7, A0_8, c0_8, A0_9, c0_9, e0, hc0_0, hr0_0, hc0_1, hr0_1, hc0_2, hr0_2, hc0_3, hr0_3, hc0_4, hr0_4, hc0_5, hr0_5, hc0_6, hr0_6, hc0_7, hr0_7, hc0_8, hr0_8, hc0_9, hr0_9⟩ := Open.k29_open K0
  obtain rfl : cs0 = #[.slice A0_0 x0.f0.length c0_0, .slice A0_1 x0.f1.length c0_1, .slice A0_2 x0.f2.length c0_2, .slice A0_3 x0.f3.length c0_3, .slice A0_4 x0.f4.length c0_4, .slice A0_5 x0.f5.length c0_5, .slice A0_6 x0.f6.length c0_6, .slice A0_7 x0.f7.length c0_7, .slice A0_8 x0.f8.length c0_8, .slice A0_9 x0.f9.length c0_9] := by apply Array.toList_inj.mp; rw [e0]
  clear hA0 hval0
  refine (Pure.PullbackOf_walk _ _ x0.f0 _ _ x0.f1 _ _ x0.f2 _ _ x0.f3 _ _ x0.f4 _ _ x0.f5 _ _ x0.f6 _ _ x0.f7 _ _ x0.f8 _ _ x0.f9 W hr0_0 hc0_0 hr0_1 hc0_1 hr0_2 hc0_2 hr0_3 hc0_3 hr0_4 hc0_4 hr0_5 hc0_5 hr0_6 hc0_6 hr0_7 hc0_7 hr0_8 hc0_8 hr0_9 hc0_9).mono fun e W' ⟨he, bel⟩ => ?_
  subst he
  exact ⟨_, rfl, _, _, _, [], _, [], hW', trodAll_mk1 (shut_bool Try.underlying4 _), (trodAll_cons_mk (Below.trod laidOut (by kernel_rfl) (of_decide_eq_true (by kernel_rfl)) k0 bel lt0) trodAll_mk0), rfl, bel.frame _, fun h => by cases h⟩
theorem over : Rows.pullbackOfRow.holds Try.pinned (OpenSpec.ofChange Rows.pullbackOfSpec) :=
  OpenClaim.holds_of_wide 9 Try.f9 rfl rfl rfl rfl rfl rfl rfl ⟨rfl, rfl, rfl, rfl, rfl⟩ rfl rfl rfl rfl rfl (by kernel_rfl) Try.func9 (by kernel_rfl)
    (of_decide_eq_true (by kernel_rfl)) (by unfold Func.isWrapper; first | (rw [if_pos (by decide +kernel)]; kernel_rfl) | (rw [if_neg (by decide +kernel)]; exact ⟨rfl, rfl⟩))
    (fun os started H enc _ => lifted os started H enc)
theorem proved : Rows.PullbackOfSaid := over
#print axioms proved
end Go.Proofs.Ytillofiphkmjjaa.pullbackOf
namespace Go.Proofs.Ytillofiphkmjjaa
/-- The row, under a short name, for the claim. -/
theorem pullbackOf_holds : Rows.PullbackOfSaid := pullbackOf.proved
end Go.Proofs.Ytillofiphkmjjaa
