/-
  No cell of these rows narrows 'for every input' (looked for: loops, veiled, ifaces, maps, wideKeys, modest, calm, conditions, laid).
  DERIVED. THE GIVEN ROWS OF THIS SEAT. 7 by the template 'for every input the law returns true; each argument reads behind the call as it read before'; 0 by the template 'total and deterministic' (their statements: YtillofiphkmjjaaTotals.lean).
  GIVEN WITH THE SEED: the statements are not yours to turn. If you find one false, say at which input.
  Laid BY PROGRAM, IN A SANDBOX (cutbox-rows.mjs): the forced cells as the released guide's own fill.sh prints them over the translation 8bb2d4abc0745b1f… (all of the seat's roots in one cut). By AI agents, Wed Nov 11 2026. No macro, syntax, notation, axiom, sorry.
-/
import Derived.Test.YtillofiphkmjjaaChecked
import GoSem.Claim
import GoSem.ClaimJoined
import GoSem.ClaimMapViews
import Derived.JoinedTies
import Derived.KernelRfl
namespace Go.Proofs.Ytillofiphkmjjaa
/- THE CELL 'sum', in the pinned program and in every row, IS THE sha256 OF THE DUMP (.gsa) THAT YtillofiphkmjjaaProg.lean LOADS. Nothing in Lean hashes anything: it is a label: what it is worth is what the hold of that sum in a sandbox is worth. -/
noncomputable def Try.pinned : Pinned := { name := "ytillofiphkmjjaa", sum := "8bb2d4abc0745b1f4c41ea6c5bd3251e04bd116801732341ed5719454df3555e", checked := Try.checked }
namespace Rows
def none {H : Type} : Left H := { results := [], args := [] }

/-- 'scarfjointlaw11.PullbackMediate': WHATEVER THE INPUT: true; the input reads as it did. -/
def pullbackMediateSpec : ChangeSpec := { name := "pullbackMediate", fn := fun _ => fun
  | [d1, d2] => { results := [.lit (.bool true)], args := [d1, d2] }
  | _ => none }
def pullbackMediateRow : OpenClaim := { program := "ytillofiphkmjjaa", sum := "8bb2d4abc0745b1f4c41ea6c5bd3251e04bd116801732341ed5719454df3555e", func := "scarfjoint/scarfjointlaw11.PullbackMediate", spec := "pullbackMediate", unfollowed := true, recurses := true, apart := false }
def PullbackMediateSaid : Prop := pullbackMediateRow.holds Try.pinned (OpenSpec.ofChange pullbackMediateSpec)

/-- ITS FALSE NEIGHBOUR: 'it returns false'. Refute it at one input. -/
def pullbackMediateWrong : ChangeSpec := { name := "pullbackMediate", fn := fun _ => fun
  | [d1, d2] => { results := [.lit (.bool false)], args := [d1, d2] }
  | _ => none }
def PullbackMediateWrongFalsely : Prop := pullbackMediateRow.holds Try.pinned (OpenSpec.ofChange pullbackMediateWrong)

/-- 'scarfjointlaw11.PullbackExchanged': WHATEVER THE INPUT: true; the input reads as it did. -/
def pullbackExchangedSpec : ChangeSpec := { name := "pullbackExchanged", fn := fun _ => fun
  | [d] => { results := [.lit (.bool true)], args := [d] }
  | _ => none }
def pullbackExchangedRow : OpenClaim := { program := "ytillofiphkmjjaa", sum := "8bb2d4abc0745b1f4c41ea6c5bd3251e04bd116801732341ed5719454df3555e", func := "scarfjoint/scarfjointlaw11.PullbackExchanged", spec := "pullbackExchanged", unfollowed := true, recurses := true, apart := false }
def PullbackExchangedSaid : Prop := pullbackExchangedRow.holds Try.pinned (OpenSpec.ofChange pullbackExchangedSpec)

/-- ITS FALSE NEIGHBOUR: 'it returns false'. Refute it at one input. -/
def pullbackExchangedWrong : ChangeSpec := { name := "pullbackExchanged", fn := fun _ => fun
  | [d] => { results := [.lit (.bool false)], args := [d] }
  | _ => none }
def PullbackExchangedWrongFalsely : Prop := pullbackExchangedRow.holds Try.pinned (OpenSpec.ofChange pullbackExchangedWrong)

/-- 'scarfjointlaw11.PullbackUnique': WHATEVER THE INPUT: true; the input reads as it did. -/
def pullbackUniqueSpec : ChangeSpec := { name := "pullbackUnique", fn := fun _ => fun
  | [d1, d2] => { results := [.lit (.bool true)], args := [d1, d2] }
  | _ => none }
def pullbackUniqueRow : OpenClaim := { program := "ytillofiphkmjjaa", sum := "8bb2d4abc0745b1f4c41ea6c5bd3251e04bd116801732341ed5719454df3555e", func := "scarfjoint/scarfjointlaw11.PullbackUnique", spec := "pullbackUnique", unfollowed := true, recurses := true, apart := false }
def PullbackUniqueSaid : Prop := pullbackUniqueRow.holds Try.pinned (OpenSpec.ofChange pullbackUniqueSpec)

/-- ITS FALSE NEIGHBOUR: 'it returns false'. Refute it at one input. -/
def pullbackUniqueWrong : ChangeSpec := { name := "pullbackUnique", fn := fun _ => fun
  | [d1, d2] => { results := [.lit (.bool false)], args := [d1, d2] }
  | _ => none }
def PullbackUniqueWrongFalsely : Prop := pullbackUniqueRow.holds Try.pinned (OpenSpec.ofChange pullbackUniqueWrong)

/-- 'scarfjointlaw11.PullbackInjective': WHATEVER THE INPUT: true; the input reads as it did. -/
def pullbackInjectiveSpec : ChangeSpec := { name := "pullbackInjective", fn := fun _ => fun
  | [d] => { results := [.lit (.bool true)], args := [d] }
  | _ => none }
def pullbackInjectiveRow : OpenClaim := { program := "ytillofiphkmjjaa", sum := "8bb2d4abc0745b1f4c41ea6c5bd3251e04bd116801732341ed5719454df3555e", func := "scarfjoint/scarfjointlaw11.PullbackInjective", spec := "pullbackInjective", unfollowed := true, recurses := true, apart := false }
def PullbackInjectiveSaid : Prop := pullbackInjectiveRow.holds Try.pinned (OpenSpec.ofChange pullbackInjectiveSpec)

/-- ITS FALSE NEIGHBOUR: 'it returns false'. Refute it at one input. -/
def pullbackInjectiveWrong : ChangeSpec := { name := "pullbackInjective", fn := fun _ => fun
  | [d] => { results := [.lit (.bool false)], args := [d] }
  | _ => none }
def PullbackInjectiveWrongFalsely : Prop := pullbackInjectiveRow.holds Try.pinned (OpenSpec.ofChange pullbackInjectiveWrong)

/-- 'scarfjointlaw11.PullbackEqualizer': WHATEVER THE INPUT: true; the input reads as it did. -/
def pullbackEqualizerSpec : ChangeSpec := { name := "pullbackEqualizer", fn := fun _ => fun
  | [d] => { results := [.lit (.bool true)], args := [d] }
  | _ => none }
def pullbackEqualizerRow : OpenClaim := { program := "ytillofiphkmjjaa", sum := "8bb2d4abc0745b1f4c41ea6c5bd3251e04bd116801732341ed5719454df3555e", func := "scarfjoint/scarfjointlaw11.PullbackEqualizer", spec := "pullbackEqualizer", unfollowed := true, recurses := true, apart := false }
def PullbackEqualizerSaid : Prop := pullbackEqualizerRow.holds Try.pinned (OpenSpec.ofChange pullbackEqualizerSpec)

/-- ITS FALSE NEIGHBOUR: 'it returns false'. Refute it at one input. -/
def pullbackEqualizerWrong : ChangeSpec := { name := "pullbackEqualizer", fn := fun _ => fun
  | [d] => { results := [.lit (.bool false)], args := [d] }
  | _ => none }
def PullbackEqualizerWrongFalsely : Prop := pullbackEqualizerRow.holds Try.pinned (OpenSpec.ofChange pullbackEqualizerWrong)

/-- 'scarfjointlaw11.PullbackMono': WHATEVER THE INPUT: true; the input reads as it did. -/
def pullbackMonoSpec : ChangeSpec := { name := "pullbackMono", fn := fun _ => fun
  | [d1, d2] => { results := [.lit (.bool true)], args := [d1, d2] }
  | _ => none }
def pullbackMonoRow : OpenClaim := { program := "ytillofiphkmjjaa", sum := "8bb2d4abc0745b1f4c41ea6c5bd3251e04bd116801732341ed5719454df3555e", func := "scarfjoint/scarfjointlaw11.PullbackMono", spec := "pullbackMono", unfollowed := true, recurses := true, apart := false }
def PullbackMonoSaid : Prop := pullbackMonoRow.holds Try.pinned (OpenSpec.ofChange pullbackMonoSpec)

/-- ITS FALSE NEIGHBOUR: 'it returns false'. Refute it at one input. -/
def pullbackMonoWrong : ChangeSpec := { name := "pullbackMono", fn := fun _ => fun
  | [d1, d2] => { results := [.lit (.bool false)], args := [d1, d2] }
  | _ => none }
def PullbackMonoWrongFalsely : Prop := pullbackMonoRow.holds Try.pinned (OpenSpec.ofChange pullbackMonoWrong)

/-- 'scarfjointlaw11.PullbackOf': WHATEVER THE INPUT: true; the input reads as it did. -/
def pullbackOfSpec : ChangeSpec := { name := "pullbackOf", fn := fun _ => fun
  | [d] => { results := [.lit (.bool true)], args := [d] }
  | _ => none }
def pullbackOfRow : OpenClaim := { program := "ytillofiphkmjjaa", sum := "8bb2d4abc0745b1f4c41ea6c5bd3251e04bd116801732341ed5719454df3555e", func := "scarfjoint/scarfjointlaw11.PullbackOf", spec := "pullbackOf", unfollowed := true, recurses := true, apart := false }
def PullbackOfSaid : Prop := pullbackOfRow.holds Try.pinned (OpenSpec.ofChange pullbackOfSpec)

/-- ITS FALSE NEIGHBOUR: 'it returns false'. Refute it at one input. -/
def pullbackOfWrong : ChangeSpec := { name := "pullbackOf", fn := fun _ => fun
  | [d] => { results := [.lit (.bool false)], args := [d] }
  | _ => none }
def PullbackOfWrongFalsely : Prop := pullbackOfRow.holds Try.pinned (OpenSpec.ofChange pullbackOfWrong)

/- THE SECOND FORM. 'bulk': how many values and letters a reading holds, each counted each time it is reached (what is shared counts as often as it is met; a slice's spare places count too). A statement '..UptoSaid' is the law's where the arguments, and the package variables that the reading takes, are together of bulk at most 1048576: NARROWER than '..Said'. Prove '..Said' where nothing that the law and all that it calls make is longer than what came in: it says more and counts as full. Else prove '..UptoSaid'. A law counts once. -/
mutual
def uptoBulk {H : Type} : DataW H → Nat
  | .lit (.string bytes) => bytes.length + 1
  | .lit _ => 1
  | .nil => 1
  | .ptr d => uptoBulk d + 1
  | .slice elems spare => uptoBulkAll elems + uptoBulkAll spare + 1
  | .agg parts => uptoBulkAll parts + 1
  | .iface _ d => uptoBulk d + 1
  | .map entries => uptoBulkEntries entries + 1
  | .held _ => 1
def uptoBulkAll {H : Type} : List (DataW H) → Nat
  | [] => 0
  | d :: r => uptoBulk d + uptoBulkAll r
def uptoBulkEntries {H : Type} : List (Lit × DataW H) → Nat
  | [] => 0
  | x :: r => uptoBulkEntry x + uptoBulkEntries r
def uptoBulkEntry {H : Type} : Lit × DataW H → Nat
  | (.string bytes, d) => bytes.length + uptoBulk d + 1
  | (_, d) => uptoBulk d + 1
 end
def uptoSmall : (H : Type) → List (DataW H) → Bool := fun _ ds => decide (uptoBulkAll ds ≤ 1048576)
def OpenSpec.upto (s : _root_.Go.ChangeSpec) : _root_.Go.OpenSpec := { _root_.Go.OpenSpec.ofChange s with cond := some uptoSmall }

/-- 'scarfjointlaw11.PullbackMediate', WHERE WHAT IT READS IS OF BULK AT MOST 1048576: true; the input reads as it did. -/
def pullbackMediateUptoRow : OpenClaim := { program := "ytillofiphkmjjaa", sum := "8bb2d4abc0745b1f4c41ea6c5bd3251e04bd116801732341ed5719454df3555e", func := "scarfjoint/scarfjointlaw11.PullbackMediate", spec := "pullbackMediate", unfollowed := true, recurses := true, apart := false, narrowed := true }
def PullbackMediateUptoSaid : Prop := pullbackMediateUptoRow.holds Try.pinned (OpenSpec.upto pullbackMediateSpec)

/-- 'scarfjointlaw11.PullbackExchanged', WHERE WHAT IT READS IS OF BULK AT MOST 1048576: true; the input reads as it did. -/
def pullbackExchangedUptoRow : OpenClaim := { program := "ytillofiphkmjjaa", sum := "8bb2d4abc0745b1f4c41ea6c5bd3251e04bd116801732341ed5719454df3555e", func := "scarfjoint/scarfjointlaw11.PullbackExchanged", spec := "pullbackExchanged", unfollowed := true, recurses := true, apart := false, narrowed := true }
def PullbackExchangedUptoSaid : Prop := pullbackExchangedUptoRow.holds Try.pinned (OpenSpec.upto pullbackExchangedSpec)

/-- 'scarfjointlaw11.PullbackUnique', WHERE WHAT IT READS IS OF BULK AT MOST 1048576: true; the input reads as it did. -/
def pullbackUniqueUptoRow : OpenClaim := { program := "ytillofiphkmjjaa", sum := "8bb2d4abc0745b1f4c41ea6c5bd3251e04bd116801732341ed5719454df3555e", func := "scarfjoint/scarfjointlaw11.PullbackUnique", spec := "pullbackUnique", unfollowed := true, recurses := true, apart := false, narrowed := true }
def PullbackUniqueUptoSaid : Prop := pullbackUniqueUptoRow.holds Try.pinned (OpenSpec.upto pullbackUniqueSpec)

/-- 'scarfjointlaw11.PullbackInjective', WHERE WHAT IT READS IS OF BULK AT MOST 1048576: true; the input reads as it did. -/
def pullbackInjectiveUptoRow : OpenClaim := { program := "ytillofiphkmjjaa", sum := "8bb2d4abc0745b1f4c41ea6c5bd3251e04bd116801732341ed5719454df3555e", func := "scarfjoint/scarfjointlaw11.PullbackInjective", spec := "pullbackInjective", unfollowed := true, recurses := true, apart := false, narrowed := true }
def PullbackInjectiveUptoSaid : Prop := pullbackInjectiveUptoRow.holds Try.pinned (OpenSpec.upto pullbackInjectiveSpec)

/-- 'scarfjointlaw11.PullbackEqualizer', WHERE WHAT IT READS IS OF BULK AT MOST 1048576: true; the input reads as it did. -/
def pullbackEqualizerUptoRow : OpenClaim := { program := "ytillofiphkmjjaa", sum := "8bb2d4abc0745b1f4c41ea6c5bd3251e04bd116801732341ed5719454df3555e", func := "scarfjoint/scarfjointlaw11.PullbackEqualizer", spec := "pullbackEqualizer", unfollowed := true, recurses := true, apart := false, narrowed := true }
def PullbackEqualizerUptoSaid : Prop := pullbackEqualizerUptoRow.holds Try.pinned (OpenSpec.upto pullbackEqualizerSpec)

/-- 'scarfjointlaw11.PullbackMono', WHERE WHAT IT READS IS OF BULK AT MOST 1048576: true; the input reads as it did. -/
def pullbackMonoUptoRow : OpenClaim := { program := "ytillofiphkmjjaa", sum := "8bb2d4abc0745b1f4c41ea6c5bd3251e04bd116801732341ed5719454df3555e", func := "scarfjoint/scarfjointlaw11.PullbackMono", spec := "pullbackMono", unfollowed := true, recurses := true, apart := false, narrowed := true }
def PullbackMonoUptoSaid : Prop := pullbackMonoUptoRow.holds Try.pinned (OpenSpec.upto pullbackMonoSpec)

/-- 'scarfjointlaw11.PullbackOf', WHERE WHAT IT READS IS OF BULK AT MOST 1048576: true; the input reads as it did. -/
def pullbackOfUptoRow : OpenClaim := { program := "ytillofiphkmjjaa", sum := "8bb2d4abc0745b1f4c41ea6c5bd3251e04bd116801732341ed5719454df3555e", func := "scarfjoint/scarfjointlaw11.PullbackOf", spec := "pullbackOf", unfollowed := true, recurses := true, apart := false, narrowed := true }
def PullbackOfUptoSaid : Prop := pullbackOfUptoRow.holds Try.pinned (OpenSpec.upto pullbackOfSpec)

end Rows
end Go.Proofs.Ytillofiphkmjjaa
