/-
  No cell of these rows narrows 'for every input' (looked for: loops, veiled, ifaces, maps, wideKeys, modest, calm, conditions, laid).
  DERIVED. THE GIVEN ROWS OF THIS SEAT. 6 by the template 'for every input the law returns true; each argument reads behind the call as it read before'; 0 by the template 'total and deterministic' (their statements: YtfaocpkdikjohaaGreatTotals.lean).
  GIVEN WITH THE SEED: the statements are not yours to turn. If you find one false, say at which input.
  Laid BY PROGRAM, IN A SANDBOX (cutbox-rows.mjs): the forced cells as the released guide's own fill.sh prints them over the translation 3af10781570f8bc8… (all of the seat's roots in one cut). By AI agents, Wed Nov 11 2026. No macro, syntax, notation, axiom, sorry.
-/
import Derived.Test.YtfaocpkdikjohaaGreatChecked
import GoSem.Claim
import GoSem.ClaimJoined
import GoSem.ClaimMapViews
import Derived.JoinedTies
import Derived.KernelRfl
namespace Go.Proofs.YtfaocpkdikjohaaGreat
/- THE CELL 'sum', in the pinned program and in every row, IS THE sha256 OF THE DUMP (.gsa) THAT YtfaocpkdikjohaaGreatProg.lean LOADS. Nothing in Lean hashes anything: it is a label: what it is worth is what the hold of that sum in a sandbox is worth. -/
noncomputable def Tryz.pinned : Pinned := { name := "ytfaocpkdikjohaagreat", sum := "3af10781570f8bc83b8bd90fd8667cc019e3d3a41ad4ea232651bcc565ccd69e", checked := Tryz.checked }
namespace Rows
def none {H : Type} : Left H := { results := [], args := [] }

/-- 'laws.FnExactTailsOfMap': WHATEVER THE INPUT: true; the input reads as it did. -/
def fnExactTailsOfMapSpec : ChangeSpec := { name := "fnExactTailsOfMap", fn := fun _ => fun
  | [d1, d2] => { results := [.lit (.bool true)], args := [d1, d2] }
  | _ => none }
def fnExactTailsOfMapRow : OpenClaim := { program := "ytfaocpkdikjohaagreat", sum := "3af10781570f8bc83b8bd90fd8667cc019e3d3a41ad4ea232651bcc565ccd69e", func := "loop.example/g01076/laws.FnExactTailsOfMap", spec := "fnExactTailsOfMap", unfollowed := true, recurses := true, apart := false }
def FnExactTailsOfMapSaid : Prop := fnExactTailsOfMapRow.holds Tryz.pinned (OpenSpec.ofChange fnExactTailsOfMapSpec)

/-- ITS FALSE NEIGHBOUR: 'it returns false'. Refute it at one input. -/
def fnExactTailsOfMapWrong : ChangeSpec := { name := "fnExactTailsOfMap", fn := fun _ => fun
  | [d1, d2] => { results := [.lit (.bool false)], args := [d1, d2] }
  | _ => none }
def FnExactTailsOfMapWrongFalsely : Prop := fnExactTailsOfMapRow.holds Tryz.pinned (OpenSpec.ofChange fnExactTailsOfMapWrong)

/-- 'laws.FnExactCoverOf': WHATEVER THE INPUT: true; the input reads as it did. -/
def fnExactCoverOfSpec : ChangeSpec := { name := "fnExactCoverOf", fn := fun _ => fun
  | [d] => { results := [.lit (.bool true)], args := [d] }
  | _ => none }
def fnExactCoverOfRow : OpenClaim := { program := "ytfaocpkdikjohaagreat", sum := "3af10781570f8bc83b8bd90fd8667cc019e3d3a41ad4ea232651bcc565ccd69e", func := "loop.example/g01076/laws.FnExactCoverOf", spec := "fnExactCoverOf", unfollowed := true, recurses := true, apart := false }
def FnExactCoverOfSaid : Prop := fnExactCoverOfRow.holds Tryz.pinned (OpenSpec.ofChange fnExactCoverOfSpec)

/-- ITS FALSE NEIGHBOUR: 'it returns false'. Refute it at one input. -/
def fnExactCoverOfWrong : ChangeSpec := { name := "fnExactCoverOf", fn := fun _ => fun
  | [d] => { results := [.lit (.bool false)], args := [d] }
  | _ => none }
def FnExactCoverOfWrongFalsely : Prop := fnExactCoverOfRow.holds Tryz.pinned (OpenSpec.ofChange fnExactCoverOfWrong)

/-- 'laws.FnExactComplementsOf': WHATEVER THE INPUT: true; the input reads as it did. -/
def fnExactComplementsOfSpec : ChangeSpec := { name := "fnExactComplementsOf", fn := fun _ => fun
  | [d1, d2, d3] => { results := [.lit (.bool true)], args := [d1, d2, d3] }
  | _ => none }
def fnExactComplementsOfRow : OpenClaim := { program := "ytfaocpkdikjohaagreat", sum := "3af10781570f8bc83b8bd90fd8667cc019e3d3a41ad4ea232651bcc565ccd69e", func := "loop.example/g01076/laws.FnExactComplementsOf", spec := "fnExactComplementsOf", unfollowed := true, recurses := true, apart := false }
def FnExactComplementsOfSaid : Prop := fnExactComplementsOfRow.holds Tryz.pinned (OpenSpec.ofChange fnExactComplementsOfSpec)

/-- ITS FALSE NEIGHBOUR: 'it returns false'. Refute it at one input. -/
def fnExactComplementsOfWrong : ChangeSpec := { name := "fnExactComplementsOf", fn := fun _ => fun
  | [d1, d2, d3] => { results := [.lit (.bool false)], args := [d1, d2, d3] }
  | _ => none }
def FnExactComplementsOfWrongFalsely : Prop := fnExactComplementsOfRow.holds Tryz.pinned (OpenSpec.ofChange fnExactComplementsOfWrong)

/-- 'laws.FnExactEquivalenceMap': WHATEVER THE INPUT: true; the input reads as it did. -/
def fnExactEquivalenceMapSpec : ChangeSpec := { name := "fnExactEquivalenceMap", fn := fun _ => fun
  | [d1, d2, d3, d4] => { results := [.lit (.bool true)], args := [d1, d2, d3, d4] }
  | _ => none }
def fnExactEquivalenceMapRow : OpenClaim := { program := "ytfaocpkdikjohaagreat", sum := "3af10781570f8bc83b8bd90fd8667cc019e3d3a41ad4ea232651bcc565ccd69e", func := "loop.example/g01076/laws.FnExactEquivalenceMap", spec := "fnExactEquivalenceMap", unfollowed := true, recurses := true, apart := false }
def FnExactEquivalenceMapSaid : Prop := fnExactEquivalenceMapRow.holds Tryz.pinned (OpenSpec.ofChange fnExactEquivalenceMapSpec)

/-- ITS FALSE NEIGHBOUR: 'it returns false'. Refute it at one input. -/
def fnExactEquivalenceMapWrong : ChangeSpec := { name := "fnExactEquivalenceMap", fn := fun _ => fun
  | [d1, d2, d3, d4] => { results := [.lit (.bool false)], args := [d1, d2, d3, d4] }
  | _ => none }
def FnExactEquivalenceMapWrongFalsely : Prop := fnExactEquivalenceMapRow.holds Tryz.pinned (OpenSpec.ofChange fnExactEquivalenceMapWrong)

/-- 'laws.FnExactKeepsRank': WHATEVER THE INPUT: true; the input reads as it did. -/
def fnExactKeepsRankSpec : ChangeSpec := { name := "fnExactKeepsRank", fn := fun _ => fun
  | [d1, d2, d3] => { results := [.lit (.bool true)], args := [d1, d2, d3] }
  | _ => none }
def fnExactKeepsRankRow : OpenClaim := { program := "ytfaocpkdikjohaagreat", sum := "3af10781570f8bc83b8bd90fd8667cc019e3d3a41ad4ea232651bcc565ccd69e", func := "loop.example/g01076/laws.FnExactKeepsRank", spec := "fnExactKeepsRank", unfollowed := true, recurses := true, apart := false }
def FnExactKeepsRankSaid : Prop := fnExactKeepsRankRow.holds Tryz.pinned (OpenSpec.ofChange fnExactKeepsRankSpec)

/-- ITS FALSE NEIGHBOUR: 'it returns false'. Refute it at one input. -/
def fnExactKeepsRankWrong : ChangeSpec := { name := "fnExactKeepsRank", fn := fun _ => fun
  | [d1, d2, d3] => { results := [.lit (.bool false)], args := [d1, d2, d3] }
  | _ => none }
def FnExactKeepsRankWrongFalsely : Prop := fnExactKeepsRankRow.holds Tryz.pinned (OpenSpec.ofChange fnExactKeepsRankWrong)

/-- 'laws.FnExactCoverMap': WHATEVER THE INPUT: true; the input reads as it did. -/
def fnExactCoverMapSpec : ChangeSpec := { name := "fnExactCoverMap", fn := fun _ => fun
  | [d1, d2, d3] => { results := [.lit (.bool true)], args := [d1, d2, d3] }
  | _ => none }
def fnExactCoverMapRow : OpenClaim := { program := "ytfaocpkdikjohaagreat", sum := "3af10781570f8bc83b8bd90fd8667cc019e3d3a41ad4ea232651bcc565ccd69e", func := "loop.example/g01076/laws.FnExactCoverMap", spec := "fnExactCoverMap", unfollowed := true, recurses := true, apart := false }
def FnExactCoverMapSaid : Prop := fnExactCoverMapRow.holds Tryz.pinned (OpenSpec.ofChange fnExactCoverMapSpec)

/-- ITS FALSE NEIGHBOUR: 'it returns false'. Refute it at one input. -/
def fnExactCoverMapWrong : ChangeSpec := { name := "fnExactCoverMap", fn := fun _ => fun
  | [d1, d2, d3] => { results := [.lit (.bool false)], args := [d1, d2, d3] }
  | _ => none }
def FnExactCoverMapWrongFalsely : Prop := fnExactCoverMapRow.holds Tryz.pinned (OpenSpec.ofChange fnExactCoverMapWrong)

/- THE SECOND FORM. 'bulk': how many values and letters a reading holds, each counted each time it is reached (what is shared counts as often as it is met; a slice's spare places count too). A statement '..UptoSaid' is the law's where the arguments, and the package variables that the reading takes, are together of bulk at most 1048576: NARROWER than '..Said'. Prove '..Said' where nothing that the law and all that it calls make is longer than what came in: it says more and counts as full. Else prove '..UptoSaid'. A law counts once. -/
mutual
def uptoBulk {H : Type} : DataW H → Nat
  | .lit (.string bytes) => bytes.length + 1
  | .lit _ => 1
  | .nil => 1
  | .ptr d => uptoBulk d + 1
  | .slice elems spare => uptoBulkAll elems + uptoBulkAll spare + 1
  | .agg parts => uptoBulkAll parts + 1
  | .iface _ d => uptoBulk d + 1
  | .map entries => uptoBulkEntries entries + 1
  | .held _ => 1
def uptoBulkAll {H : Type} : List (DataW H) → Nat
  | [] => 0
  | d :: r => uptoBulk d + uptoBulkAll r
def uptoBulkEntries {H : Type} : List (Lit × DataW H) → Nat
  | [] => 0
  | x :: r => uptoBulkEntry x + uptoBulkEntries r
def uptoBulkEntry {H : Type} : Lit × DataW H → Nat
  | (.string bytes, d) => bytes.length + uptoBulk d + 1
  | (_, d) => uptoBulk d + 1
 end
def uptoSmall : (H : Type) → List (DataW H) → Bool := fun _ ds => decide (uptoBulkAll ds ≤ 1048576)
def OpenSpec.upto (s : _root_.Go.ChangeSpec) : _root_.Go.OpenSpec := { _root_.Go.OpenSpec.ofChange s with cond := some uptoSmall }

/-- 'laws.FnExactTailsOfMap', WHERE WHAT IT READS IS OF BULK AT MOST 1048576: true; the input reads as it did. -/
def fnExactTailsOfMapUptoRow : OpenClaim := { program := "ytfaocpkdikjohaagreat", sum := "3af10781570f8bc83b8bd90fd8667cc019e3d3a41ad4ea232651bcc565ccd69e", func := "loop.example/g01076/laws.FnExactTailsOfMap", spec := "fnExactTailsOfMap", unfollowed := true, recurses := true, apart := false, narrowed := true }
def FnExactTailsOfMapUptoSaid : Prop := fnExactTailsOfMapUptoRow.holds Tryz.pinned (OpenSpec.upto fnExactTailsOfMapSpec)

/-- 'laws.FnExactCoverOf', WHERE WHAT IT READS IS OF BULK AT MOST 1048576: true; the input reads as it did. -/
def fnExactCoverOfUptoRow : OpenClaim := { program := "ytfaocpkdikjohaagreat", sum := "3af10781570f8bc83b8bd90fd8667cc019e3d3a41ad4ea232651bcc565ccd69e", func := "loop.example/g01076/laws.FnExactCoverOf", spec := "fnExactCoverOf", unfollowed := true, recurses := true, apart := false, narrowed := true }
def FnExactCoverOfUptoSaid : Prop := fnExactCoverOfUptoRow.holds Tryz.pinned (OpenSpec.upto fnExactCoverOfSpec)

/-- 'laws.FnExactComplementsOf', WHERE WHAT IT READS IS OF BULK AT MOST 1048576: true; the input reads as it did. -/
def fnExactComplementsOfUptoRow : OpenClaim := { program := "ytfaocpkdikjohaagreat", sum := "3af10781570f8bc83b8bd90fd8667cc019e3d3a41ad4ea232651bcc565ccd69e", func := "loop.example/g01076/laws.FnExactComplementsOf", spec := "fnExactComplementsOf", unfollowed := true, recurses := true, apart := false, narrowed := true }
def FnExactComplementsOfUptoSaid : Prop := fnExactComplementsOfUptoRow.holds Tryz.pinned (OpenSpec.upto fnExactComplementsOfSpec)

/-- 'laws.FnExactEquivalenceMap', WHERE WHAT IT READS IS OF BULK AT MOST 1048576: true; the input reads as it did. -/
def fnExactEquivalenceMapUptoRow : OpenClaim := { program := "ytfaocpkdikjohaagreat", sum := "3af10781570f8bc83b8bd90fd8667cc019e3d3a41ad4ea232651bcc565ccd69e", func := "loop.example/g01076/laws.FnExactEquivalenceMap", spec := "fnExactEquivalenceMap", unfollowed := true, recurses := true, apart := false, narrowed := true }
def FnExactEquivalenceMapUptoSaid : Prop := fnExactEquivalenceMapUptoRow.holds Tryz.pinned (OpenSpec.upto fnExactEquivalenceMapSpec)

/-- 'laws.FnExactKeepsRank', WHERE WHAT IT READS IS OF BULK AT MOST 1048576: true; the input reads as it did. -/
def fnExactKeepsRankUptoRow : OpenClaim := { program := "ytfaocpkdikjohaagreat", sum := "3af10781570f8bc83b8bd90fd8667cc019e3d3a41ad4ea232651bcc565ccd69e", func := "loop.example/g01076/laws.FnExactKeepsRank", spec := "fnExactKeepsRank", unfollowed := true, recurses := true, apart := false, narrowed := true }
def FnExactKeepsRankUptoSaid : Prop := fnExactKeepsRankUptoRow.holds Tryz.pinned (OpenSpec.upto fnExactKeepsRankSpec)

/-- 'laws.FnExactCoverMap', WHERE WHAT IT READS IS OF BULK AT MOST 1048576: true; the input reads as it did. -/
def fnExactCoverMapUptoRow : OpenClaim := { program := "ytfaocpkdikjohaagreat", sum := "3af10781570f8bc83b8bd90fd8667cc019e3d3a41ad4ea232651bcc565ccd69e", func := "loop.example/g01076/laws.FnExactCoverMap", spec := "fnExactCoverMap", unfollowed := true, recurses := true, apart := false, narrowed := true }
def FnExactCoverMapUptoSaid : Prop := fnExactCoverMapUptoRow.holds Tryz.pinned (OpenSpec.upto fnExactCoverMapSpec)

end Rows
end Go.Proofs.YtfaocpkdikjohaaGreat
