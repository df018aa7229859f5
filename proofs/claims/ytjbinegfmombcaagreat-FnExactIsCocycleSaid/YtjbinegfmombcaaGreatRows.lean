/-
  No cell of these rows narrows 'for every input' (looked for: loops, veiled, ifaces, maps, wideKeys, modest, calm, conditions, laid).
  DERIVED. THE GIVEN ROWS OF THIS SEAT. 7 by the template 'for every input the law returns true; each argument reads behind the call as it read before'; 0 by the template 'total and deterministic' (their statements: YtjbinegfmombcaaGreatTotals.lean).
  GIVEN WITH THE SEED: the statements are not yours to turn. If you find one false, say at which input.
  Laid BY PROGRAM, IN A SANDBOX (cutbox-rows.mjs): the forced cells as the released guide's own fill.sh prints them over the translation 1be435545c94a093… (all of the seat's roots in one cut). By AI agents, Wed Nov 11 2026. No macro, syntax, notation, axiom, sorry.
-/
import Derived.Test.YtjbinegfmombcaaGreatChecked
import GoSem.Claim
import GoSem.ClaimJoined
import GoSem.ClaimMapViews
import Derived.JoinedTies
import Derived.KernelRfl
namespace Go.Proofs.YtjbinegfmombcaaGreat
/- THE CELL 'sum', in the pinned program and in every row, IS THE sha256 OF THE DUMP (.gsa) THAT YtjbinegfmombcaaGreatProg.lean LOADS. Nothing in Lean hashes anything: it is a label: what it is worth is what the hold of that sum in a sandbox is worth. -/
noncomputable def Tryz.pinned : Pinned := { name := "ytjbinegfmombcaagreat", sum := "1be435545c94a093e363afadc19da136e1e247ca589c81c2f0c61120a75245d8", checked := Tryz.checked }
namespace Rows
def none {H : Type} : Left H := { results := [], args := [] }

/-- 'laws.FnExactDerivationAt': WHATEVER THE INPUT: true; the input reads as it did. -/
def fnExactDerivationAtSpec : ChangeSpec := { name := "fnExactDerivationAt", fn := fun _ => fun
  | [d1, d2, d3, d4] => { results := [.lit (.bool true)], args := [d1, d2, d3, d4] }
  | _ => none }
def fnExactDerivationAtRow : OpenClaim := { program := "ytjbinegfmombcaagreat", sum := "1be435545c94a093e363afadc19da136e1e247ca589c81c2f0c61120a75245d8", func := "loop.example/g01076/laws.FnExactDerivationAt", spec := "fnExactDerivationAt", unfollowed := true, recurses := true, apart := false }
def FnExactDerivationAtSaid : Prop := fnExactDerivationAtRow.holds Tryz.pinned (OpenSpec.ofChange fnExactDerivationAtSpec)

/-- ITS FALSE NEIGHBOUR: 'it returns false'. Refute it at one input. -/
def fnExactDerivationAtWrong : ChangeSpec := { name := "fnExactDerivationAt", fn := fun _ => fun
  | [d1, d2, d3, d4] => { results := [.lit (.bool false)], args := [d1, d2, d3, d4] }
  | _ => none }
def FnExactDerivationAtWrongFalsely : Prop := fnExactDerivationAtRow.holds Tryz.pinned (OpenSpec.ofChange fnExactDerivationAtWrong)

/-- 'laws.FnExactIsCocycle': WHATEVER THE INPUT: true; the input reads as it did. -/
def fnExactIsCocycleSpec : ChangeSpec := { name := "fnExactIsCocycle", fn := fun _ => fun
  | [d1, d2, d3] => { results := [.lit (.bool true)], args := [d1, d2, d3] }
  | _ => none }
def fnExactIsCocycleRow : OpenClaim := { program := "ytjbinegfmombcaagreat", sum := "1be435545c94a093e363afadc19da136e1e247ca589c81c2f0c61120a75245d8", func := "loop.example/g01076/laws.FnExactIsCocycle", spec := "fnExactIsCocycle", unfollowed := true, recurses := true, apart := false }
def FnExactIsCocycleSaid : Prop := fnExactIsCocycleRow.holds Tryz.pinned (OpenSpec.ofChange fnExactIsCocycleSpec)

/-- ITS FALSE NEIGHBOUR: 'it returns false'. Refute it at one input. -/
def fnExactIsCocycleWrong : ChangeSpec := { name := "fnExactIsCocycle", fn := fun _ => fun
  | [d1, d2, d3] => { results := [.lit (.bool false)], args := [d1, d2, d3] }
  | _ => none }
def FnExactIsCocycleWrongFalsely : Prop := fnExactIsCocycleRow.holds Tryz.pinned (OpenSpec.ofChange fnExactIsCocycleWrong)

/-- 'laws.FnExactIsSubmodule': WHATEVER THE INPUT: true; the input reads as it did. -/
def fnExactIsSubmoduleSpec : ChangeSpec := { name := "fnExactIsSubmodule", fn := fun _ => fun
  | [d1, d2, d3] => { results := [.lit (.bool true)], args := [d1, d2, d3] }
  | _ => none }
def fnExactIsSubmoduleRow : OpenClaim := { program := "ytjbinegfmombcaagreat", sum := "1be435545c94a093e363afadc19da136e1e247ca589c81c2f0c61120a75245d8", func := "loop.example/g01076/laws.FnExactIsSubmodule", spec := "fnExactIsSubmodule", unfollowed := true, recurses := true, apart := false }
def FnExactIsSubmoduleSaid : Prop := fnExactIsSubmoduleRow.holds Tryz.pinned (OpenSpec.ofChange fnExactIsSubmoduleSpec)

/-- ITS FALSE NEIGHBOUR: 'it returns false'. Refute it at one input. -/
def fnExactIsSubmoduleWrong : ChangeSpec := { name := "fnExactIsSubmodule", fn := fun _ => fun
  | [d1, d2, d3] => { results := [.lit (.bool false)], args := [d1, d2, d3] }
  | _ => none }
def FnExactIsSubmoduleWrongFalsely : Prop := fnExactIsSubmoduleRow.holds Tryz.pinned (OpenSpec.ofChange fnExactIsSubmoduleWrong)

/-- 'laws.FnExactInnerBasis': WHATEVER THE INPUT: true; the input reads as it did. -/
def fnExactInnerBasisSpec : ChangeSpec := { name := "fnExactInnerBasis", fn := fun _ => fun
  | [d1, d2] => { results := [.lit (.bool true)], args := [d1, d2] }
  | _ => none }
def fnExactInnerBasisRow : OpenClaim := { program := "ytjbinegfmombcaagreat", sum := "1be435545c94a093e363afadc19da136e1e247ca589c81c2f0c61120a75245d8", func := "loop.example/g01076/laws.FnExactInnerBasis", spec := "fnExactInnerBasis", unfollowed := true, recurses := true, apart := false }
def FnExactInnerBasisSaid : Prop := fnExactInnerBasisRow.holds Tryz.pinned (OpenSpec.ofChange fnExactInnerBasisSpec)

/-- ITS FALSE NEIGHBOUR: 'it returns false'. Refute it at one input. -/
def fnExactInnerBasisWrong : ChangeSpec := { name := "fnExactInnerBasis", fn := fun _ => fun
  | [d1, d2] => { results := [.lit (.bool false)], args := [d1, d2] }
  | _ => none }
def FnExactInnerBasisWrongFalsely : Prop := fnExactInnerBasisRow.holds Tryz.pinned (OpenSpec.ofChange fnExactInnerBasisWrong)

/-- 'laws.FnExactMovedVectors': WHATEVER THE INPUT: true; the input reads as it did. -/
def fnExactMovedVectorsSpec : ChangeSpec := { name := "fnExactMovedVectors", fn := fun _ => fun
  | [d1, d2] => { results := [.lit (.bool true)], args := [d1, d2] }
  | _ => none }
def fnExactMovedVectorsRow : OpenClaim := { program := "ytjbinegfmombcaagreat", sum := "1be435545c94a093e363afadc19da136e1e247ca589c81c2f0c61120a75245d8", func := "loop.example/g01076/laws.FnExactMovedVectors", spec := "fnExactMovedVectors", unfollowed := true, recurses := true, apart := false }
def FnExactMovedVectorsSaid : Prop := fnExactMovedVectorsRow.holds Tryz.pinned (OpenSpec.ofChange fnExactMovedVectorsSpec)

/-- ITS FALSE NEIGHBOUR: 'it returns false'. Refute it at one input. -/
def fnExactMovedVectorsWrong : ChangeSpec := { name := "fnExactMovedVectors", fn := fun _ => fun
  | [d1, d2] => { results := [.lit (.bool false)], args := [d1, d2] }
  | _ => none }
def FnExactMovedVectorsWrongFalsely : Prop := fnExactMovedVectorsRow.holds Tryz.pinned (OpenSpec.ofChange fnExactMovedVectorsWrong)

/-- 'laws.FnExactFixedVectors': WHATEVER THE INPUT: true; the input reads as it did. -/
def fnExactFixedVectorsSpec : ChangeSpec := { name := "fnExactFixedVectors", fn := fun _ => fun
  | [d1, d2] => { results := [.lit (.bool true)], args := [d1, d2] }
  | _ => none }
def fnExactFixedVectorsRow : OpenClaim := { program := "ytjbinegfmombcaagreat", sum := "1be435545c94a093e363afadc19da136e1e247ca589c81c2f0c61120a75245d8", func := "loop.example/g01076/laws.FnExactFixedVectors", spec := "fnExactFixedVectors", unfollowed := true, recurses := true, apart := false }
def FnExactFixedVectorsSaid : Prop := fnExactFixedVectorsRow.holds Tryz.pinned (OpenSpec.ofChange fnExactFixedVectorsSpec)

/-- ITS FALSE NEIGHBOUR: 'it returns false'. Refute it at one input. -/
def fnExactFixedVectorsWrong : ChangeSpec := { name := "fnExactFixedVectors", fn := fun _ => fun
  | [d1, d2] => { results := [.lit (.bool false)], args := [d1, d2] }
  | _ => none }
def FnExactFixedVectorsWrongFalsely : Prop := fnExactFixedVectorsRow.holds Tryz.pinned (OpenSpec.ofChange fnExactFixedVectorsWrong)

/-- 'laws.FnExactSubmoduleOf': WHATEVER THE INPUT: true; the input reads as it did. -/
def fnExactSubmoduleOfSpec : ChangeSpec := { name := "fnExactSubmoduleOf", fn := fun _ => fun
  | [d1, d2, d3] => { results := [.lit (.bool true)], args := [d1, d2, d3] }
  | _ => none }
def fnExactSubmoduleOfRow : OpenClaim := { program := "ytjbinegfmombcaagreat", sum := "1be435545c94a093e363afadc19da136e1e247ca589c81c2f0c61120a75245d8", func := "loop.example/g01076/laws.FnExactSubmoduleOf", spec := "fnExactSubmoduleOf", unfollowed := true, recurses := true, apart := false }
def FnExactSubmoduleOfSaid : Prop := fnExactSubmoduleOfRow.holds Tryz.pinned (OpenSpec.ofChange fnExactSubmoduleOfSpec)

/-- ITS FALSE NEIGHBOUR: 'it returns false'. Refute it at one input. -/
def fnExactSubmoduleOfWrong : ChangeSpec := { name := "fnExactSubmoduleOf", fn := fun _ => fun
  | [d1, d2, d3] => { results := [.lit (.bool false)], args := [d1, d2, d3] }
  | _ => none }
def FnExactSubmoduleOfWrongFalsely : Prop := fnExactSubmoduleOfRow.holds Tryz.pinned (OpenSpec.ofChange fnExactSubmoduleOfWrong)

/- THE SECOND FORM. 'bulk': how many values and letters a reading holds, each counted each time it is reached (what is shared counts as often as it is met; a slice's spare places count too). A statement '..UptoSaid' is the law's where the arguments, and the package variables that the reading takes, are together of bulk at most 1048576: NARROWER than '..Said'. Prove '..Said' where nothing that the law and all that it calls make is longer than what came in: it says more and counts as full. Else prove '..UptoSaid'. A law counts once. -/
mutual
def uptoBulk {H : Type} : DataW H → Nat
  | .lit (.string bytes) => bytes.length + 1
  | .lit _ => 1
  | .nil => 1
  | .ptr d => uptoBulk d + 1
  | .slice elems spare => uptoBulkAll elems + uptoBulkAll spare + 1
  | .agg parts => uptoBulkAll parts + 1
  | .iface _ d => uptoBulk d + 1
  | .map entries => uptoBulkEntries entries + 1
  | .held _ => 1
def uptoBulkAll {H : Type} : List (DataW H) → Nat
  | [] => 0
  | d :: r => uptoBulk d + uptoBulkAll r
def uptoBulkEntries {H : Type} : List (Lit × DataW H) → Nat
  | [] => 0
  | x :: r => uptoBulkEntry x + uptoBulkEntries r
def uptoBulkEntry {H : Type} : Lit × DataW H → Nat
  | (.string bytes, d) => bytes.length + uptoBulk d + 1
  | (_, d) => uptoBulk d + 1
 end
def uptoSmall : (H : Type) → List (DataW H) → Bool := fun _ ds => decide (uptoBulkAll ds ≤ 1048576)
def OpenSpec.upto (s : _root_.Go.ChangeSpec) : _root_.Go.OpenSpec := { _root_.Go.OpenSpec.ofChange s with cond := some uptoSmall }

/-- 'laws.FnExactDerivationAt', WHERE WHAT IT READS IS OF BULK AT MOST 1048576: true; the input reads as it did. -/
def fnExactDerivationAtUptoRow : OpenClaim := { program := "ytjbinegfmombcaagreat", sum := "1be435545c94a093e363afadc19da136e1e247ca589c81c2f0c61120a75245d8", func := "loop.example/g01076/laws.FnExactDerivationAt", spec := "fnExactDerivationAt", unfollowed := true, recurses := true, apart := false, narrowed := true }
def FnExactDerivationAtUptoSaid : Prop := fnExactDerivationAtUptoRow.holds Tryz.pinned (OpenSpec.upto fnExactDerivationAtSpec)

/-- 'laws.FnExactIsCocycle', WHERE WHAT IT READS IS OF BULK AT MOST 1048576: true; the input reads as it did. -/
def fnExactIsCocycleUptoRow : OpenClaim := { program := "ytjbinegfmombcaagreat", sum := "1be435545c94a093e363afadc19da136e1e247ca589c81c2f0c61120a75245d8", func := "loop.example/g01076/laws.FnExactIsCocycle", spec := "fnExactIsCocycle", unfollowed := true, recurses := true, apart := false, narrowed := true }
def FnExactIsCocycleUptoSaid : Prop := fnExactIsCocycleUptoRow.holds Tryz.pinned (OpenSpec.upto fnExactIsCocycleSpec)

/-- 'laws.FnExactIsSubmodule', WHERE WHAT IT READS IS OF BULK AT MOST 1048576: true; the input reads as it did. -/
def fnExactIsSubmoduleUptoRow : OpenClaim := { program := "ytjbinegfmombcaagreat", sum := "1be435545c94a093e363afadc19da136e1e247ca589c81c2f0c61120a75245d8", func := "loop.example/g01076/laws.FnExactIsSubmodule", spec := "fnExactIsSubmodule", unfollowed := true, recurses := true, apart := false, narrowed := true }
def FnExactIsSubmoduleUptoSaid : Prop := fnExactIsSubmoduleUptoRow.holds Tryz.pinned (OpenSpec.upto fnExactIsSubmoduleSpec)

/-- 'laws.FnExactInnerBasis', WHERE WHAT IT READS IS OF BULK AT MOST 1048576: true; the input reads as it did. -/
def fnExactInnerBasisUptoRow : OpenClaim := { program := "ytjbinegfmombcaagreat", sum := "1be435545c94a093e363afadc19da136e1e247ca589c81c2f0c61120a75245d8", func := "loop.example/g01076/laws.FnExactInnerBasis", spec := "fnExactInnerBasis", unfollowed := true, recurses := true, apart := false, narrowed := true }
def FnExactInnerBasisUptoSaid : Prop := fnExactInnerBasisUptoRow.holds Tryz.pinned (OpenSpec.upto fnExactInnerBasisSpec)

/-- 'laws.FnExactMovedVectors', WHERE WHAT IT READS IS OF BULK AT MOST 1048576: true; the input reads as it did. -/
def fnExactMovedVectorsUptoRow : OpenClaim := { program := "ytjbinegfmombcaagreat", sum := "1be435545c94a093e363afadc19da136e1e247ca589c81c2f0c61120a75245d8", func := "loop.example/g01076/laws.FnExactMovedVectors", spec := "fnExactMovedVectors", unfollowed := true, recurses := true, apart := false, narrowed := true }
def FnExactMovedVectorsUptoSaid : Prop := fnExactMovedVectorsUptoRow.holds Tryz.pinned (OpenSpec.upto fnExactMovedVectorsSpec)

/-- 'laws.FnExactFixedVectors', WHERE WHAT IT READS IS OF BULK AT MOST 1048576: true; the input reads as it did. -/
def fnExactFixedVectorsUptoRow : OpenClaim := { program := "ytjbinegfmombcaagreat", sum := "1be435545c94a093e363afadc19da136e1e247ca589c81c2f0c61120a75245d8", func := "loop.example/g01076/laws.FnExactFixedVectors", spec := "fnExactFixedVectors", unfollowed := true, recurses := true, apart := false, narrowed := true }
def FnExactFixedVectorsUptoSaid : Prop := fnExactFixedVectorsUptoRow.holds Tryz.pinned (OpenSpec.upto fnExactFixedVectorsSpec)

/-- 'laws.FnExactSubmoduleOf', WHERE WHAT IT READS IS OF BULK AT MOST 1048576: true; the input reads as it did. -/
def fnExactSubmoduleOfUptoRow : OpenClaim := { program := "ytjbinegfmombcaagreat", sum := "1be435545c94a093e363afadc19da136e1e247ca589c81c2f0c61120a75245d8", func := "loop.example/g01076/laws.FnExactSubmoduleOf", spec := "fnExactSubmoduleOf", unfollowed := true, recurses := true, apart := false, narrowed := true }
def FnExactSubmoduleOfUptoSaid : Prop := fnExactSubmoduleOfUptoRow.holds Tryz.pinned (OpenSpec.upto fnExactSubmoduleOfSpec)

end Rows
end Go.Proofs.YtjbinegfmombcaaGreat
