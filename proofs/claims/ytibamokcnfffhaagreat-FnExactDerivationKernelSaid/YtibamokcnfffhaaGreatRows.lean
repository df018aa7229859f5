/-
  No cell of these rows narrows 'for every input' (looked for: loops, veiled, ifaces, maps, wideKeys, modest, calm, conditions, laid).
  DERIVED. THE GIVEN ROWS OF THIS SEAT. 3 by the template 'for every input the law returns true; each argument reads behind the call as it read before'; 0 by the template 'total and deterministic' (their statements: YtibamokcnfffhaaGreatTotals.lean).
  GIVEN WITH THE SEED: the statements are not yours to turn. If you find one false, say at which input.
  Laid BY PROGRAM, IN A SANDBOX (cutbox-rows.mjs): the forced cells as the released guide's own fill.sh prints them over the translation 0dcc778277cce7d1… (all of the seat's roots in one cut). By AI agents, Wed Nov 11 2026. No macro, syntax, notation, axiom, sorry.
-/
import Derived.Test.YtibamokcnfffhaaGreatChecked
import GoSem.Claim
import GoSem.ClaimJoined
import GoSem.ClaimMapViews
import Derived.JoinedTies
import Derived.KernelRfl
namespace Go.Proofs.YtibamokcnfffhaaGreat
/- THE CELL 'sum', in the pinned program and in every row, IS THE sha256 OF THE DUMP (.gsa) THAT YtibamokcnfffhaaGreatProg.lean LOADS. Nothing in Lean hashes anything: it is a label: what it is worth is what the hold of that sum in a sandbox is worth. -/
noncomputable def Tryz.pinned : Pinned := { name := "ytibamokcnfffhaagreat", sum := "0dcc778277cce7d11e51620bd9efc8ca7fc030cc7a4d7b1f442287f024b57be4", checked := Tryz.checked }
namespace Rows
def none {H : Type} : Left H := { results := [], args := [] }

/-- 'laws.FnExactDerivationKernel': WHATEVER THE INPUT: true; the input reads as it did. -/
def fnExactDerivationKernelSpec : ChangeSpec := { name := "fnExactDerivationKernel", fn := fun _ => fun
  | [d1, d2, d3] => { results := [.lit (.bool true)], args := [d1, d2, d3] }
  | _ => none }
def fnExactDerivationKernelRow : OpenClaim := { program := "ytibamokcnfffhaagreat", sum := "0dcc778277cce7d11e51620bd9efc8ca7fc030cc7a4d7b1f442287f024b57be4", func := "loop.example/g01076/laws.FnExactDerivationKernel", spec := "fnExactDerivationKernel", unfollowed := true, recurses := true, apart := false }
def FnExactDerivationKernelSaid : Prop := fnExactDerivationKernelRow.holds Tryz.pinned (OpenSpec.ofChange fnExactDerivationKernelSpec)

/-- ITS FALSE NEIGHBOUR: 'it returns false'. Refute it at one input. -/
def fnExactDerivationKernelWrong : ChangeSpec := { name := "fnExactDerivationKernel", fn := fun _ => fun
  | [d1, d2, d3] => { results := [.lit (.bool false)], args := [d1, d2, d3] }
  | _ => none }
def FnExactDerivationKernelWrongFalsely : Prop := fnExactDerivationKernelRow.holds Tryz.pinned (OpenSpec.ofChange fnExactDerivationKernelWrong)

/-- 'laws.FnExactComplementAt': WHATEVER THE INPUT: true; the input reads as it did. -/
def fnExactComplementAtSpec : ChangeSpec := { name := "fnExactComplementAt", fn := fun _ => fun
  | [d1, d2, d3, d4] => { results := [.lit (.bool true)], args := [d1, d2, d3, d4] }
  | _ => none }
def fnExactComplementAtRow : OpenClaim := { program := "ytibamokcnfffhaagreat", sum := "0dcc778277cce7d11e51620bd9efc8ca7fc030cc7a4d7b1f442287f024b57be4", func := "loop.example/g01076/laws.FnExactComplementAt", spec := "fnExactComplementAt", unfollowed := true, recurses := true, apart := false }
def FnExactComplementAtSaid : Prop := fnExactComplementAtRow.holds Tryz.pinned (OpenSpec.ofChange fnExactComplementAtSpec)

/-- ITS FALSE NEIGHBOUR: 'it returns false'. Refute it at one input. -/
def fnExactComplementAtWrong : ChangeSpec := { name := "fnExactComplementAt", fn := fun _ => fun
  | [d1, d2, d3, d4] => { results := [.lit (.bool false)], args := [d1, d2, d3, d4] }
  | _ => none }
def FnExactComplementAtWrongFalsely : Prop := fnExactComplementAtRow.holds Tryz.pinned (OpenSpec.ofChange fnExactComplementAtWrong)

/-- 'laws.FnExactAllSubmodules': WHATEVER THE INPUT: true; the input reads as it did. -/
def fnExactAllSubmodulesSpec : ChangeSpec := { name := "fnExactAllSubmodules", fn := fun _ => fun
  | [d1, d2] => { results := [.lit (.bool true)], args := [d1, d2] }
  | _ => none }
def fnExactAllSubmodulesRow : OpenClaim := { program := "ytibamokcnfffhaagreat", sum := "0dcc778277cce7d11e51620bd9efc8ca7fc030cc7a4d7b1f442287f024b57be4", func := "loop.example/g01076/laws.FnExactAllSubmodules", spec := "fnExactAllSubmodules", unfollowed := true, recurses := true, apart := false }
def FnExactAllSubmodulesSaid : Prop := fnExactAllSubmodulesRow.holds Tryz.pinned (OpenSpec.ofChange fnExactAllSubmodulesSpec)

/-- ITS FALSE NEIGHBOUR: 'it returns false'. Refute it at one input. -/
def fnExactAllSubmodulesWrong : ChangeSpec := { name := "fnExactAllSubmodules", fn := fun _ => fun
  | [d1, d2] => { results := [.lit (.bool false)], args := [d1, d2] }
  | _ => none }
def FnExactAllSubmodulesWrongFalsely : Prop := fnExactAllSubmodulesRow.holds Tryz.pinned (OpenSpec.ofChange fnExactAllSubmodulesWrong)

/- THE SECOND FORM. 'bulk': how many values and letters a reading holds, each counted each time it is reached (what is shared counts as often as it is met; a slice's spare places count too). A statement '..UptoSaid' is the law's where the arguments, and the package variables that the reading takes, are together of bulk at most 1048576: NARROWER than '..Said'. Prove '..Said' where nothing that the law and all that it calls make is longer than what came in: it says more and counts as full. Else prove '..UptoSaid'. A law counts once. -/
mutual
def uptoBulk {H : Type} : DataW H → Nat
  | .lit (.string bytes) => bytes.length + 1
  | .lit _ => 1
  | .nil => 1
  | .ptr d => uptoBulk d + 1
  | .slice elems spare => uptoBulkAll elems + uptoBulkAll spare + 1
  | .agg parts => uptoBulkAll parts + 1
  | .iface _ d => uptoBulk d + 1
  | .map entries => uptoBulkEntries entries + 1
  | .held _ => 1
def uptoBulkAll {H : Type} : List (DataW H) → Nat
  | [] => 0
  | d :: r => uptoBulk d + uptoBulkAll r
def uptoBulkEntries {H : Type} : List (Lit × DataW H) → Nat
  | [] => 0
  | x :: r => uptoBulkEntry x + uptoBulkEntries r
def uptoBulkEntry {H : Type} : Lit × DataW H → Nat
  | (.string bytes, d) => bytes.length + uptoBulk d + 1
  | (_, d) => uptoBulk d + 1
 end
def uptoSmall : (H : Type) → List (DataW H) → Bool := fun _ ds => decide (uptoBulkAll ds ≤ 1048576)
def OpenSpec.upto (s : _root_.Go.ChangeSpec) : _root_.Go.OpenSpec := { _root_.Go.OpenSpec.ofChange s with cond := some uptoSmall }

/-- 'laws.FnExactDerivationKernel', WHERE WHAT IT READS IS OF BULK AT MOST 1048576: true; the input reads as it did. -/
def fnExactDerivationKernelUptoRow : OpenClaim := { program := "ytibamokcnfffhaagreat", sum := "0dcc778277cce7d11e51620bd9efc8ca7fc030cc7a4d7b1f442287f024b57be4", func := "loop.example/g01076/laws.FnExactDerivationKernel", spec := "fnExactDerivationKernel", unfollowed := true, recurses := true, apart := false, narrowed := true }
def FnExactDerivationKernelUptoSaid : Prop := fnExactDerivationKernelUptoRow.holds Tryz.pinned (OpenSpec.upto fnExactDerivationKernelSpec)

/-- 'laws.FnExactComplementAt', WHERE WHAT IT READS IS OF BULK AT MOST 1048576: true; the input reads as it did. -/
def fnExactComplementAtUptoRow : OpenClaim := { program := "ytibamokcnfffhaagreat", sum := "0dcc778277cce7d11e51620bd9efc8ca7fc030cc7a4d7b1f442287f024b57be4", func := "loop.example/g01076/laws.FnExactComplementAt", spec := "fnExactComplementAt", unfollowed := true, recurses := true, apart := false, narrowed := true }
def FnExactComplementAtUptoSaid : Prop := fnExactComplementAtUptoRow.holds Tryz.pinned (OpenSpec.upto fnExactComplementAtSpec)

/-- 'laws.FnExactAllSubmodules', WHERE WHAT IT READS IS OF BULK AT MOST 1048576: true; the input reads as it did. -/
def fnExactAllSubmodulesUptoRow : OpenClaim := { program := "ytibamokcnfffhaagreat", sum := "0dcc778277cce7d11e51620bd9efc8ca7fc030cc7a4d7b1f442287f024b57be4", func := "loop.example/g01076/laws.FnExactAllSubmodules", spec := "fnExactAllSubmodules", unfollowed := true, recurses := true, apart := false, narrowed := true }
def FnExactAllSubmodulesUptoSaid : Prop := fnExactAllSubmodulesUptoRow.holds Tryz.pinned (OpenSpec.upto fnExactAllSubmodulesSpec)

end Rows
end Go.Proofs.YtibamokcnfffhaaGreat
