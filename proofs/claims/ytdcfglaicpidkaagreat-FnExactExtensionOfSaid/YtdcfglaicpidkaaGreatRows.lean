/-
  No cell of these rows narrows 'for every input' (looked for: loops, veiled, ifaces, maps, wideKeys, modest, calm, conditions, laid).
  DERIVED. THE GIVEN ROWS OF THIS SEAT. 4 by the template 'for every input the law returns true; each argument reads behind the call as it read before'; 0 by the template 'total and deterministic' (their statements: YtdcfglaicpidkaaGreatTotals.lean).
  GIVEN WITH THE SEED: the statements are not yours to turn. If you find one false, say at which input.
  Laid BY PROGRAM, IN A SANDBOX (cutbox-rows.mjs): the forced cells as the released guide's own fill.sh prints them over the translation 4373d3db7f2f65e8… (all of the seat's roots in one cut). By AI agents, Wed Nov 11 2026. No macro, syntax, notation, axiom, sorry.
-/
import Derived.Test.YtdcfglaicpidkaaGreatChecked
import GoSem.Claim
import GoSem.ClaimJoined
import GoSem.ClaimMapViews
import Derived.JoinedTies
import Derived.KernelRfl
namespace Go.Proofs.YtdcfglaicpidkaaGreat
/- THE CELL 'sum', in the pinned program and in every row, IS THE sha256 OF THE DUMP (.gsa) THAT YtdcfglaicpidkaaGreatProg.lean LOADS. Nothing in Lean hashes anything: it is a label: what it is worth is what the hold of that sum in a sandbox is worth. -/
noncomputable def Tryz.pinned : Pinned := { name := "ytdcfglaicpidkaagreat", sum := "4373d3db7f2f65e80f7c4a457b63db0134ade6f313ecdf89075e5d95326f0d37", checked := Tryz.checked }
namespace Rows
def none {H : Type} : Left H := { results := [], args := [] }

/-- 'laws.FnExactCoboundaryBasis': WHATEVER THE INPUT: true; the input reads as it did. -/
def fnExactCoboundaryBasisSpec : ChangeSpec := { name := "fnExactCoboundaryBasis", fn := fun _ => fun
  | [d1, d2] => { results := [.lit (.bool true)], args := [d1, d2] }
  | _ => none }
def fnExactCoboundaryBasisRow : OpenClaim := { program := "ytdcfglaicpidkaagreat", sum := "4373d3db7f2f65e80f7c4a457b63db0134ade6f313ecdf89075e5d95326f0d37", func := "loop.example/g01076/laws.FnExactCoboundaryBasis", spec := "fnExactCoboundaryBasis", unfollowed := true, recurses := true, apart := false }
def FnExactCoboundaryBasisSaid : Prop := fnExactCoboundaryBasisRow.holds Tryz.pinned (OpenSpec.ofChange fnExactCoboundaryBasisSpec)

/-- ITS FALSE NEIGHBOUR: 'it returns false'. Refute it at one input. -/
def fnExactCoboundaryBasisWrong : ChangeSpec := { name := "fnExactCoboundaryBasis", fn := fun _ => fun
  | [d1, d2] => { results := [.lit (.bool false)], args := [d1, d2] }
  | _ => none }
def FnExactCoboundaryBasisWrongFalsely : Prop := fnExactCoboundaryBasisRow.holds Tryz.pinned (OpenSpec.ofChange fnExactCoboundaryBasisWrong)

/-- 'laws.FnExactFirstCohomology': WHATEVER THE INPUT: true; the input reads as it did. -/
def fnExactFirstCohomologySpec : ChangeSpec := { name := "fnExactFirstCohomology", fn := fun _ => fun
  | [d1, d2] => { results := [.lit (.bool true)], args := [d1, d2] }
  | _ => none }
def fnExactFirstCohomologyRow : OpenClaim := { program := "ytdcfglaicpidkaagreat", sum := "4373d3db7f2f65e80f7c4a457b63db0134ade6f313ecdf89075e5d95326f0d37", func := "loop.example/g01076/laws.FnExactFirstCohomology", spec := "fnExactFirstCohomology", unfollowed := true, recurses := true, apart := false }
def FnExactFirstCohomologySaid : Prop := fnExactFirstCohomologyRow.holds Tryz.pinned (OpenSpec.ofChange fnExactFirstCohomologySpec)

/-- ITS FALSE NEIGHBOUR: 'it returns false'. Refute it at one input. -/
def fnExactFirstCohomologyWrong : ChangeSpec := { name := "fnExactFirstCohomology", fn := fun _ => fun
  | [d1, d2] => { results := [.lit (.bool false)], args := [d1, d2] }
  | _ => none }
def FnExactFirstCohomologyWrongFalsely : Prop := fnExactFirstCohomologyRow.holds Tryz.pinned (OpenSpec.ofChange fnExactFirstCohomologyWrong)

/-- 'laws.FnExactDerivationBasis': WHATEVER THE INPUT: true; the input reads as it did. -/
def fnExactDerivationBasisSpec : ChangeSpec := { name := "fnExactDerivationBasis", fn := fun _ => fun
  | [d1, d2] => { results := [.lit (.bool true)], args := [d1, d2] }
  | _ => none }
def fnExactDerivationBasisRow : OpenClaim := { program := "ytdcfglaicpidkaagreat", sum := "4373d3db7f2f65e80f7c4a457b63db0134ade6f313ecdf89075e5d95326f0d37", func := "loop.example/g01076/laws.FnExactDerivationBasis", spec := "fnExactDerivationBasis", unfollowed := true, recurses := true, apart := false }
def FnExactDerivationBasisSaid : Prop := fnExactDerivationBasisRow.holds Tryz.pinned (OpenSpec.ofChange fnExactDerivationBasisSpec)

/-- ITS FALSE NEIGHBOUR: 'it returns false'. Refute it at one input. -/
def fnExactDerivationBasisWrong : ChangeSpec := { name := "fnExactDerivationBasis", fn := fun _ => fun
  | [d1, d2] => { results := [.lit (.bool false)], args := [d1, d2] }
  | _ => none }
def FnExactDerivationBasisWrongFalsely : Prop := fnExactDerivationBasisRow.holds Tryz.pinned (OpenSpec.ofChange fnExactDerivationBasisWrong)

/-- 'laws.FnExactExtensionOf': WHATEVER THE INPUT: true; the input reads as it did. -/
def fnExactExtensionOfSpec : ChangeSpec := { name := "fnExactExtensionOf", fn := fun _ => fun
  | [d1, d2, d3] => { results := [.lit (.bool true)], args := [d1, d2, d3] }
  | _ => none }
def fnExactExtensionOfRow : OpenClaim := { program := "ytdcfglaicpidkaagreat", sum := "4373d3db7f2f65e80f7c4a457b63db0134ade6f313ecdf89075e5d95326f0d37", func := "loop.example/g01076/laws.FnExactExtensionOf", spec := "fnExactExtensionOf", unfollowed := true, recurses := true, apart := false }
def FnExactExtensionOfSaid : Prop := fnExactExtensionOfRow.holds Tryz.pinned (OpenSpec.ofChange fnExactExtensionOfSpec)

/-- ITS FALSE NEIGHBOUR: 'it returns false'. Refute it at one input. -/
def fnExactExtensionOfWrong : ChangeSpec := { name := "fnExactExtensionOf", fn := fun _ => fun
  | [d1, d2, d3] => { results := [.lit (.bool false)], args := [d1, d2, d3] }
  | _ => none }
def FnExactExtensionOfWrongFalsely : Prop := fnExactExtensionOfRow.holds Tryz.pinned (OpenSpec.ofChange fnExactExtensionOfWrong)

/- THE SECOND FORM. 'bulk': how many values and letters a reading holds, each counted each time it is reached (what is shared counts as often as it is met; a slice's spare places count too). A statement '..UptoSaid' is the law's where the arguments, and the package variables that the reading takes, are together of bulk at most 1048576: NARROWER than '..Said'. Prove '..Said' where nothing that the law and all that it calls make is longer than what came in: it says more and counts as full. Else prove '..UptoSaid'. A law counts once. -/
mutual
def uptoBulk {H : Type} : DataW H → Nat
  | .lit (.string bytes) => bytes.length + 1
  | .lit _ => 1
  | .nil => 1
  | .ptr d => uptoBulk d + 1
  | .slice elems spare => uptoBulkAll elems + uptoBulkAll spare + 1
  | .agg parts => uptoBulkAll parts + 1
  | .iface _ d => uptoBulk d + 1
  | .map entries => uptoBulkEntries entries + 1
  | .held _ => 1
def uptoBulkAll {H : Type} : List (DataW H) → Nat
  | [] => 0
  | d :: r => uptoBulk d + uptoBulkAll r
def uptoBulkEntries {H : Type} : List (Lit × DataW H) → Nat
  | [] => 0
  | x :: r => uptoBulkEntry x + uptoBulkEntries r
def uptoBulkEntry {H : Type} : Lit × DataW H → Nat
  | (.string bytes, d) => bytes.length + uptoBulk d + 1
  | (_, d) => uptoBulk d + 1
 end
def uptoSmall : (H : Type) → List (DataW H) → Bool := fun _ ds => decide (uptoBulkAll ds ≤ 1048576)
def OpenSpec.upto (s : _root_.Go.ChangeSpec) : _root_.Go.OpenSpec := { _root_.Go.OpenSpec.ofChange s with cond := some uptoSmall }

/-- 'laws.FnExactCoboundaryBasis', WHERE WHAT IT READS IS OF BULK AT MOST 1048576: true; the input reads as it did. -/
def fnExactCoboundaryBasisUptoRow : OpenClaim := { program := "ytdcfglaicpidkaagreat", sum := "4373d3db7f2f65e80f7c4a457b63db0134ade6f313ecdf89075e5d95326f0d37", func := "loop.example/g01076/laws.FnExactCoboundaryBasis", spec := "fnExactCoboundaryBasis", unfollowed := true, recurses := true, apart := false, narrowed := true }
def FnExactCoboundaryBasisUptoSaid : Prop := fnExactCoboundaryBasisUptoRow.holds Tryz.pinned (OpenSpec.upto fnExactCoboundaryBasisSpec)

/-- 'laws.FnExactFirstCohomology', WHERE WHAT IT READS IS OF BULK AT MOST 1048576: true; the input reads as it did. -/
def fnExactFirstCohomologyUptoRow : OpenClaim := { program := "ytdcfglaicpidkaagreat", sum := "4373d3db7f2f65e80f7c4a457b63db0134ade6f313ecdf89075e5d95326f0d37", func := "loop.example/g01076/laws.FnExactFirstCohomology", spec := "fnExactFirstCohomology", unfollowed := true, recurses := true, apart := false, narrowed := true }
def FnExactFirstCohomologyUptoSaid : Prop := fnExactFirstCohomologyUptoRow.holds Tryz.pinned (OpenSpec.upto fnExactFirstCohomologySpec)

/-- 'laws.FnExactDerivationBasis', WHERE WHAT IT READS IS OF BULK AT MOST 1048576: true; the input reads as it did. -/
def fnExactDerivationBasisUptoRow : OpenClaim := { program := "ytdcfglaicpidkaagreat", sum := "4373d3db7f2f65e80f7c4a457b63db0134ade6f313ecdf89075e5d95326f0d37", func := "loop.example/g01076/laws.FnExactDerivationBasis", spec := "fnExactDerivationBasis", unfollowed := true, recurses := true, apart := false, narrowed := true }
def FnExactDerivationBasisUptoSaid : Prop := fnExactDerivationBasisUptoRow.holds Tryz.pinned (OpenSpec.upto fnExactDerivationBasisSpec)

/-- 'laws.FnExactExtensionOf', WHERE WHAT IT READS IS OF BULK AT MOST 1048576: true; the input reads as it did. -/
def fnExactExtensionOfUptoRow : OpenClaim := { program := "ytdcfglaicpidkaagreat", sum := "4373d3db7f2f65e80f7c4a457b63db0134ade6f313ecdf89075e5d95326f0d37", func := "loop.example/g01076/laws.FnExactExtensionOf", spec := "fnExactExtensionOf", unfollowed := true, recurses := true, apart := false, narrowed := true }
def FnExactExtensionOfUptoSaid : Prop := fnExactExtensionOfUptoRow.holds Tryz.pinned (OpenSpec.upto fnExactExtensionOfSpec)

end Rows
end Go.Proofs.YtdcfglaicpidkaaGreat
