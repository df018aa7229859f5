/-
  No cell of these rows narrows 'for every input' (looked for: loops, veiled, ifaces, maps, wideKeys, modest, calm, conditions, laid).
  DERIVED. THE GIVEN ROWS OF THIS SEAT. 4 by the template 'for every input the law returns true; each argument reads behind the call as it read before'; 0 by the template 'total and deterministic' (their statements: YtkifphhpbcgieaaGreatTotals.lean).
  GIVEN WITH THE SEED: the statements are not yours to turn. If you find one false, say at which input.
  Laid BY PROGRAM, IN A SANDBOX (cutbox-rows.mjs): the forced cells as the released guide's own fill.sh prints them over the translation 426f65f31b8f3cd1… (all of the seat's roots in one cut). By AI agents, Wed Nov 11 2026. No macro, syntax, notation, axiom, sorry.
-/
import Derived.Test.YtkifphhpbcgieaaGreatChecked
import GoSem.Claim
import GoSem.ClaimJoined
import GoSem.ClaimMapViews
import Derived.JoinedTies
import Derived.KernelRfl
namespace Go.Proofs.YtkifphhpbcgieaaGreat
/- THE CELL 'sum', in the pinned program and in every row, IS THE sha256 OF THE DUMP (.gsa) THAT YtkifphhpbcgieaaGreatProg.lean LOADS. Nothing in Lean hashes anything: it is a label: what it is worth is what the hold of that sum in a sandbox is worth. -/
noncomputable def Tryz.pinned : Pinned := { name := "ytkifphhpbcgieaagreat", sum := "426f65f31b8f3cd1d4af54ee3c569f9ba2645f13ca8f5fb73d5d437e2c9bac0f", checked := Tryz.checked }
namespace Rows
def none {H : Type} : Left H := { results := [], args := [] }

/-- 'laws.FnExactReduceCocycle': WHATEVER THE INPUT: true; the input reads as it did. -/
def fnExactReduceCocycleSpec : ChangeSpec := { name := "fnExactReduceCocycle", fn := fun _ => fun
  | [d1, d2, d3] => { results := [.lit (.bool true)], args := [d1, d2, d3] }
  | _ => none }
def fnExactReduceCocycleRow : OpenClaim := { program := "ytkifphhpbcgieaagreat", sum := "426f65f31b8f3cd1d4af54ee3c569f9ba2645f13ca8f5fb73d5d437e2c9bac0f", func := "loop.example/g01076/laws.FnExactReduceCocycle", spec := "fnExactReduceCocycle", unfollowed := true, recurses := true, apart := false }
def FnExactReduceCocycleSaid : Prop := fnExactReduceCocycleRow.holds Tryz.pinned (OpenSpec.ofChange fnExactReduceCocycleSpec)

/-- ITS FALSE NEIGHBOUR: 'it returns false'. Refute it at one input. -/
def fnExactReduceCocycleWrong : ChangeSpec := { name := "fnExactReduceCocycle", fn := fun _ => fun
  | [d1, d2, d3] => { results := [.lit (.bool false)], args := [d1, d2, d3] }
  | _ => none }
def FnExactReduceCocycleWrongFalsely : Prop := fnExactReduceCocycleRow.holds Tryz.pinned (OpenSpec.ofChange fnExactReduceCocycleWrong)

/-- 'laws.FnExactBaerSum': WHATEVER THE INPUT: true; the input reads as it did. -/
def fnExactBaerSumSpec : ChangeSpec := { name := "fnExactBaerSum", fn := fun _ => fun
  | [d1, d2, d3, d4] => { results := [.lit (.bool true)], args := [d1, d2, d3, d4] }
  | _ => none }
def fnExactBaerSumRow : OpenClaim := { program := "ytkifphhpbcgieaagreat", sum := "426f65f31b8f3cd1d4af54ee3c569f9ba2645f13ca8f5fb73d5d437e2c9bac0f", func := "loop.example/g01076/laws.FnExactBaerSum", spec := "fnExactBaerSum", unfollowed := true, recurses := true, apart := false }
def FnExactBaerSumSaid : Prop := fnExactBaerSumRow.holds Tryz.pinned (OpenSpec.ofChange fnExactBaerSumSpec)

/-- ITS FALSE NEIGHBOUR: 'it returns false'. Refute it at one input. -/
def fnExactBaerSumWrong : ChangeSpec := { name := "fnExactBaerSum", fn := fun _ => fun
  | [d1, d2, d3, d4] => { results := [.lit (.bool false)], args := [d1, d2, d3, d4] }
  | _ => none }
def FnExactBaerSumWrongFalsely : Prop := fnExactBaerSumRow.holds Tryz.pinned (OpenSpec.ofChange fnExactBaerSumWrong)

/-- 'laws.FnExactAreCohomologous': WHATEVER THE INPUT: true; the input reads as it did. -/
def fnExactAreCohomologousSpec : ChangeSpec := { name := "fnExactAreCohomologous", fn := fun _ => fun
  | [d1, d2, d3, d4] => { results := [.lit (.bool true)], args := [d1, d2, d3, d4] }
  | _ => none }
def fnExactAreCohomologousRow : OpenClaim := { program := "ytkifphhpbcgieaagreat", sum := "426f65f31b8f3cd1d4af54ee3c569f9ba2645f13ca8f5fb73d5d437e2c9bac0f", func := "loop.example/g01076/laws.FnExactAreCohomologous", spec := "fnExactAreCohomologous", unfollowed := true, recurses := true, apart := false }
def FnExactAreCohomologousSaid : Prop := fnExactAreCohomologousRow.holds Tryz.pinned (OpenSpec.ofChange fnExactAreCohomologousSpec)

/-- ITS FALSE NEIGHBOUR: 'it returns false'. Refute it at one input. -/
def fnExactAreCohomologousWrong : ChangeSpec := { name := "fnExactAreCohomologous", fn := fun _ => fun
  | [d1, d2, d3, d4] => { results := [.lit (.bool false)], args := [d1, d2, d3, d4] }
  | _ => none }
def FnExactAreCohomologousWrongFalsely : Prop := fnExactAreCohomologousRow.holds Tryz.pinned (OpenSpec.ofChange fnExactAreCohomologousWrong)

/-- 'laws.FnExactSplittingOf': WHATEVER THE INPUT: true; the input reads as it did. -/
def fnExactSplittingOfSpec : ChangeSpec := { name := "fnExactSplittingOf", fn := fun _ => fun
  | [d1, d2, d3] => { results := [.lit (.bool true)], args := [d1, d2, d3] }
  | _ => none }
def fnExactSplittingOfRow : OpenClaim := { program := "ytkifphhpbcgieaagreat", sum := "426f65f31b8f3cd1d4af54ee3c569f9ba2645f13ca8f5fb73d5d437e2c9bac0f", func := "loop.example/g01076/laws.FnExactSplittingOf", spec := "fnExactSplittingOf", unfollowed := true, recurses := true, apart := false }
def FnExactSplittingOfSaid : Prop := fnExactSplittingOfRow.holds Tryz.pinned (OpenSpec.ofChange fnExactSplittingOfSpec)

/-- ITS FALSE NEIGHBOUR: 'it returns false'. Refute it at one input. -/
def fnExactSplittingOfWrong : ChangeSpec := { name := "fnExactSplittingOf", fn := fun _ => fun
  | [d1, d2, d3] => { results := [.lit (.bool false)], args := [d1, d2, d3] }
  | _ => none }
def FnExactSplittingOfWrongFalsely : Prop := fnExactSplittingOfRow.holds Tryz.pinned (OpenSpec.ofChange fnExactSplittingOfWrong)

/- THE SECOND FORM. 'bulk': how many values and letters a reading holds, each counted each time it is reached (what is shared counts as often as it is met; a slice's spare places count too). A statement '..UptoSaid' is the law's where the arguments, and the package variables that the reading takes, are together of bulk at most 1048576: NARROWER than '..Said'. Prove '..Said' where nothing that the law and all that it calls make is longer than what came in: it says more and counts as full. Else prove '..UptoSaid'. A law counts once. -/
mutual
def uptoBulk {H : Type} : DataW H → Nat
  | .lit (.string bytes) => bytes.length + 1
  | .lit _ => 1
  | .nil => 1
  | .ptr d => uptoBulk d + 1
  | .slice elems spare => uptoBulkAll elems + uptoBulkAll spare + 1
  | .agg parts => uptoBulkAll parts + 1
  | .iface _ d => uptoBulk d + 1
  | .map entries => uptoBulkEntries entries + 1
  | .held _ => 1
def uptoBulkAll {H : Type} : List (DataW H) → Nat
  | [] => 0
  | d :: r => uptoBulk d + uptoBulkAll r
def uptoBulkEntries {H : Type} : List (Lit × DataW H) → Nat
  | [] => 0
  | x :: r => uptoBulkEntry x + uptoBulkEntries r
def uptoBulkEntry {H : Type} : Lit × DataW H → Nat
  | (.string bytes, d) => bytes.length + uptoBulk d + 1
  | (_, d) => uptoBulk d + 1
 end
def uptoSmall : (H : Type) → List (DataW H) → Bool := fun _ ds => decide (uptoBulkAll ds ≤ 1048576)
def OpenSpec.upto (s : _root_.Go.ChangeSpec) : _root_.Go.OpenSpec := { _root_.Go.OpenSpec.ofChange s with cond := some uptoSmall }

/-- 'laws.FnExactReduceCocycle', WHERE WHAT IT READS IS OF BULK AT MOST 1048576: true; the input reads as it did. -/
def fnExactReduceCocycleUptoRow : OpenClaim := { program := "ytkifphhpbcgieaagreat", sum := "426f65f31b8f3cd1d4af54ee3c569f9ba2645f13ca8f5fb73d5d437e2c9bac0f", func := "loop.example/g01076/laws.FnExactReduceCocycle", spec := "fnExactReduceCocycle", unfollowed := true, recurses := true, apart := false, narrowed := true }
def FnExactReduceCocycleUptoSaid : Prop := fnExactReduceCocycleUptoRow.holds Tryz.pinned (OpenSpec.upto fnExactReduceCocycleSpec)

/-- 'laws.FnExactBaerSum', WHERE WHAT IT READS IS OF BULK AT MOST 1048576: true; the input reads as it did. -/
def fnExactBaerSumUptoRow : OpenClaim := { program := "ytkifphhpbcgieaagreat", sum := "426f65f31b8f3cd1d4af54ee3c569f9ba2645f13ca8f5fb73d5d437e2c9bac0f", func := "loop.example/g01076/laws.FnExactBaerSum", spec := "fnExactBaerSum", unfollowed := true, recurses := true, apart := false, narrowed := true }
def FnExactBaerSumUptoSaid : Prop := fnExactBaerSumUptoRow.holds Tryz.pinned (OpenSpec.upto fnExactBaerSumSpec)

/-- 'laws.FnExactAreCohomologous', WHERE WHAT IT READS IS OF BULK AT MOST 1048576: true; the input reads as it did. -/
def fnExactAreCohomologousUptoRow : OpenClaim := { program := "ytkifphhpbcgieaagreat", sum := "426f65f31b8f3cd1d4af54ee3c569f9ba2645f13ca8f5fb73d5d437e2c9bac0f", func := "loop.example/g01076/laws.FnExactAreCohomologous", spec := "fnExactAreCohomologous", unfollowed := true, recurses := true, apart := false, narrowed := true }
def FnExactAreCohomologousUptoSaid : Prop := fnExactAreCohomologousUptoRow.holds Tryz.pinned (OpenSpec.upto fnExactAreCohomologousSpec)

/-- 'laws.FnExactSplittingOf', WHERE WHAT IT READS IS OF BULK AT MOST 1048576: true; the input reads as it did. -/
def fnExactSplittingOfUptoRow : OpenClaim := { program := "ytkifphhpbcgieaagreat", sum := "426f65f31b8f3cd1d4af54ee3c569f9ba2645f13ca8f5fb73d5d437e2c9bac0f", func := "loop.example/g01076/laws.FnExactSplittingOf", spec := "fnExactSplittingOf", unfollowed := true, recurses := true, apart := false, narrowed := true }
def FnExactSplittingOfUptoSaid : Prop := fnExactSplittingOfUptoRow.holds Tryz.pinned (OpenSpec.upto fnExactSplittingOfSpec)

end Rows
end Go.Proofs.YtkifphhpbcgieaaGreat
