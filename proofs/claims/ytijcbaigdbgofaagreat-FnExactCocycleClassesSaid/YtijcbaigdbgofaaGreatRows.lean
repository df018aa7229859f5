/-
  No cell of these rows narrows 'for every input' (looked for: loops, veiled, ifaces, maps, wideKeys, modest, calm, conditions, laid).
  DERIVED. THE GIVEN ROWS OF THIS SEAT. 3 by the template 'for every input the law returns true; each argument reads behind the call as it read before'; 0 by the template 'total and deterministic' (their statements: YtijcbaigdbgofaaGreatTotals.lean).
  GIVEN WITH THE SEED: the statements are not yours to turn. If you find one false, say at which input.
  Laid BY PROGRAM, IN A SANDBOX (cutbox-rows.mjs): the forced cells as the released guide's own fill.sh prints them over the translation 693dcab769fcee76… (all of the seat's roots in one cut). By AI agents, Wed Nov 11 2026. No macro, syntax, notation, axiom, sorry.
-/
import Derived.Test.YtijcbaigdbgofaaGreatChecked
import GoSem.Claim
import GoSem.ClaimJoined
import GoSem.ClaimMapViews
import Derived.JoinedTies
import Derived.KernelRfl
namespace Go.Proofs.YtijcbaigdbgofaaGreat
/- THE CELL 'sum', in the pinned program and in every row, IS THE sha256 OF THE DUMP (.gsa) THAT YtijcbaigdbgofaaGreatProg.lean LOADS. Nothing in Lean hashes anything: it is a label: what it is worth is what the hold of that sum in a sandbox is worth. -/
noncomputable def Tryz.pinned : Pinned := { name := "ytijcbaigdbgofaagreat", sum := "693dcab769fcee76435d13aa18d7bbae3d232cd0c5a8db653418259afea1aadf", checked := Tryz.checked }
namespace Rows
def none {H : Type} : Left H := { results := [], args := [] }

/-- 'laws.FnExactSecondCohomology': WHATEVER THE INPUT: true; the input reads as it did. -/
def fnExactSecondCohomologySpec : ChangeSpec := { name := "fnExactSecondCohomology", fn := fun _ => fun
  | [d1, d2] => { results := [.lit (.bool true)], args := [d1, d2] }
  | _ => none }
def fnExactSecondCohomologyRow : OpenClaim := { program := "ytijcbaigdbgofaagreat", sum := "693dcab769fcee76435d13aa18d7bbae3d232cd0c5a8db653418259afea1aadf", func := "loop.example/g01076/laws.FnExactSecondCohomology", spec := "fnExactSecondCohomology", unfollowed := true, recurses := true, apart := false }
def FnExactSecondCohomologySaid : Prop := fnExactSecondCohomologyRow.holds Tryz.pinned (OpenSpec.ofChange fnExactSecondCohomologySpec)

/-- ITS FALSE NEIGHBOUR: 'it returns false'. Refute it at one input. -/
def fnExactSecondCohomologyWrong : ChangeSpec := { name := "fnExactSecondCohomology", fn := fun _ => fun
  | [d1, d2] => { results := [.lit (.bool false)], args := [d1, d2] }
  | _ => none }
def FnExactSecondCohomologyWrongFalsely : Prop := fnExactSecondCohomologyRow.holds Tryz.pinned (OpenSpec.ofChange fnExactSecondCohomologyWrong)

/-- 'laws.FnExactCocycleClasses': WHATEVER THE INPUT: true; the input reads as it did. -/
def fnExactCocycleClassesSpec : ChangeSpec := { name := "fnExactCocycleClasses", fn := fun _ => fun
  | [d1, d2] => { results := [.lit (.bool true)], args := [d1, d2] }
  | _ => none }
def fnExactCocycleClassesRow : OpenClaim := { program := "ytijcbaigdbgofaagreat", sum := "693dcab769fcee76435d13aa18d7bbae3d232cd0c5a8db653418259afea1aadf", func := "loop.example/g01076/laws.FnExactCocycleClasses", spec := "fnExactCocycleClasses", unfollowed := true, recurses := true, apart := false }
def FnExactCocycleClassesSaid : Prop := fnExactCocycleClassesRow.holds Tryz.pinned (OpenSpec.ofChange fnExactCocycleClassesSpec)

/-- ITS FALSE NEIGHBOUR: 'it returns false'. Refute it at one input. -/
def fnExactCocycleClassesWrong : ChangeSpec := { name := "fnExactCocycleClasses", fn := fun _ => fun
  | [d1, d2] => { results := [.lit (.bool false)], args := [d1, d2] }
  | _ => none }
def FnExactCocycleClassesWrongFalsely : Prop := fnExactCocycleClassesRow.holds Tryz.pinned (OpenSpec.ofChange fnExactCocycleClassesWrong)

/-- 'laws.FnExactEquivalenceMap': WHATEVER THE INPUT: true; the input reads as it did. -/
def fnExactEquivalenceMapSpec : ChangeSpec := { name := "fnExactEquivalenceMap", fn := fun _ => fun
  | [d1, d2, d3, d4] => { results := [.lit (.bool true)], args := [d1, d2, d3, d4] }
  | _ => none }
def fnExactEquivalenceMapRow : OpenClaim := { program := "ytijcbaigdbgofaagreat", sum := "693dcab769fcee76435d13aa18d7bbae3d232cd0c5a8db653418259afea1aadf", func := "loop.example/g01076/laws.FnExactEquivalenceMap", spec := "fnExactEquivalenceMap", unfollowed := true, recurses := true, apart := false }
def FnExactEquivalenceMapSaid : Prop := fnExactEquivalenceMapRow.holds Tryz.pinned (OpenSpec.ofChange fnExactEquivalenceMapSpec)

/-- ITS FALSE NEIGHBOUR: 'it returns false'. Refute it at one input. -/
def fnExactEquivalenceMapWrong : ChangeSpec := { name := "fnExactEquivalenceMap", fn := fun _ => fun
  | [d1, d2, d3, d4] => { results := [.lit (.bool false)], args := [d1, d2, d3, d4] }
  | _ => none }
def FnExactEquivalenceMapWrongFalsely : Prop := fnExactEquivalenceMapRow.holds Tryz.pinned (OpenSpec.ofChange fnExactEquivalenceMapWrong)

/- THE SECOND FORM. 'bulk': how many values and letters a reading holds, each counted each time it is reached (what is shared counts as often as it is met; a slice's spare places count too). A statement '..UptoSaid' is the law's where the arguments, and the package variables that the reading takes, are together of bulk at most 1048576: NARROWER than '..Said'. Prove '..Said' where nothing that the law and all that it calls make is longer than what came in: it says more and counts as full. Else prove '..UptoSaid'. A law counts once. -/
mutual
def uptoBulk {H : Type} : DataW H → Nat
  | .lit (.string bytes) => bytes.length + 1
  | .lit _ => 1
  | .nil => 1
  | .ptr d => uptoBulk d + 1
  | .slice elems spare => uptoBulkAll elems + uptoBulkAll spare + 1
  | .agg parts => uptoBulkAll parts + 1
  | .iface _ d => uptoBulk d + 1
  | .map entries => uptoBulkEntries entries + 1
  | .held _ => 1
def uptoBulkAll {H : Type} : List (DataW H) → Nat
  | [] => 0
  | d :: r => uptoBulk d + uptoBulkAll r
def uptoBulkEntries {H : Type} : List (Lit × DataW H) → Nat
  | [] => 0
  | x :: r => uptoBulkEntry x + uptoBulkEntries r
def uptoBulkEntry {H : Type} : Lit × DataW H → Nat
  | (.string bytes, d) => bytes.length + uptoBulk d + 1
  | (_, d) => uptoBulk d + 1
 end
def uptoSmall : (H : Type) → List (DataW H) → Bool := fun _ ds => decide (uptoBulkAll ds ≤ 1048576)
def OpenSpec.upto (s : _root_.Go.ChangeSpec) : _root_.Go.OpenSpec := { _root_.Go.OpenSpec.ofChange s with cond := some uptoSmall }

/-- 'laws.FnExactSecondCohomology', WHERE WHAT IT READS IS OF BULK AT MOST 1048576: true; the input reads as it did. -/
def fnExactSecondCohomologyUptoRow : OpenClaim := { program := "ytijcbaigdbgofaagreat", sum := "693dcab769fcee76435d13aa18d7bbae3d232cd0c5a8db653418259afea1aadf", func := "loop.example/g01076/laws.FnExactSecondCohomology", spec := "fnExactSecondCohomology", unfollowed := true, recurses := true, apart := false, narrowed := true }
def FnExactSecondCohomologyUptoSaid : Prop := fnExactSecondCohomologyUptoRow.holds Tryz.pinned (OpenSpec.upto fnExactSecondCohomologySpec)

/-- 'laws.FnExactCocycleClasses', WHERE WHAT IT READS IS OF BULK AT MOST 1048576: true; the input reads as it did. -/
def fnExactCocycleClassesUptoRow : OpenClaim := { program := "ytijcbaigdbgofaagreat", sum := "693dcab769fcee76435d13aa18d7bbae3d232cd0c5a8db653418259afea1aadf", func := "loop.example/g01076/laws.FnExactCocycleClasses", spec := "fnExactCocycleClasses", unfollowed := true, recurses := true, apart := false, narrowed := true }
def FnExactCocycleClassesUptoSaid : Prop := fnExactCocycleClassesUptoRow.holds Tryz.pinned (OpenSpec.upto fnExactCocycleClassesSpec)

/-- 'laws.FnExactEquivalenceMap', WHERE WHAT IT READS IS OF BULK AT MOST 1048576: true; the input reads as it did. -/
def fnExactEquivalenceMapUptoRow : OpenClaim := { program := "ytijcbaigdbgofaagreat", sum := "693dcab769fcee76435d13aa18d7bbae3d232cd0c5a8db653418259afea1aadf", func := "loop.example/g01076/laws.FnExactEquivalenceMap", spec := "fnExactEquivalenceMap", unfollowed := true, recurses := true, apart := false, narrowed := true }
def FnExactEquivalenceMapUptoSaid : Prop := fnExactEquivalenceMapUptoRow.holds Tryz.pinned (OpenSpec.upto fnExactEquivalenceMapSpec)

end Rows
end Go.Proofs.YtijcbaigdbgofaaGreat
