/-
  No cell of these rows narrows 'for every input' (looked for: loops, veiled, ifaces, maps, wideKeys, modest, calm, conditions, laid).
  DERIVED. THE GIVEN ROWS OF THIS SEAT. 12 by the template 'for every input the law returns true; each argument reads behind the call as it read before'; 0 by the template 'total and deterministic' (their statements: YtchnmobojdcikaaGreatTotals.lean).
  GIVEN WITH THE SEED: the statements are not yours to turn. If you find one false, say at which input.
  Laid BY PROGRAM, IN A SANDBOX (cutbox-rows.mjs): the forced cells as the released guide's own fill.sh prints them over the translation 9e3298397be514a0… (all of the seat's roots in one cut). By AI agents, Wed Nov 11 2026. No macro, syntax, notation, axiom, sorry.
-/
import Derived.Test.YtchnmobojdcikaaGreatChecked
import GoSem.Claim
import GoSem.ClaimJoined
import GoSem.ClaimMapViews
import Derived.JoinedTies
import Derived.KernelRfl
namespace Go.Proofs.YtchnmobojdcikaaGreat
/- THE CELL 'sum', in the pinned program and in every row, IS THE sha256 OF THE DUMP (.gsa) THAT YtchnmobojdcikaaGreatProg.lean LOADS. Nothing in Lean hashes anything: it is a label: what it is worth is what the hold of that sum in a sandbox is worth. -/
noncomputable def Tryz.pinned : Pinned := { name := "ytchnmobojdcikaagreat", sum := "9e3298397be514a08edf14bfa338cb2a966c0cadab72b863dff3da4c68326a97", checked := Tryz.checked }
namespace Rows
def none {H : Type} : Left H := { results := [], args := [] }

/-- 'laws.FnReducedCocycles': WHATEVER THE INPUT: true; the input reads as it did. -/
def fnReducedCocyclesSpec : ChangeSpec := { name := "fnReducedCocycles", fn := fun _ => fun
  | [d] => { results := [.lit (.bool true)], args := [d] }
  | _ => none }
def fnReducedCocyclesRow : OpenClaim := { program := "ytchnmobojdcikaagreat", sum := "9e3298397be514a08edf14bfa338cb2a966c0cadab72b863dff3da4c68326a97", func := "loop.example/g01076/laws.FnReducedCocycles", spec := "fnReducedCocycles", unfollowed := true, recurses := true, apart := false }
def FnReducedCocyclesSaid : Prop := fnReducedCocyclesRow.holds Tryz.pinned (OpenSpec.ofChange fnReducedCocyclesSpec)

/-- ITS FALSE NEIGHBOUR: 'it returns false'. Refute it at one input. -/
def fnReducedCocyclesWrong : ChangeSpec := { name := "fnReducedCocycles", fn := fun _ => fun
  | [d] => { results := [.lit (.bool false)], args := [d] }
  | _ => none }
def FnReducedCocyclesWrongFalsely : Prop := fnReducedCocyclesRow.holds Tryz.pinned (OpenSpec.ofChange fnReducedCocyclesWrong)

/-- 'laws.FnSectionsBack': WHATEVER THE INPUT: true; the input reads as it did. -/
def fnSectionsBackSpec : ChangeSpec := { name := "fnSectionsBack", fn := fun _ => fun
  | [d] => { results := [.lit (.bool true)], args := [d] }
  | _ => none }
def fnSectionsBackRow : OpenClaim := { program := "ytchnmobojdcikaagreat", sum := "9e3298397be514a08edf14bfa338cb2a966c0cadab72b863dff3da4c68326a97", func := "loop.example/g01076/laws.FnSectionsBack", spec := "fnSectionsBack", unfollowed := true, recurses := true, apart := false }
def FnSectionsBackSaid : Prop := fnSectionsBackRow.holds Tryz.pinned (OpenSpec.ofChange fnSectionsBackSpec)

/-- ITS FALSE NEIGHBOUR: 'it returns false'. Refute it at one input. -/
def fnSectionsBackWrong : ChangeSpec := { name := "fnSectionsBack", fn := fun _ => fun
  | [d] => { results := [.lit (.bool false)], args := [d] }
  | _ => none }
def FnSectionsBackWrongFalsely : Prop := fnSectionsBackRow.holds Tryz.pinned (OpenSpec.ofChange fnSectionsBackWrong)

/-- 'laws.FnActions': WHATEVER THE INPUT: true; the input reads as it did. -/
def fnActionsSpec : ChangeSpec := { name := "fnActions", fn := fun _ => fun
  | [d] => { results := [.lit (.bool true)], args := [d] }
  | _ => none }
def fnActionsRow : OpenClaim := { program := "ytchnmobojdcikaagreat", sum := "9e3298397be514a08edf14bfa338cb2a966c0cadab72b863dff3da4c68326a97", func := "loop.example/g01076/laws.FnActions", spec := "fnActions", unfollowed := true, recurses := true, apart := false }
def FnActionsSaid : Prop := fnActionsRow.holds Tryz.pinned (OpenSpec.ofChange fnActionsSpec)

/-- ITS FALSE NEIGHBOUR: 'it returns false'. Refute it at one input. -/
def fnActionsWrong : ChangeSpec := { name := "fnActions", fn := fun _ => fun
  | [d] => { results := [.lit (.bool false)], args := [d] }
  | _ => none }
def FnActionsWrongFalsely : Prop := fnActionsRow.holds Tryz.pinned (OpenSpec.ofChange fnActionsWrong)

/-- 'laws.FnFirstCohomology': WHATEVER THE INPUT: true; the input reads as it did. -/
def fnFirstCohomologySpec : ChangeSpec := { name := "fnFirstCohomology", fn := fun _ => fun
  | [d] => { results := [.lit (.bool true)], args := [d] }
  | _ => none }
def fnFirstCohomologyRow : OpenClaim := { program := "ytchnmobojdcikaagreat", sum := "9e3298397be514a08edf14bfa338cb2a966c0cadab72b863dff3da4c68326a97", func := "loop.example/g01076/laws.FnFirstCohomology", spec := "fnFirstCohomology", unfollowed := true, recurses := true, apart := false }
def FnFirstCohomologySaid : Prop := fnFirstCohomologyRow.holds Tryz.pinned (OpenSpec.ofChange fnFirstCohomologySpec)

/-- ITS FALSE NEIGHBOUR: 'it returns false'. Refute it at one input. -/
def fnFirstCohomologyWrong : ChangeSpec := { name := "fnFirstCohomology", fn := fun _ => fun
  | [d] => { results := [.lit (.bool false)], args := [d] }
  | _ => none }
def FnFirstCohomologyWrongFalsely : Prop := fnFirstCohomologyRow.holds Tryz.pinned (OpenSpec.ofChange fnFirstCohomologyWrong)

/-- 'laws.FnDuals': WHATEVER THE INPUT: true; the input reads as it did. -/
def fnDualsSpec : ChangeSpec := { name := "fnDuals", fn := fun _ => fun
  | [d] => { results := [.lit (.bool true)], args := [d] }
  | _ => none }
def fnDualsRow : OpenClaim := { program := "ytchnmobojdcikaagreat", sum := "9e3298397be514a08edf14bfa338cb2a966c0cadab72b863dff3da4c68326a97", func := "loop.example/g01076/laws.FnDuals", spec := "fnDuals", unfollowed := true, recurses := true, apart := false }
def FnDualsSaid : Prop := fnDualsRow.holds Tryz.pinned (OpenSpec.ofChange fnDualsSpec)

/-- ITS FALSE NEIGHBOUR: 'it returns false'. Refute it at one input. -/
def fnDualsWrong : ChangeSpec := { name := "fnDuals", fn := fun _ => fun
  | [d] => { results := [.lit (.bool false)], args := [d] }
  | _ => none }
def FnDualsWrongFalsely : Prop := fnDualsRow.holds Tryz.pinned (OpenSpec.ofChange fnDualsWrong)

/-- 'laws.FnDerivations': WHATEVER THE INPUT: true; the input reads as it did. -/
def fnDerivationsSpec : ChangeSpec := { name := "fnDerivations", fn := fun _ => fun
  | [d] => { results := [.lit (.bool true)], args := [d] }
  | _ => none }
def fnDerivationsRow : OpenClaim := { program := "ytchnmobojdcikaagreat", sum := "9e3298397be514a08edf14bfa338cb2a966c0cadab72b863dff3da4c68326a97", func := "loop.example/g01076/laws.FnDerivations", spec := "fnDerivations", unfollowed := true, recurses := true, apart := false }
def FnDerivationsSaid : Prop := fnDerivationsRow.holds Tryz.pinned (OpenSpec.ofChange fnDerivationsSpec)

/-- ITS FALSE NEIGHBOUR: 'it returns false'. Refute it at one input. -/
def fnDerivationsWrong : ChangeSpec := { name := "fnDerivations", fn := fun _ => fun
  | [d] => { results := [.lit (.bool false)], args := [d] }
  | _ => none }
def FnDerivationsWrongFalsely : Prop := fnDerivationsRow.holds Tryz.pinned (OpenSpec.ofChange fnDerivationsWrong)

/-- 'laws.FnSubmodules': WHATEVER THE INPUT: true; the input reads as it did. -/
def fnSubmodulesSpec : ChangeSpec := { name := "fnSubmodules", fn := fun _ => fun
  | [d] => { results := [.lit (.bool true)], args := [d] }
  | _ => none }
def fnSubmodulesRow : OpenClaim := { program := "ytchnmobojdcikaagreat", sum := "9e3298397be514a08edf14bfa338cb2a966c0cadab72b863dff3da4c68326a97", func := "loop.example/g01076/laws.FnSubmodules", spec := "fnSubmodules", unfollowed := true, recurses := true, apart := false }
def FnSubmodulesSaid : Prop := fnSubmodulesRow.holds Tryz.pinned (OpenSpec.ofChange fnSubmodulesSpec)

/-- ITS FALSE NEIGHBOUR: 'it returns false'. Refute it at one input. -/
def fnSubmodulesWrong : ChangeSpec := { name := "fnSubmodules", fn := fun _ => fun
  | [d] => { results := [.lit (.bool false)], args := [d] }
  | _ => none }
def FnSubmodulesWrongFalsely : Prop := fnSubmodulesRow.holds Tryz.pinned (OpenSpec.ofChange fnSubmodulesWrong)

/-- 'laws.FnInner': WHATEVER THE INPUT: true; the input reads as it did. -/
def fnInnerSpec : ChangeSpec := { name := "fnInner", fn := fun _ => fun
  | [d] => { results := [.lit (.bool true)], args := [d] }
  | _ => none }
def fnInnerRow : OpenClaim := { program := "ytchnmobojdcikaagreat", sum := "9e3298397be514a08edf14bfa338cb2a966c0cadab72b863dff3da4c68326a97", func := "loop.example/g01076/laws.FnInner", spec := "fnInner", unfollowed := true, recurses := true, apart := false }
def FnInnerSaid : Prop := fnInnerRow.holds Tryz.pinned (OpenSpec.ofChange fnInnerSpec)

/-- ITS FALSE NEIGHBOUR: 'it returns false'. Refute it at one input. -/
def fnInnerWrong : ChangeSpec := { name := "fnInner", fn := fun _ => fun
  | [d] => { results := [.lit (.bool false)], args := [d] }
  | _ => none }
def FnInnerWrongFalsely : Prop := fnInnerRow.holds Tryz.pinned (OpenSpec.ofChange fnInnerWrong)

/-- 'laws.FnCocycles': WHATEVER THE INPUT: true; the input reads as it did. -/
def fnCocyclesSpec : ChangeSpec := { name := "fnCocycles", fn := fun _ => fun
  | [d] => { results := [.lit (.bool true)], args := [d] }
  | _ => none }
def fnCocyclesRow : OpenClaim := { program := "ytchnmobojdcikaagreat", sum := "9e3298397be514a08edf14bfa338cb2a966c0cadab72b863dff3da4c68326a97", func := "loop.example/g01076/laws.FnCocycles", spec := "fnCocycles", unfollowed := true, recurses := true, apart := false }
def FnCocyclesSaid : Prop := fnCocyclesRow.holds Tryz.pinned (OpenSpec.ofChange fnCocyclesSpec)

/-- ITS FALSE NEIGHBOUR: 'it returns false'. Refute it at one input. -/
def fnCocyclesWrong : ChangeSpec := { name := "fnCocycles", fn := fun _ => fun
  | [d] => { results := [.lit (.bool false)], args := [d] }
  | _ => none }
def FnCocyclesWrongFalsely : Prop := fnCocyclesRow.holds Tryz.pinned (OpenSpec.ofChange fnCocyclesWrong)

/-- 'laws.FnSections': WHATEVER THE INPUT: true; the input reads as it did. -/
def fnSectionsSpec : ChangeSpec := { name := "fnSections", fn := fun _ => fun
  | [d] => { results := [.lit (.bool true)], args := [d] }
  | _ => none }
def fnSectionsRow : OpenClaim := { program := "ytchnmobojdcikaagreat", sum := "9e3298397be514a08edf14bfa338cb2a966c0cadab72b863dff3da4c68326a97", func := "loop.example/g01076/laws.FnSections", spec := "fnSections", unfollowed := true, recurses := true, apart := false }
def FnSectionsSaid : Prop := fnSectionsRow.holds Tryz.pinned (OpenSpec.ofChange fnSectionsSpec)

/-- ITS FALSE NEIGHBOUR: 'it returns false'. Refute it at one input. -/
def fnSectionsWrong : ChangeSpec := { name := "fnSections", fn := fun _ => fun
  | [d] => { results := [.lit (.bool false)], args := [d] }
  | _ => none }
def FnSectionsWrongFalsely : Prop := fnSectionsRow.holds Tryz.pinned (OpenSpec.ofChange fnSectionsWrong)

/-- 'laws.FnDerivationKernel': WHATEVER THE INPUT: true; the input reads as it did. -/
def fnDerivationKernelSpec : ChangeSpec := { name := "fnDerivationKernel", fn := fun _ => fun
  | [d] => { results := [.lit (.bool true)], args := [d] }
  | _ => none }
def fnDerivationKernelRow : OpenClaim := { program := "ytchnmobojdcikaagreat", sum := "9e3298397be514a08edf14bfa338cb2a966c0cadab72b863dff3da4c68326a97", func := "loop.example/g01076/laws.FnDerivationKernel", spec := "fnDerivationKernel", unfollowed := true, recurses := true, apart := false }
def FnDerivationKernelSaid : Prop := fnDerivationKernelRow.holds Tryz.pinned (OpenSpec.ofChange fnDerivationKernelSpec)

/-- ITS FALSE NEIGHBOUR: 'it returns false'. Refute it at one input. -/
def fnDerivationKernelWrong : ChangeSpec := { name := "fnDerivationKernel", fn := fun _ => fun
  | [d] => { results := [.lit (.bool false)], args := [d] }
  | _ => none }
def FnDerivationKernelWrongFalsely : Prop := fnDerivationKernelRow.holds Tryz.pinned (OpenSpec.ofChange fnDerivationKernelWrong)

/-- 'laws.FnCoboundaries': WHATEVER THE INPUT: true; the input reads as it did. -/
def fnCoboundariesSpec : ChangeSpec := { name := "fnCoboundaries", fn := fun _ => fun
  | [d] => { results := [.lit (.bool true)], args := [d] }
  | _ => none }
def fnCoboundariesRow : OpenClaim := { program := "ytchnmobojdcikaagreat", sum := "9e3298397be514a08edf14bfa338cb2a966c0cadab72b863dff3da4c68326a97", func := "loop.example/g01076/laws.FnCoboundaries", spec := "fnCoboundaries", unfollowed := true, recurses := true, apart := false }
def FnCoboundariesSaid : Prop := fnCoboundariesRow.holds Tryz.pinned (OpenSpec.ofChange fnCoboundariesSpec)

/-- ITS FALSE NEIGHBOUR: 'it returns false'. Refute it at one input. -/
def fnCoboundariesWrong : ChangeSpec := { name := "fnCoboundaries", fn := fun _ => fun
  | [d] => { results := [.lit (.bool false)], args := [d] }
  | _ => none }
def FnCoboundariesWrongFalsely : Prop := fnCoboundariesRow.holds Tryz.pinned (OpenSpec.ofChange fnCoboundariesWrong)

/- THE SECOND FORM. 'bulk': how many values and letters a reading holds, each counted each time it is reached (what is shared counts as often as it is met; a slice's spare places count too). A statement '..UptoSaid' is the law's where the arguments, and the package variables that the reading takes, are together of bulk at most 1048576: NARROWER than '..Said'. Prove '..Said' where nothing that the law and all that it calls make is longer than what came in: it says more and counts as full. Else prove '..UptoSaid'. A law counts once. -/
mutual
def uptoBulk {H : Type} : DataW H → Nat
  | .lit (.string bytes) => bytes.length + 1
  | .lit _ => 1
  | .nil => 1
  | .ptr d => uptoBulk d + 1
  | .slice elems spare => uptoBulkAll elems + uptoBulkAll spare + 1
  | .agg parts => uptoBulkAll parts + 1
  | .iface _ d => uptoBulk d + 1
  | .map entries => uptoBulkEntries entries + 1
  | .held _ => 1
def uptoBulkAll {H : Type} : List (DataW H) → Nat
  | [] => 0
  | d :: r => uptoBulk d + uptoBulkAll r
def uptoBulkEntries {H : Type} : List (Lit × DataW H) → Nat
  | [] => 0
  | x :: r => uptoBulkEntry x + uptoBulkEntries r
def uptoBulkEntry {H : Type} : Lit × DataW H → Nat
  | (.string bytes, d) => bytes.length + uptoBulk d + 1
  | (_, d) => uptoBulk d + 1
 end
def uptoSmall : (H : Type) → List (DataW H) → Bool := fun _ ds => decide (uptoBulkAll ds ≤ 1048576)
def OpenSpec.upto (s : _root_.Go.ChangeSpec) : _root_.Go.OpenSpec := { _root_.Go.OpenSpec.ofChange s with cond := some uptoSmall }

/-- 'laws.FnReducedCocycles', WHERE WHAT IT READS IS OF BULK AT MOST 1048576: true; the input reads as it did. -/
def fnReducedCocyclesUptoRow : OpenClaim := { program := "ytchnmobojdcikaagreat", sum := "9e3298397be514a08edf14bfa338cb2a966c0cadab72b863dff3da4c68326a97", func := "loop.example/g01076/laws.FnReducedCocycles", spec := "fnReducedCocycles", unfollowed := true, recurses := true, apart := false, narrowed := true }
def FnReducedCocyclesUptoSaid : Prop := fnReducedCocyclesUptoRow.holds Tryz.pinned (OpenSpec.upto fnReducedCocyclesSpec)

/-- 'laws.FnSectionsBack', WHERE WHAT IT READS IS OF BULK AT MOST 1048576: true; the input reads as it did. -/
def fnSectionsBackUptoRow : OpenClaim := { program := "ytchnmobojdcikaagreat", sum := "9e3298397be514a08edf14bfa338cb2a966c0cadab72b863dff3da4c68326a97", func := "loop.example/g01076/laws.FnSectionsBack", spec := "fnSectionsBack", unfollowed := true, recurses := true, apart := false, narrowed := true }
def FnSectionsBackUptoSaid : Prop := fnSectionsBackUptoRow.holds Tryz.pinned (OpenSpec.upto fnSectionsBackSpec)

/-- 'laws.FnActions', WHERE WHAT IT READS IS OF BULK AT MOST 1048576: true; the input reads as it did. -/
def fnActionsUptoRow : OpenClaim := { program := "ytchnmobojdcikaagreat", sum := "9e3298397be514a08edf14bfa338cb2a966c0cadab72b863dff3da4c68326a97", func := "loop.example/g01076/laws.FnActions", spec := "fnActions", unfollowed := true, recurses := true, apart := false, narrowed := true }
def FnActionsUptoSaid : Prop := fnActionsUptoRow.holds Tryz.pinned (OpenSpec.upto fnActionsSpec)

/-- 'laws.FnFirstCohomology', WHERE WHAT IT READS IS OF BULK AT MOST 1048576: true; the input reads as it did. -/
def fnFirstCohomologyUptoRow : OpenClaim := { program := "ytchnmobojdcikaagreat", sum := "9e3298397be514a08edf14bfa338cb2a966c0cadab72b863dff3da4c68326a97", func := "loop.example/g01076/laws.FnFirstCohomology", spec := "fnFirstCohomology", unfollowed := true, recurses := true, apart := false, narrowed := true }
def FnFirstCohomologyUptoSaid : Prop := fnFirstCohomologyUptoRow.holds Tryz.pinned (OpenSpec.upto fnFirstCohomologySpec)

/-- 'laws.FnDuals', WHERE WHAT IT READS IS OF BULK AT MOST 1048576: true; the input reads as it did. -/
def fnDualsUptoRow : OpenClaim := { program := "ytchnmobojdcikaagreat", sum := "9e3298397be514a08edf14bfa338cb2a966c0cadab72b863dff3da4c68326a97", func := "loop.example/g01076/laws.FnDuals", spec := "fnDuals", unfollowed := true, recurses := true, apart := false, narrowed := true }
def FnDualsUptoSaid : Prop := fnDualsUptoRow.holds Tryz.pinned (OpenSpec.upto fnDualsSpec)

/-- 'laws.FnDerivations', WHERE WHAT IT READS IS OF BULK AT MOST 1048576: true; the input reads as it did. -/
def fnDerivationsUptoRow : OpenClaim := { program := "ytchnmobojdcikaagreat", sum := "9e3298397be514a08edf14bfa338cb2a966c0cadab72b863dff3da4c68326a97", func := "loop.example/g01076/laws.FnDerivations", spec := "fnDerivations", unfollowed := true, recurses := true, apart := false, narrowed := true }
def FnDerivationsUptoSaid : Prop := fnDerivationsUptoRow.holds Tryz.pinned (OpenSpec.upto fnDerivationsSpec)

/-- 'laws.FnSubmodules', WHERE WHAT IT READS IS OF BULK AT MOST 1048576: true; the input reads as it did. -/
def fnSubmodulesUptoRow : OpenClaim := { program := "ytchnmobojdcikaagreat", sum := "9e3298397be514a08edf14bfa338cb2a966c0cadab72b863dff3da4c68326a97", func := "loop.example/g01076/laws.FnSubmodules", spec := "fnSubmodules", unfollowed := true, recurses := true, apart := false, narrowed := true }
def FnSubmodulesUptoSaid : Prop := fnSubmodulesUptoRow.holds Tryz.pinned (OpenSpec.upto fnSubmodulesSpec)

/-- 'laws.FnInner', WHERE WHAT IT READS IS OF BULK AT MOST 1048576: true; the input reads as it did. -/
def fnInnerUptoRow : OpenClaim := { program := "ytchnmobojdcikaagreat", sum := "9e3298397be514a08edf14bfa338cb2a966c0cadab72b863dff3da4c68326a97", func := "loop.example/g01076/laws.FnInner", spec := "fnInner", unfollowed := true, recurses := true, apart := false, narrowed := true }
def FnInnerUptoSaid : Prop := fnInnerUptoRow.holds Tryz.pinned (OpenSpec.upto fnInnerSpec)

/-- 'laws.FnCocycles', WHERE WHAT IT READS IS OF BULK AT MOST 1048576: true; the input reads as it did. -/
def fnCocyclesUptoRow : OpenClaim := { program := "ytchnmobojdcikaagreat", sum := "9e3298397be514a08edf14bfa338cb2a966c0cadab72b863dff3da4c68326a97", func := "loop.example/g01076/laws.FnCocycles", spec := "fnCocycles", unfollowed := true, recurses := true, apart := false, narrowed := true }
def FnCocyclesUptoSaid : Prop := fnCocyclesUptoRow.holds Tryz.pinned (OpenSpec.upto fnCocyclesSpec)

/-- 'laws.FnSections', WHERE WHAT IT READS IS OF BULK AT MOST 1048576: true; the input reads as it did. -/
def fnSectionsUptoRow : OpenClaim := { program := "ytchnmobojdcikaagreat", sum := "9e3298397be514a08edf14bfa338cb2a966c0cadab72b863dff3da4c68326a97", func := "loop.example/g01076/laws.FnSections", spec := "fnSections", unfollowed := true, recurses := true, apart := false, narrowed := true }
def FnSectionsUptoSaid : Prop := fnSectionsUptoRow.holds Tryz.pinned (OpenSpec.upto fnSectionsSpec)

/-- 'laws.FnDerivationKernel', WHERE WHAT IT READS IS OF BULK AT MOST 1048576: true; the input reads as it did. -/
def fnDerivationKernelUptoRow : OpenClaim := { program := "ytchnmobojdcikaagreat", sum := "9e3298397be514a08edf14bfa338cb2a966c0cadab72b863dff3da4c68326a97", func := "loop.example/g01076/laws.FnDerivationKernel", spec := "fnDerivationKernel", unfollowed := true, recurses := true, apart := false, narrowed := true }
def FnDerivationKernelUptoSaid : Prop := fnDerivationKernelUptoRow.holds Tryz.pinned (OpenSpec.upto fnDerivationKernelSpec)

/-- 'laws.FnCoboundaries', WHERE WHAT IT READS IS OF BULK AT MOST 1048576: true; the input reads as it did. -/
def fnCoboundariesUptoRow : OpenClaim := { program := "ytchnmobojdcikaagreat", sum := "9e3298397be514a08edf14bfa338cb2a966c0cadab72b863dff3da4c68326a97", func := "loop.example/g01076/laws.FnCoboundaries", spec := "fnCoboundaries", unfollowed := true, recurses := true, apart := false, narrowed := true }
def FnCoboundariesUptoSaid : Prop := fnCoboundariesUptoRow.holds Tryz.pinned (OpenSpec.upto fnCoboundariesSpec)

end Rows
end Go.Proofs.YtchnmobojdcikaaGreat
