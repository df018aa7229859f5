/-
  No cell of these rows narrows 'for every input' (looked for: loops, veiled, ifaces, maps, wideKeys, modest, calm, conditions, laid).
  DERIVED. THE GIVEN ROWS OF THIS SEAT. 5 by the template 'for every input the law returns true; each argument reads behind the call as it read before'; 0 by the template 'total and deterministic' (their statements: YtjbinegfmombcaaTotals.lean).
  GIVEN WITH THE SEED: the statements are not yours to turn. If you find one false, say at which input.
  Laid BY PROGRAM, IN A SANDBOX (cutbox-rows.mjs): the forced cells as the released guide's own fill.sh prints them over the translation 2fb77754b690a0e9… (all of the seat's roots in one cut). By AI agents, Wed Nov 11 2026. No macro, syntax, notation, axiom, sorry.
-/
import Derived.Test.YtjbinegfmombcaaChecked
import GoSem.Claim
import GoSem.ClaimJoined
import GoSem.ClaimMapViews
import Derived.JoinedTies
import Derived.KernelRfl
namespace Go.Proofs.Ytjbinegfmombcaa
/- THE CELL 'sum', in the pinned program and in every row, IS THE sha256 OF THE DUMP (.gsa) THAT YtjbinegfmombcaaProg.lean LOADS. Nothing in Lean hashes anything: it is a label: what it is worth is what the hold of that sum in a sandbox is worth. -/
noncomputable def Try.pinned : Pinned := { name := "ytjbinegfmombcaa", sum := "2fb77754b690a0e99f8c929a2ec8b20d78dc08567a6328569290f947aa75bf4f", checked := Try.checked }
namespace Rows
def none {H : Type} : Left H := { results := [], args := [] }

/-- 'laws.FnExactSumModules': WHATEVER THE INPUT: true; the input reads as it did. -/
def fnExactSumModulesSpec : ChangeSpec := { name := "fnExactSumModules", fn := fun _ => fun
  | [d1, d2, d3] => { results := [.lit (.bool true)], args := [d1, d2, d3] }
  | _ => none }
def fnExactSumModulesRow : OpenClaim := { program := "ytjbinegfmombcaa", sum := "2fb77754b690a0e99f8c929a2ec8b20d78dc08567a6328569290f947aa75bf4f", func := "loop.example/g01076/laws.FnExactSumModules", spec := "fnExactSumModules", unfollowed := true, recurses := true, apart := false }
def FnExactSumModulesSaid : Prop := fnExactSumModulesRow.holds Try.pinned (OpenSpec.ofChange fnExactSumModulesSpec)

/-- ITS FALSE NEIGHBOUR: 'it returns false'. Refute it at one input. -/
def fnExactSumModulesWrong : ChangeSpec := { name := "fnExactSumModules", fn := fun _ => fun
  | [d1, d2, d3] => { results := [.lit (.bool false)], args := [d1, d2, d3] }
  | _ => none }
def FnExactSumModulesWrongFalsely : Prop := fnExactSumModulesRow.holds Try.pinned (OpenSpec.ofChange fnExactSumModulesWrong)

/-- 'laws.FnExactStandardPresentation': WHATEVER THE INPUT: true; the input reads as it did. -/
def fnExactStandardPresentationSpec : ChangeSpec := { name := "fnExactStandardPresentation", fn := fun _ => fun
  | [d] => { results := [.lit (.bool true)], args := [d] }
  | _ => none }
def fnExactStandardPresentationRow : OpenClaim := { program := "ytjbinegfmombcaa", sum := "2fb77754b690a0e99f8c929a2ec8b20d78dc08567a6328569290f947aa75bf4f", func := "loop.example/g01076/laws.FnExactStandardPresentation", spec := "fnExactStandardPresentation", recurses := true, apart := false }
def FnExactStandardPresentationSaid : Prop := fnExactStandardPresentationRow.holds Try.pinned (OpenSpec.ofChange fnExactStandardPresentationSpec)

/-- ITS FALSE NEIGHBOUR: 'it returns false'. Refute it at one input. -/
def fnExactStandardPresentationWrong : ChangeSpec := { name := "fnExactStandardPresentation", fn := fun _ => fun
  | [d] => { results := [.lit (.bool false)], args := [d] }
  | _ => none }
def FnExactStandardPresentationWrongFalsely : Prop := fnExactStandardPresentationRow.holds Try.pinned (OpenSpec.ofChange fnExactStandardPresentationWrong)

/-- 'laws.FnExactDualModule': WHATEVER THE INPUT: true; the input reads as it did. -/
def fnExactDualModuleSpec : ChangeSpec := { name := "fnExactDualModule", fn := fun _ => fun
  | [d1, d2] => { results := [.lit (.bool true)], args := [d1, d2] }
  | _ => none }
def fnExactDualModuleRow : OpenClaim := { program := "ytjbinegfmombcaa", sum := "2fb77754b690a0e99f8c929a2ec8b20d78dc08567a6328569290f947aa75bf4f", func := "loop.example/g01076/laws.FnExactDualModule", spec := "fnExactDualModule", unfollowed := true, recurses := true, apart := false }
def FnExactDualModuleSaid : Prop := fnExactDualModuleRow.holds Try.pinned (OpenSpec.ofChange fnExactDualModuleSpec)

/-- ITS FALSE NEIGHBOUR: 'it returns false'. Refute it at one input. -/
def fnExactDualModuleWrong : ChangeSpec := { name := "fnExactDualModule", fn := fun _ => fun
  | [d1, d2] => { results := [.lit (.bool false)], args := [d1, d2] }
  | _ => none }
def FnExactDualModuleWrongFalsely : Prop := fnExactDualModuleRow.holds Try.pinned (OpenSpec.ofChange fnExactDualModuleWrong)

/-- 'laws.FnExactCountModuleMaps': WHATEVER THE INPUT: true; the input reads as it did. -/
def fnExactCountModuleMapsSpec : ChangeSpec := { name := "fnExactCountModuleMaps", fn := fun _ => fun
  | [d1, d2, d3] => { results := [.lit (.bool true)], args := [d1, d2, d3] }
  | _ => none }
def fnExactCountModuleMapsRow : OpenClaim := { program := "ytjbinegfmombcaa", sum := "2fb77754b690a0e99f8c929a2ec8b20d78dc08567a6328569290f947aa75bf4f", func := "loop.example/g01076/laws.FnExactCountModuleMaps", spec := "fnExactCountModuleMaps", unfollowed := true, recurses := true, apart := false }
def FnExactCountModuleMapsSaid : Prop := fnExactCountModuleMapsRow.holds Try.pinned (OpenSpec.ofChange fnExactCountModuleMapsSpec)

/-- ITS FALSE NEIGHBOUR: 'it returns false'. Refute it at one input. -/
def fnExactCountModuleMapsWrong : ChangeSpec := { name := "fnExactCountModuleMaps", fn := fun _ => fun
  | [d1, d2, d3] => { results := [.lit (.bool false)], args := [d1, d2, d3] }
  | _ => none }
def FnExactCountModuleMapsWrongFalsely : Prop := fnExactCountModuleMapsRow.holds Try.pinned (OpenSpec.ofChange fnExactCountModuleMapsWrong)

/-- 'laws.FnExactSplitExtension': WHATEVER THE INPUT: true; the input reads as it did. -/
def fnExactSplitExtensionSpec : ChangeSpec := { name := "fnExactSplitExtension", fn := fun _ => fun
  | [d1, d2] => { results := [.lit (.bool true)], args := [d1, d2] }
  | _ => none }
def fnExactSplitExtensionRow : OpenClaim := { program := "ytjbinegfmombcaa", sum := "2fb77754b690a0e99f8c929a2ec8b20d78dc08567a6328569290f947aa75bf4f", func := "loop.example/g01076/laws.FnExactSplitExtension", spec := "fnExactSplitExtension", unfollowed := true, recurses := true, apart := false }
def FnExactSplitExtensionSaid : Prop := fnExactSplitExtensionRow.holds Try.pinned (OpenSpec.ofChange fnExactSplitExtensionSpec)

/-- ITS FALSE NEIGHBOUR: 'it returns false'. Refute it at one input. -/
def fnExactSplitExtensionWrong : ChangeSpec := { name := "fnExactSplitExtension", fn := fun _ => fun
  | [d1, d2] => { results := [.lit (.bool false)], args := [d1, d2] }
  | _ => none }
def FnExactSplitExtensionWrongFalsely : Prop := fnExactSplitExtensionRow.holds Try.pinned (OpenSpec.ofChange fnExactSplitExtensionWrong)

/- THE SECOND FORM. 'bulk': how many values and letters a reading holds, each counted each time it is reached (what is shared counts as often as it is met; a slice's spare places count too). A statement '..UptoSaid' is the law's where the arguments, and the package variables that the reading takes, are together of bulk at most 1048576: NARROWER than '..Said'. Prove '..Said' where nothing that the law and all that it calls make is longer than what came in: it says more and counts as full. Else prove '..UptoSaid'. A law counts once. -/
mutual
def uptoBulk {H : Type} : DataW H → Nat
  | .lit (.string bytes) => bytes.length + 1
  | .lit _ => 1
  | .nil => 1
  | .ptr d => uptoBulk d + 1
  | .slice elems spare => uptoBulkAll elems + uptoBulkAll spare + 1
  | .agg parts => uptoBulkAll parts + 1
  | .iface _ d => uptoBulk d + 1
  | .map entries => uptoBulkEntries entries + 1
  | .held _ => 1
def uptoBulkAll {H : Type} : List (DataW H) → Nat
  | [] => 0
  | d :: r => uptoBulk d + uptoBulkAll r
def uptoBulkEntries {H : Type} : List (Lit × DataW H) → Nat
  | [] => 0
  | x :: r => uptoBulkEntry x + uptoBulkEntries r
def uptoBulkEntry {H : Type} : Lit × DataW H → Nat
  | (.string bytes, d) => bytes.length + uptoBulk d + 1
  | (_, d) => uptoBulk d + 1
 end
def uptoSmall : (H : Type) → List (DataW H) → Bool := fun _ ds => decide (uptoBulkAll ds ≤ 1048576)
def OpenSpec.upto (s : _root_.Go.ChangeSpec) : _root_.Go.OpenSpec := { _root_.Go.OpenSpec.ofChange s with cond := some uptoSmall }

/-- 'laws.FnExactSumModules', WHERE WHAT IT READS IS OF BULK AT MOST 1048576: true; the input reads as it did. -/
def fnExactSumModulesUptoRow : OpenClaim := { program := "ytjbinegfmombcaa", sum := "2fb77754b690a0e99f8c929a2ec8b20d78dc08567a6328569290f947aa75bf4f", func := "loop.example/g01076/laws.FnExactSumModules", spec := "fnExactSumModules", unfollowed := true, recurses := true, apart := false, narrowed := true }
def FnExactSumModulesUptoSaid : Prop := fnExactSumModulesUptoRow.holds Try.pinned (OpenSpec.upto fnExactSumModulesSpec)

/-- 'laws.FnExactStandardPresentation', WHERE WHAT IT READS IS OF BULK AT MOST 1048576: true; the input reads as it did. -/
def fnExactStandardPresentationUptoRow : OpenClaim := { program := "ytjbinegfmombcaa", sum := "2fb77754b690a0e99f8c929a2ec8b20d78dc08567a6328569290f947aa75bf4f", func := "loop.example/g01076/laws.FnExactStandardPresentation", spec := "fnExactStandardPresentation", recurses := true, apart := false, narrowed := true }
def FnExactStandardPresentationUptoSaid : Prop := fnExactStandardPresentationUptoRow.holds Try.pinned (OpenSpec.upto fnExactStandardPresentationSpec)

/-- 'laws.FnExactDualModule', WHERE WHAT IT READS IS OF BULK AT MOST 1048576: true; the input reads as it did. -/
def fnExactDualModuleUptoRow : OpenClaim := { program := "ytjbinegfmombcaa", sum := "2fb77754b690a0e99f8c929a2ec8b20d78dc08567a6328569290f947aa75bf4f", func := "loop.example/g01076/laws.FnExactDualModule", spec := "fnExactDualModule", unfollowed := true, recurses := true, apart := false, narrowed := true }
def FnExactDualModuleUptoSaid : Prop := fnExactDualModuleUptoRow.holds Try.pinned (OpenSpec.upto fnExactDualModuleSpec)

/-- 'laws.FnExactCountModuleMaps', WHERE WHAT IT READS IS OF BULK AT MOST 1048576: true; the input reads as it did. -/
def fnExactCountModuleMapsUptoRow : OpenClaim := { program := "ytjbinegfmombcaa", sum := "2fb77754b690a0e99f8c929a2ec8b20d78dc08567a6328569290f947aa75bf4f", func := "loop.example/g01076/laws.FnExactCountModuleMaps", spec := "fnExactCountModuleMaps", unfollowed := true, recurses := true, apart := false, narrowed := true }
def FnExactCountModuleMapsUptoSaid : Prop := fnExactCountModuleMapsUptoRow.holds Try.pinned (OpenSpec.upto fnExactCountModuleMapsSpec)

/-- 'laws.FnExactSplitExtension', WHERE WHAT IT READS IS OF BULK AT MOST 1048576: true; the input reads as it did. -/
def fnExactSplitExtensionUptoRow : OpenClaim := { program := "ytjbinegfmombcaa", sum := "2fb77754b690a0e99f8c929a2ec8b20d78dc08567a6328569290f947aa75bf4f", func := "loop.example/g01076/laws.FnExactSplitExtension", spec := "fnExactSplitExtension", unfollowed := true, recurses := true, apart := false, narrowed := true }
def FnExactSplitExtensionUptoSaid : Prop := fnExactSplitExtensionUptoRow.holds Try.pinned (OpenSpec.upto fnExactSplitExtensionSpec)

end Rows
end Go.Proofs.Ytjbinegfmombcaa
