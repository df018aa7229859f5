/-
  No cell of these rows narrows 'for every input' (looked for: loops, veiled, ifaces, maps, wideKeys, modest, calm, conditions, laid).
  DERIVED. THE GIVEN ROWS OF THIS SEAT. 3 by the template 'for every input the law returns true; each argument reads behind the call as it read before'; 0 by the template 'total and deterministic' (their statements: YtfeijieociajaaaGreatTotals.lean).
  GIVEN WITH THE SEED: the statements are not yours to turn. If you find one false, say at which input.
  Laid BY PROGRAM, IN A SANDBOX (cutbox-rows.mjs): the forced cells as the released guide's own fill.sh prints them over the translation a2ff141af6a6e341… (all of the seat's roots in one cut). By AI agents, Wed Nov 11 2026. No macro, syntax, notation, axiom, sorry.
-/
import Derived.Test.YtfeijieociajaaaGreatChecked
import GoSem.Claim
import GoSem.ClaimJoined
import GoSem.ClaimMapViews
import Derived.JoinedTies
import Derived.KernelRfl
namespace Go.Proofs.YtfeijieociajaaaGreat
/- THE CELL 'sum', in the pinned program and in every row, IS THE sha256 OF THE DUMP (.gsa) THAT YtfeijieociajaaaGreatProg.lean LOADS. Nothing in Lean hashes anything: it is a label: what it is worth is what the hold of that sum in a sandbox is worth. -/
noncomputable def Tryz.pinned : Pinned := { name := "ytfeijieociajaaagreat", sum := "a2ff141af6a6e341ba1850310dc8e013b8aba553c423873a6c5b9807e3d69b97", checked := Tryz.checked }
namespace Rows
def none {H : Type} : Left H := { results := [], args := [] }

/-- 'laws.FnExactIsTerminal': WHATEVER THE INPUT: true; the input reads as it did. -/
def fnExactIsTerminalSpec : ChangeSpec := { name := "fnExactIsTerminal", fn := fun _ => fun
  | [d] => { results := [.lit (.bool true)], args := [d] }
  | _ => none }
def fnExactIsTerminalRow : OpenClaim := { program := "ytfeijieociajaaagreat", sum := "a2ff141af6a6e341ba1850310dc8e013b8aba553c423873a6c5b9807e3d69b97", func := "loop.example/g01076/laws.FnExactIsTerminal", spec := "fnExactIsTerminal", unfollowed := true, recurses := true, apart := false }
def FnExactIsTerminalSaid : Prop := fnExactIsTerminalRow.holds Tryz.pinned (OpenSpec.ofChange fnExactIsTerminalSpec)

/-- ITS FALSE NEIGHBOUR: 'it returns false'. Refute it at one input. -/
def fnExactIsTerminalWrong : ChangeSpec := { name := "fnExactIsTerminal", fn := fun _ => fun
  | [d] => { results := [.lit (.bool false)], args := [d] }
  | _ => none }
def FnExactIsTerminalWrongFalsely : Prop := fnExactIsTerminalRow.holds Tryz.pinned (OpenSpec.ofChange fnExactIsTerminalWrong)

/-- 'laws.FnExactNucleusOf': WHATEVER THE INPUT: true; the input reads as it did. -/
def fnExactNucleusOfSpec : ChangeSpec := { name := "fnExactNucleusOf", fn := fun _ => fun
  | [d] => { results := [.lit (.bool true)], args := [d] }
  | _ => none }
def fnExactNucleusOfRow : OpenClaim := { program := "ytfeijieociajaaagreat", sum := "a2ff141af6a6e341ba1850310dc8e013b8aba553c423873a6c5b9807e3d69b97", func := "loop.example/g01076/laws.FnExactNucleusOf", spec := "fnExactNucleusOf", unfollowed := true, recurses := true, apart := false }
def FnExactNucleusOfSaid : Prop := fnExactNucleusOfRow.holds Tryz.pinned (OpenSpec.ofChange fnExactNucleusOfSpec)

/-- ITS FALSE NEIGHBOUR: 'it returns false'. Refute it at one input. -/
def fnExactNucleusOfWrong : ChangeSpec := { name := "fnExactNucleusOf", fn := fun _ => fun
  | [d] => { results := [.lit (.bool false)], args := [d] }
  | _ => none }
def FnExactNucleusOfWrongFalsely : Prop := fnExactNucleusOfRow.holds Tryz.pinned (OpenSpec.ofChange fnExactNucleusOfWrong)

/-- 'laws.FnExactIsAllowable': WHATEVER THE INPUT: true; the input reads as it did. -/
def fnExactIsAllowableSpec : ChangeSpec := { name := "fnExactIsAllowable", fn := fun _ => fun
  | [d1, d2] => { results := [.lit (.bool true)], args := [d1, d2] }
  | _ => none }
def fnExactIsAllowableRow : OpenClaim := { program := "ytfeijieociajaaagreat", sum := "a2ff141af6a6e341ba1850310dc8e013b8aba553c423873a6c5b9807e3d69b97", func := "loop.example/g01076/laws.FnExactIsAllowable", spec := "fnExactIsAllowable", unfollowed := true, recurses := true, apart := false }
def FnExactIsAllowableSaid : Prop := fnExactIsAllowableRow.holds Tryz.pinned (OpenSpec.ofChange fnExactIsAllowableSpec)

/-- ITS FALSE NEIGHBOUR: 'it returns false'. Refute it at one input. -/
def fnExactIsAllowableWrong : ChangeSpec := { name := "fnExactIsAllowable", fn := fun _ => fun
  | [d1, d2] => { results := [.lit (.bool false)], args := [d1, d2] }
  | _ => none }
def FnExactIsAllowableWrongFalsely : Prop := fnExactIsAllowableRow.holds Tryz.pinned (OpenSpec.ofChange fnExactIsAllowableWrong)

/- THE SECOND FORM. 'bulk': how many values and letters a reading holds, each counted each time it is reached (what is shared counts as often as it is met; a slice's spare places count too). A statement '..UptoSaid' is the law's where the arguments, and the package variables that the reading takes, are together of bulk at most 1048576: NARROWER than '..Said'. Prove '..Said' where nothing that the law and all that it calls make is longer than what came in: it says more and counts as full. Else prove '..UptoSaid'. A law counts once. -/
mutual
def uptoBulk {H : Type} : DataW H → Nat
  | .lit (.string bytes) => bytes.length + 1
  | .lit _ => 1
  | .nil => 1
  | .ptr d => uptoBulk d + 1
  | .slice elems spare => uptoBulkAll elems + uptoBulkAll spare + 1
  | .agg parts => uptoBulkAll parts + 1
  | .iface _ d => uptoBulk d + 1
  | .map entries => uptoBulkEntries entries + 1
  | .held _ => 1
def uptoBulkAll {H : Type} : List (DataW H) → Nat
  | [] => 0
  | d :: r => uptoBulk d + uptoBulkAll r
def uptoBulkEntries {H : Type} : List (Lit × DataW H) → Nat
  | [] => 0
  | x :: r => uptoBulkEntry x + uptoBulkEntries r
def uptoBulkEntry {H : Type} : Lit × DataW H → Nat
  | (.string bytes, d) => bytes.length + uptoBulk d + 1
  | (_, d) => uptoBulk d + 1
 end
def uptoSmall : (H : Type) → List (DataW H) → Bool := fun _ ds => decide (uptoBulkAll ds ≤ 1048576)
def OpenSpec.upto (s : _root_.Go.ChangeSpec) : _root_.Go.OpenSpec := { _root_.Go.OpenSpec.ofChange s with cond := some uptoSmall }

/-- 'laws.FnExactIsTerminal', WHERE WHAT IT READS IS OF BULK AT MOST 1048576: true; the input reads as it did. -/
def fnExactIsTerminalUptoRow : OpenClaim := { program := "ytfeijieociajaaagreat", sum := "a2ff141af6a6e341ba1850310dc8e013b8aba553c423873a6c5b9807e3d69b97", func := "loop.example/g01076/laws.FnExactIsTerminal", spec := "fnExactIsTerminal", unfollowed := true, recurses := true, apart := false, narrowed := true }
def FnExactIsTerminalUptoSaid : Prop := fnExactIsTerminalUptoRow.holds Tryz.pinned (OpenSpec.upto fnExactIsTerminalSpec)

/-- 'laws.FnExactNucleusOf', WHERE WHAT IT READS IS OF BULK AT MOST 1048576: true; the input reads as it did. -/
def fnExactNucleusOfUptoRow : OpenClaim := { program := "ytfeijieociajaaagreat", sum := "a2ff141af6a6e341ba1850310dc8e013b8aba553c423873a6c5b9807e3d69b97", func := "loop.example/g01076/laws.FnExactNucleusOf", spec := "fnExactNucleusOf", unfollowed := true, recurses := true, apart := false, narrowed := true }
def FnExactNucleusOfUptoSaid : Prop := fnExactNucleusOfUptoRow.holds Tryz.pinned (OpenSpec.upto fnExactNucleusOfSpec)

/-- 'laws.FnExactIsAllowable', WHERE WHAT IT READS IS OF BULK AT MOST 1048576: true; the input reads as it did. -/
def fnExactIsAllowableUptoRow : OpenClaim := { program := "ytfeijieociajaaagreat", sum := "a2ff141af6a6e341ba1850310dc8e013b8aba553c423873a6c5b9807e3d69b97", func := "loop.example/g01076/laws.FnExactIsAllowable", spec := "fnExactIsAllowable", unfollowed := true, recurses := true, apart := false, narrowed := true }
def FnExactIsAllowableUptoSaid : Prop := fnExactIsAllowableUptoRow.holds Tryz.pinned (OpenSpec.upto fnExactIsAllowableSpec)

end Rows
end Go.Proofs.YtfeijieociajaaaGreat
