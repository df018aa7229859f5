/-
  DERIVED. GIVEN WITH THE SEED: THE CARDS: each row of YtbemegmelmannaaGreatDoorRows.lean that lists a variable, with what it lists TIED to the program's text (the seventh form; the later family's looks); each row that meets fmt, with fmt's text TOLD by the authors' own Lean function (tested against real Go, not proved from fmt's source: count such statements apart). THE CARD IS WHAT COUNTS. Prove the row's statement (the work); the ties are given (YtbemegmelmannaaGreatDoorTie.lean); close each card by the builder's one call (the guide's Derived/Test/ToyasCard.lean, 'card_holds'). Laid BY PROGRAM, IN A SANDBOX (cutbox-door.mjs). By AI agents, Wed Nov 11 2026. No macro, syntax, notation, axiom, sorry.
-/
import Derived.Test.YtbemegmelmannaaGreatDoorRows
import GoSem.ClaimSeven
namespace Go.Proofs.YtbemegmelmannaaGreatDoor
namespace Rows

/-- THE TIED CARD OF 'laws.FnExactParseExpression'. -/
def fnExactParseExpressionCard : Claim7 := { stood := { row := fnExactParseExpressionRow, standIns := [], harness := (true, "fceb1ffd661c8786d78a297f8798e5d944fc9515b3197b2e678e0cfb5778525a"), looks := true }, kinds := [], alts := [], laidByText := true, laidKinds := [.data, .data, .data, .data, .sentinel, .sentinel, .pinned], laidTests := true, laidLooks := .later }
def FnExactParseExpressionCardSaid : Prop := Claim7.holds Tryz.pinned (.plain (OpenSpec.ofChange fnExactParseExpressionSpec)) fnExactParseExpressionCard

/-- THE TIED CARD OF 'laws.FnExactIsExpression'. -/
def fnExactIsExpressionCard : Claim7 := { stood := { row := fnExactIsExpressionRow, standIns := [], harness := (true, "fceb1ffd661c8786d78a297f8798e5d944fc9515b3197b2e678e0cfb5778525a"), looks := true }, kinds := [], alts := [], laidByText := true, laidKinds := [.data, .data, .data, .data, .sentinel, .sentinel, .pinned], laidTests := true, laidLooks := .later }
def FnExactIsExpressionCardSaid : Prop := Claim7.holds Tryz.pinned (.plain (OpenSpec.ofChange fnExactIsExpressionSpec)) fnExactIsExpressionCard

/-- THE TIED CARD OF 'laws.FnExactExpressionText'. -/
def fnExactExpressionTextCard : Claim7 := { stood := { row := fnExactExpressionTextRow, standIns := [], harness := (true, "fceb1ffd661c8786d78a297f8798e5d944fc9515b3197b2e678e0cfb5778525a"), looks := true }, kinds := [], alts := [], laidByText := true, laidKinds := [.data, .data, .data, .data, .sentinel, .sentinel, .pinned], laidTests := true, laidLooks := .later }
def FnExactExpressionTextCardSaid : Prop := Claim7.holds Tryz.pinned (.plain (OpenSpec.ofChange fnExactExpressionTextSpec)) fnExactExpressionTextCard

/-- THE TIED CARD OF 'laws.FnExactReplaceVariable'. -/
def fnExactReplaceVariableCard : Claim7 := { stood := { row := fnExactReplaceVariableRow, standIns := [], harness := (true, "fceb1ffd661c8786d78a297f8798e5d944fc9515b3197b2e678e0cfb5778525a"), looks := true }, kinds := [], alts := [], laidByText := true, laidKinds := [.data, .data, .data, .data, .sentinel, .sentinel, .pinned], laidTests := true, laidLooks := .later }
def FnExactReplaceVariableCardSaid : Prop := Claim7.holds Tryz.pinned (.plain (OpenSpec.ofChange fnExactReplaceVariableSpec)) fnExactReplaceVariableCard

/-- THE SECOND FORM's CARD OF 'laws.FnExactParseExpression'. -/
def fnExactParseExpressionUptoCard : Claim7 := { stood := { row := fnExactParseExpressionUptoRow, standIns := [], harness := (true, "fceb1ffd661c8786d78a297f8798e5d944fc9515b3197b2e678e0cfb5778525a"), looks := true }, kinds := [], alts := [], laidByText := true, laidKinds := [.data, .data, .data, .data, .sentinel, .sentinel, .pinned], laidTests := true, laidLooks := .later }
def FnExactParseExpressionUptoCardSaid : Prop := Claim7.holds Tryz.pinned (.plain (OpenSpec.upto fnExactParseExpressionSpec)) fnExactParseExpressionUptoCard

/-- THE SECOND FORM's CARD OF 'laws.FnExactIsExpression'. -/
def fnExactIsExpressionUptoCard : Claim7 := { stood := { row := fnExactIsExpressionUptoRow, standIns := [], harness := (true, "fceb1ffd661c8786d78a297f8798e5d944fc9515b3197b2e678e0cfb5778525a"), looks := true }, kinds := [], alts := [], laidByText := true, laidKinds := [.data, .data, .data, .data, .sentinel, .sentinel, .pinned], laidTests := true, laidLooks := .later }
def FnExactIsExpressionUptoCardSaid : Prop := Claim7.holds Tryz.pinned (.plain (OpenSpec.upto fnExactIsExpressionSpec)) fnExactIsExpressionUptoCard

/-- THE SECOND FORM's CARD OF 'laws.FnExactExpressionText'. -/
def fnExactExpressionTextUptoCard : Claim7 := { stood := { row := fnExactExpressionTextUptoRow, standIns := [], harness := (true, "fceb1ffd661c8786d78a297f8798e5d944fc9515b3197b2e678e0cfb5778525a"), looks := true }, kinds := [], alts := [], laidByText := true, laidKinds := [.data, .data, .data, .data, .sentinel, .sentinel, .pinned], laidTests := true, laidLooks := .later }
def FnExactExpressionTextUptoCardSaid : Prop := Claim7.holds Tryz.pinned (.plain (OpenSpec.upto fnExactExpressionTextSpec)) fnExactExpressionTextUptoCard

/-- THE SECOND FORM's CARD OF 'laws.FnExactReplaceVariable'. -/
def fnExactReplaceVariableUptoCard : Claim7 := { stood := { row := fnExactReplaceVariableUptoRow, standIns := [], harness := (true, "fceb1ffd661c8786d78a297f8798e5d944fc9515b3197b2e678e0cfb5778525a"), looks := true }, kinds := [], alts := [], laidByText := true, laidKinds := [.data, .data, .data, .data, .sentinel, .sentinel, .pinned], laidTests := true, laidLooks := .later }
def FnExactReplaceVariableUptoCardSaid : Prop := Claim7.holds Tryz.pinned (.plain (OpenSpec.upto fnExactReplaceVariableSpec)) fnExactReplaceVariableUptoCard
end Rows
end Go.Proofs.YtbemegmelmannaaGreatDoor
