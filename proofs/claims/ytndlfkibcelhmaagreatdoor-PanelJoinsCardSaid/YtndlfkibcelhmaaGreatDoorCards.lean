/-
  DERIVED. GIVEN WITH THE SEED: THE CARDS: each row of YtndlfkibcelhmaaGreatDoorRows.lean that lists a variable, with what it lists TIED to the program's text (the seventh form; the later family's looks); each row that meets fmt, with fmt's text TOLD by the authors' own Lean function (tested against real Go, not proved from fmt's source: count such statements apart). THE CARD IS WHAT COUNTS. Prove the row's statement (the work); the ties are given (YtndlfkibcelhmaaGreatDoorTie.lean); close each card by the builder's one call (the guide's Derived/Test/ToyasCard.lean, 'card_holds'). Laid BY PROGRAM, IN A SANDBOX (cutbox-door.mjs). By AI agents, Wed Nov 11 2026. No macro, syntax, notation, axiom, sorry.
-/
import Derived.Test.YtndlfkibcelhmaaGreatDoorRows
import GoSem.ClaimSeven
namespace Go.Proofs.YtndlfkibcelhmaaGreatDoor
namespace Rows

/-- THE TIED CARD OF 'codendlaw03.PanelNets'. -/
def panelNetsCard : Claim7 := { stood := { row := panelNetsRow, standIns := [], harness := (true, "8261871f27066581248c53bf4155c8c6b186ed4bae7b381e123a0fa99d1dcc43"), looks := true }, kinds := [], alts := [], laidByText := true, laidKinds := [.data, .data, .data, .data, .sentinel, .sentinel, .pinned], laidTests := true, laidLooks := .later }
def PanelNetsCardSaid : Prop := Claim7.holds Tryz.pinned (.plain (OpenSpec.ofChange panelNetsSpec)) panelNetsCard

/-- THE TIED CARD OF 'codendlaw03.PanelFrames'. -/
def panelFramesCard : Claim7 := { stood := { row := panelFramesRow, standIns := [], harness := (true, "8261871f27066581248c53bf4155c8c6b186ed4bae7b381e123a0fa99d1dcc43"), looks := true }, kinds := [], alts := [], laidByText := true, laidKinds := [.data, .data, .data, .data, .sentinel, .sentinel, .pinned], laidTests := true, laidLooks := .later }
def PanelFramesCardSaid : Prop := Claim7.holds Tryz.pinned (.plain (OpenSpec.ofChange panelFramesSpec)) panelFramesCard

/-- THE TIED CARD OF 'codendlaw03.PanelGreat'. -/
def panelGreatCard : Claim7 := { stood := { row := panelGreatRow, standIns := [], harness := (true, "8261871f27066581248c53bf4155c8c6b186ed4bae7b381e123a0fa99d1dcc43"), looks := true }, kinds := [], alts := [], laidByText := true, laidKinds := [.data, .data, .data, .data, .sentinel, .sentinel, .pinned], laidTests := true, laidLooks := .later }
def PanelGreatCardSaid : Prop := Claim7.holds Tryz.pinned (.plain (OpenSpec.ofChange panelGreatSpec)) panelGreatCard

/-- THE TIED CARD OF 'codendlaw03.PanelJoins'. -/
def panelJoinsCard : Claim7 := { stood := { row := panelJoinsRow, standIns := [], harness := (true, "8261871f27066581248c53bf4155c8c6b186ed4bae7b381e123a0fa99d1dcc43"), looks := true }, kinds := [], alts := [], laidByText := true, laidKinds := [.data, .data, .data, .data, .sentinel, .sentinel, .pinned], laidTests := true, laidLooks := .later }
def PanelJoinsCardSaid : Prop := Claim7.holds Tryz.pinned (.plain (OpenSpec.ofChange panelJoinsSpec)) panelJoinsCard

/-- THE TIED CARD OF 'codendlaw03.PanelCuts'. -/
def panelCutsCard : Claim7 := { stood := { row := panelCutsRow, standIns := [], harness := (true, "8261871f27066581248c53bf4155c8c6b186ed4bae7b381e123a0fa99d1dcc43"), looks := true }, kinds := [], alts := [], laidByText := true, laidKinds := [.data, .data, .data, .data, .sentinel, .sentinel, .pinned], laidTests := true, laidLooks := .later }
def PanelCutsCardSaid : Prop := Claim7.holds Tryz.pinned (.plain (OpenSpec.ofChange panelCutsSpec)) panelCutsCard

/-- THE TIED CARD OF 'codendlaw03.PanelTexts'. -/
def panelTextsCard : Claim7 := { stood := { row := panelTextsRow, standIns := [], harness := (true, "8261871f27066581248c53bf4155c8c6b186ed4bae7b381e123a0fa99d1dcc43"), looks := true }, kinds := [], alts := [], laidByText := true, laidKinds := [.data, .data, .data, .data, .sentinel, .sentinel, .pinned], laidTests := true, laidLooks := .later }
def PanelTextsCardSaid : Prop := Claim7.holds Tryz.pinned (.plain (OpenSpec.ofChange panelTextsSpec)) panelTextsCard

/-- THE TIED CARD OF 'codendlaw03.PanelPrints'. -/
def panelPrintsCard : Claim7 := { stood := { row := panelPrintsRow, standIns := [], harness := (true, "8261871f27066581248c53bf4155c8c6b186ed4bae7b381e123a0fa99d1dcc43"), looks := true }, kinds := [], alts := [], laidByText := true, laidKinds := [.data, .data, .data, .data, .sentinel, .sentinel, .pinned], laidTests := true, laidLooks := .later }
def PanelPrintsCardSaid : Prop := Claim7.holds Tryz.pinned (.plain (OpenSpec.ofChange panelPrintsSpec)) panelPrintsCard

/-- THE TIED CARD OF 'codendlaw03.PanelChecks'. -/
def panelChecksCard : Claim7 := { stood := { row := panelChecksRow, standIns := [], harness := (true, "8261871f27066581248c53bf4155c8c6b186ed4bae7b381e123a0fa99d1dcc43"), looks := true }, kinds := [], alts := [], laidByText := true, laidKinds := [.data, .data, .data, .data, .sentinel, .sentinel, .pinned], laidTests := true, laidLooks := .later }
def PanelChecksCardSaid : Prop := Claim7.holds Tryz.pinned (.plain (OpenSpec.ofChange panelChecksSpec)) panelChecksCard

/-- THE TIED CARD OF 'codendlaw03.PanelOutlines'. -/
def panelOutlinesCard : Claim7 := { stood := { row := panelOutlinesRow, standIns := [], harness := (true, "8261871f27066581248c53bf4155c8c6b186ed4bae7b381e123a0fa99d1dcc43"), looks := true }, kinds := [], alts := [], laidByText := true, laidKinds := [.data, .data, .data, .data, .sentinel, .sentinel, .pinned], laidTests := true, laidLooks := .later }
def PanelOutlinesCardSaid : Prop := Claim7.holds Tryz.pinned (.plain (OpenSpec.ofChange panelOutlinesSpec)) panelOutlinesCard

/-- THE TIED CARD OF 'codendlaw03.PanelWide'. -/
def panelWideCard : Claim7 := { stood := { row := panelWideRow, standIns := [], harness := (true, "8261871f27066581248c53bf4155c8c6b186ed4bae7b381e123a0fa99d1dcc43"), looks := true }, kinds := [], alts := [], laidByText := true, laidKinds := [.data, .data, .data, .data, .sentinel, .sentinel, .pinned], laidTests := true, laidLooks := .later }
def PanelWideCardSaid : Prop := Claim7.holds Tryz.pinned (.plain (OpenSpec.ofChange panelWideSpec)) panelWideCard

/-- THE TIED CARD OF 'codendlaw03.PanelForms'. -/
def panelFormsCard : Claim7 := { stood := { row := panelFormsRow, standIns := [], harness := (true, "8261871f27066581248c53bf4155c8c6b186ed4bae7b381e123a0fa99d1dcc43"), looks := true }, kinds := [], alts := [], laidByText := true, laidKinds := [.data, .data, .data, .data, .sentinel, .sentinel, .pinned], laidTests := true, laidLooks := .later }
def PanelFormsCardSaid : Prop := Claim7.holds Tryz.pinned (.plain (OpenSpec.ofChange panelFormsSpec)) panelFormsCard

/-- THE TIED CARD OF 'codendlaw03.PanelPieces'. -/
def panelPiecesCard : Claim7 := { stood := { row := panelPiecesRow, standIns := [], harness := (true, "8261871f27066581248c53bf4155c8c6b186ed4bae7b381e123a0fa99d1dcc43"), looks := true }, kinds := [], alts := [], laidByText := true, laidKinds := [.data, .data, .data, .data, .sentinel, .sentinel, .pinned], laidTests := true, laidLooks := .later }
def PanelPiecesCardSaid : Prop := Claim7.holds Tryz.pinned (.plain (OpenSpec.ofChange panelPiecesSpec)) panelPiecesCard

/-- THE TIED CARD OF 'codendlaw03.PanelMotions'. -/
def panelMotionsCard : Claim7 := { stood := { row := panelMotionsRow, standIns := [], harness := (true, "8261871f27066581248c53bf4155c8c6b186ed4bae7b381e123a0fa99d1dcc43"), looks := true }, kinds := [], alts := [], laidByText := true, laidKinds := [.data, .data, .data, .data, .sentinel, .sentinel, .pinned], laidTests := true, laidLooks := .later }
def PanelMotionsCardSaid : Prop := Claim7.holds Tryz.pinned (.plain (OpenSpec.ofChange panelMotionsSpec)) panelMotionsCard

/-- THE TIED CARD OF 'codendlaw03.PanelPick'. -/
def panelPickCard : Claim7 := { stood := { row := panelPickRow, standIns := [], harness := (true, "8261871f27066581248c53bf4155c8c6b186ed4bae7b381e123a0fa99d1dcc43"), looks := true }, kinds := [], alts := [], laidByText := true, laidKinds := [.data, .data, .data, .data, .sentinel, .sentinel, .pinned], laidTests := true, laidLooks := .later }
def PanelPickCardSaid : Prop := Claim7.holds Tryz.pinned (.plain (OpenSpec.ofChange panelPickSpec)) panelPickCard

/-- THE SECOND FORM's CARD OF 'codendlaw03.PanelNets'. -/
def panelNetsUptoCard : Claim7 := { stood := { row := panelNetsUptoRow, standIns := [], harness := (true, "8261871f27066581248c53bf4155c8c6b186ed4bae7b381e123a0fa99d1dcc43"), looks := true }, kinds := [], alts := [], laidByText := true, laidKinds := [.data, .data, .data, .data, .sentinel, .sentinel, .pinned], laidTests := true, laidLooks := .later }
def PanelNetsUptoCardSaid : Prop := Claim7.holds Tryz.pinned (.plain (OpenSpec.upto panelNetsSpec)) panelNetsUptoCard

/-- THE SECOND FORM's CARD OF 'codendlaw03.PanelFrames'. -/
def panelFramesUptoCard : Claim7 := { stood := { row := panelFramesUptoRow, standIns := [], harness := (true, "8261871f27066581248c53bf4155c8c6b186ed4bae7b381e123a0fa99d1dcc43"), looks := true }, kinds := [], alts := [], laidByText := true, laidKinds := [.data, .data, .data, .data, .sentinel, .sentinel, .pinned], laidTests := true, laidLooks := .later }
def PanelFramesUptoCardSaid : Prop := Claim7.holds Tryz.pinned (.plain (OpenSpec.upto panelFramesSpec)) panelFramesUptoCard

/-- THE SECOND FORM's CARD OF 'codendlaw03.PanelGreat'. -/
def panelGreatUptoCard : Claim7 := { stood := { row := panelGreatUptoRow, standIns := [], harness := (true, "8261871f27066581248c53bf4155c8c6b186ed4bae7b381e123a0fa99d1dcc43"), looks := true }, kinds := [], alts := [], laidByText := true, laidKinds := [.data, .data, .data, .data, .sentinel, .sentinel, .pinned], laidTests := true, laidLooks := .later }
def PanelGreatUptoCardSaid : Prop := Claim7.holds Tryz.pinned (.plain (OpenSpec.upto panelGreatSpec)) panelGreatUptoCard

/-- THE SECOND FORM's CARD OF 'codendlaw03.PanelJoins'. -/
def panelJoinsUptoCard : Claim7 := { stood := { row := panelJoinsUptoRow, standIns := [], harness := (true, "8261871f27066581248c53bf4155c8c6b186ed4bae7b381e123a0fa99d1dcc43"), looks := true }, kinds := [], alts := [], laidByText := true, laidKinds := [.data, .data, .data, .data, .sentinel, .sentinel, .pinned], laidTests := true, laidLooks := .later }
def PanelJoinsUptoCardSaid : Prop := Claim7.holds Tryz.pinned (.plain (OpenSpec.upto panelJoinsSpec)) panelJoinsUptoCard

/-- THE SECOND FORM's CARD OF 'codendlaw03.PanelCuts'. -/
def panelCutsUptoCard : Claim7 := { stood := { row := panelCutsUptoRow, standIns := [], harness := (true, "8261871f27066581248c53bf4155c8c6b186ed4bae7b381e123a0fa99d1dcc43"), looks := true }, kinds := [], alts := [], laidByText := true, laidKinds := [.data, .data, .data, .data, .sentinel, .sentinel, .pinned], laidTests := true, laidLooks := .later }
def PanelCutsUptoCardSaid : Prop := Claim7.holds Tryz.pinned (.plain (OpenSpec.upto panelCutsSpec)) panelCutsUptoCard

/-- THE SECOND FORM's CARD OF 'codendlaw03.PanelTexts'. -/
def panelTextsUptoCard : Claim7 := { stood := { row := panelTextsUptoRow, standIns := [], harness := (true, "8261871f27066581248c53bf4155c8c6b186ed4bae7b381e123a0fa99d1dcc43"), looks := true }, kinds := [], alts := [], laidByText := true, laidKinds := [.data, .data, .data, .data, .sentinel, .sentinel, .pinned], laidTests := true, laidLooks := .later }
def PanelTextsUptoCardSaid : Prop := Claim7.holds Tryz.pinned (.plain (OpenSpec.upto panelTextsSpec)) panelTextsUptoCard

/-- THE SECOND FORM's CARD OF 'codendlaw03.PanelPrints'. -/
def panelPrintsUptoCard : Claim7 := { stood := { row := panelPrintsUptoRow, standIns := [], harness := (true, "8261871f27066581248c53bf4155c8c6b186ed4bae7b381e123a0fa99d1dcc43"), looks := true }, kinds := [], alts := [], laidByText := true, laidKinds := [.data, .data, .data, .data, .sentinel, .sentinel, .pinned], laidTests := true, laidLooks := .later }
def PanelPrintsUptoCardSaid : Prop := Claim7.holds Tryz.pinned (.plain (OpenSpec.upto panelPrintsSpec)) panelPrintsUptoCard

/-- THE SECOND FORM's CARD OF 'codendlaw03.PanelChecks'. -/
def panelChecksUptoCard : Claim7 := { stood := { row := panelChecksUptoRow, standIns := [], harness := (true, "8261871f27066581248c53bf4155c8c6b186ed4bae7b381e123a0fa99d1dcc43"), looks := true }, kinds := [], alts := [], laidByText := true, laidKinds := [.data, .data, .data, .data, .sentinel, .sentinel, .pinned], laidTests := true, laidLooks := .later }
def PanelChecksUptoCardSaid : Prop := Claim7.holds Tryz.pinned (.plain (OpenSpec.upto panelChecksSpec)) panelChecksUptoCard

/-- THE SECOND FORM's CARD OF 'codendlaw03.PanelOutlines'. -/
def panelOutlinesUptoCard : Claim7 := { stood := { row := panelOutlinesUptoRow, standIns := [], harness := (true, "8261871f27066581248c53bf4155c8c6b186ed4bae7b381e123a0fa99d1dcc43"), looks := true }, kinds := [], alts := [], laidByText := true, laidKinds := [.data, .data, .data, .data, .sentinel, .sentinel, .pinned], laidTests := true, laidLooks := .later }
def PanelOutlinesUptoCardSaid : Prop := Claim7.holds Tryz.pinned (.plain (OpenSpec.upto panelOutlinesSpec)) panelOutlinesUptoCard

/-- THE SECOND FORM's CARD OF 'codendlaw03.PanelWide'. -/
def panelWideUptoCard : Claim7 := { stood := { row := panelWideUptoRow, standIns := [], harness := (true, "8261871f27066581248c53bf4155c8c6b186ed4bae7b381e123a0fa99d1dcc43"), looks := true }, kinds := [], alts := [], laidByText := true, laidKinds := [.data, .data, .data, .data, .sentinel, .sentinel, .pinned], laidTests := true, laidLooks := .later }
def PanelWideUptoCardSaid : Prop := Claim7.holds Tryz.pinned (.plain (OpenSpec.upto panelWideSpec)) panelWideUptoCard

/-- THE SECOND FORM's CARD OF 'codendlaw03.PanelForms'. -/
def panelFormsUptoCard : Claim7 := { stood := { row := panelFormsUptoRow, standIns := [], harness := (true, "8261871f27066581248c53bf4155c8c6b186ed4bae7b381e123a0fa99d1dcc43"), looks := true }, kinds := [], alts := [], laidByText := true, laidKinds := [.data, .data, .data, .data, .sentinel, .sentinel, .pinned], laidTests := true, laidLooks := .later }
def PanelFormsUptoCardSaid : Prop := Claim7.holds Tryz.pinned (.plain (OpenSpec.upto panelFormsSpec)) panelFormsUptoCard

/-- THE SECOND FORM's CARD OF 'codendlaw03.PanelPieces'. -/
def panelPiecesUptoCard : Claim7 := { stood := { row := panelPiecesUptoRow, standIns := [], harness := (true, "8261871f27066581248c53bf4155c8c6b186ed4bae7b381e123a0fa99d1dcc43"), looks := true }, kinds := [], alts := [], laidByText := true, laidKinds := [.data, .data, .data, .data, .sentinel, .sentinel, .pinned], laidTests := true, laidLooks := .later }
def PanelPiecesUptoCardSaid : Prop := Claim7.holds Tryz.pinned (.plain (OpenSpec.upto panelPiecesSpec)) panelPiecesUptoCard

/-- THE SECOND FORM's CARD OF 'codendlaw03.PanelMotions'. -/
def panelMotionsUptoCard : Claim7 := { stood := { row := panelMotionsUptoRow, standIns := [], harness := (true, "8261871f27066581248c53bf4155c8c6b186ed4bae7b381e123a0fa99d1dcc43"), looks := true }, kinds := [], alts := [], laidByText := true, laidKinds := [.data, .data, .data, .data, .sentinel, .sentinel, .pinned], laidTests := true, laidLooks := .later }
def PanelMotionsUptoCardSaid : Prop := Claim7.holds Tryz.pinned (.plain (OpenSpec.upto panelMotionsSpec)) panelMotionsUptoCard

/-- THE SECOND FORM's CARD OF 'codendlaw03.PanelPick'. -/
def panelPickUptoCard : Claim7 := { stood := { row := panelPickUptoRow, standIns := [], harness := (true, "8261871f27066581248c53bf4155c8c6b186ed4bae7b381e123a0fa99d1dcc43"), looks := true }, kinds := [], alts := [], laidByText := true, laidKinds := [.data, .data, .data, .data, .sentinel, .sentinel, .pinned], laidTests := true, laidLooks := .later }
def PanelPickUptoCardSaid : Prop := Claim7.holds Tryz.pinned (.plain (OpenSpec.upto panelPickSpec)) panelPickUptoCard
end Rows
end Go.Proofs.YtndlfkibcelhmaaGreatDoor
