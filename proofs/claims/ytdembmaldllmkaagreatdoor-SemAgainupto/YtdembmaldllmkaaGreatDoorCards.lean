/-
  DERIVED. GIVEN WITH THE SEED: THE CARDS: each row of YtdembmaldllmkaaGreatDoorRows.lean that lists a variable, with what it lists TIED to the program's text (the seventh form; the later family's looks); each row that meets fmt, with fmt's text TOLD by the authors' own Lean function (tested against real Go, not proved from fmt's source: count such statements apart). THE CARD IS WHAT COUNTS. Prove the row's statement (the work); the ties are given (YtdembmaldllmkaaGreatDoorTie.lean); close each card by the builder's one call (the guide's Derived/Test/ToyasCard.lean, 'card_holds'). Laid BY PROGRAM, IN A SANDBOX (cutbox-door.mjs). By AI agents, Wed Nov 11 2026. No macro, syntax, notation, axiom, sorry.
-/
import Derived.Test.YtdembmaldllmkaaGreatDoorRows
import GoSem.ClaimSeven
namespace Go.Proofs.YtdembmaldllmkaaGreatDoor
namespace Rows

/-- THE TIED CARD OF 'caponierlaw12.SemRuns'. -/
def semRunsCard : Claim7 := { stood := { row := semRunsRow, standIns := [], harness := (true, "58d88c0b659ec0b2144c551f2435681ed6d909dda393ac60c95d3fdaa74503c2"), looks := true }, kinds := [], alts := [], laidByText := true, laidKinds := [.data, .data, .data, .data, .pinned], laidTests := true, laidLooks := .later }
def SemRunsCardSaid : Prop := Claim7.holds Tryz.pinned (.plain (OpenSpec.ofChange semRunsSpec)) semRunsCard

/-- THE TIED CARD OF 'caponierlaw12.SemHides'. -/
def semHidesCard : Claim7 := { stood := { row := semHidesRow, standIns := [], harness := (true, "58d88c0b659ec0b2144c551f2435681ed6d909dda393ac60c95d3fdaa74503c2"), looks := true }, kinds := [], alts := [], laidByText := true, laidKinds := [.data, .data, .data, .data, .pinned], laidTests := true, laidLooks := .later }
def SemHidesCardSaid : Prop := Claim7.holds Tryz.pinned (.plain (OpenSpec.ofChange semHidesSpec)) semHidesCard

/-- THE TIED CARD OF 'caponierlaw12.SemLoops'. -/
def semLoopsCard : Claim7 := { stood := { row := semLoopsRow, standIns := [], harness := (true, "58d88c0b659ec0b2144c551f2435681ed6d909dda393ac60c95d3fdaa74503c2"), looks := true }, kinds := [], alts := [], laidByText := true, laidKinds := [.data, .data, .data, .data, .pinned], laidTests := true, laidLooks := .later }
def SemLoopsCardSaid : Prop := Claim7.holds Tryz.pinned (.plain (OpenSpec.ofChange semLoopsSpec)) semLoopsCard

/-- THE TIED CARD OF 'caponierlaw12.SemElements'. -/
def semElementsCard : Claim7 := { stood := { row := semElementsRow, standIns := [], harness := (true, "58d88c0b659ec0b2144c551f2435681ed6d909dda393ac60c95d3fdaa74503c2"), looks := true }, kinds := [], alts := [], laidByText := true, laidKinds := [.data, .data, .data, .data, .pinned], laidTests := true, laidLooks := .later }
def SemElementsCardSaid : Prop := Claim7.holds Tryz.pinned (.plain (OpenSpec.ofChange semElementsSpec)) semElementsCard

/-- THE TIED CARD OF 'caponierlaw12.SemAgain'. -/
def semAgainCard : Claim7 := { stood := { row := semAgainRow, standIns := [], harness := (true, "58d88c0b659ec0b2144c551f2435681ed6d909dda393ac60c95d3fdaa74503c2"), looks := true }, kinds := [], alts := [], laidByText := true, laidKinds := [.data, .data, .data, .data, .pinned], laidTests := true, laidLooks := .later }
def SemAgainCardSaid : Prop := Claim7.holds Tryz.pinned (.plain (OpenSpec.ofChange semAgainSpec)) semAgainCard

/-- THE TIED CARD OF 'caponierlaw12.SemChoices'. -/
def semChoicesCard : Claim7 := { stood := { row := semChoicesRow, standIns := [], harness := (true, "58d88c0b659ec0b2144c551f2435681ed6d909dda393ac60c95d3fdaa74503c2"), looks := true }, kinds := [], alts := [], laidByText := true, laidKinds := [.data, .data, .data, .data, .pinned], laidTests := true, laidLooks := .later }
def SemChoicesCardSaid : Prop := Claim7.holds Tryz.pinned (.plain (OpenSpec.ofChange semChoicesSpec)) semChoicesCard

/-- THE TIED CARD OF 'caponierlaw12.SemPointers'. -/
def semPointersCard : Claim7 := { stood := { row := semPointersRow, standIns := [], harness := (true, "58d88c0b659ec0b2144c551f2435681ed6d909dda393ac60c95d3fdaa74503c2"), looks := true }, kinds := [], alts := [], laidByText := true, laidKinds := [.data, .data, .data, .data, .pinned], laidTests := true, laidLooks := .later }
def SemPointersCardSaid : Prop := Claim7.holds Tryz.pinned (.plain (OpenSpec.ofChange semPointersSpec)) semPointersCard

/-- THE SECOND FORM's CARD OF 'caponierlaw12.SemRuns'. -/
def semRunsUptoCard : Claim7 := { stood := { row := semRunsUptoRow, standIns := [], harness := (true, "58d88c0b659ec0b2144c551f2435681ed6d909dda393ac60c95d3fdaa74503c2"), looks := true }, kinds := [], alts := [], laidByText := true, laidKinds := [.data, .data, .data, .data, .pinned], laidTests := true, laidLooks := .later }
def SemRunsUptoCardSaid : Prop := Claim7.holds Tryz.pinned (.plain (OpenSpec.upto semRunsSpec)) semRunsUptoCard

/-- THE SECOND FORM's CARD OF 'caponierlaw12.SemHides'. -/
def semHidesUptoCard : Claim7 := { stood := { row := semHidesUptoRow, standIns := [], harness := (true, "58d88c0b659ec0b2144c551f2435681ed6d909dda393ac60c95d3fdaa74503c2"), looks := true }, kinds := [], alts := [], laidByText := true, laidKinds := [.data, .data, .data, .data, .pinned], laidTests := true, laidLooks := .later }
def SemHidesUptoCardSaid : Prop := Claim7.holds Tryz.pinned (.plain (OpenSpec.upto semHidesSpec)) semHidesUptoCard

/-- THE SECOND FORM's CARD OF 'caponierlaw12.SemLoops'. -/
def semLoopsUptoCard : Claim7 := { stood := { row := semLoopsUptoRow, standIns := [], harness := (true, "58d88c0b659ec0b2144c551f2435681ed6d909dda393ac60c95d3fdaa74503c2"), looks := true }, kinds := [], alts := [], laidByText := true, laidKinds := [.data, .data, .data, .data, .pinned], laidTests := true, laidLooks := .later }
def SemLoopsUptoCardSaid : Prop := Claim7.holds Tryz.pinned (.plain (OpenSpec.upto semLoopsSpec)) semLoopsUptoCard

/-- THE SECOND FORM's CARD OF 'caponierlaw12.SemElements'. -/
def semElementsUptoCard : Claim7 := { stood := { row := semElementsUptoRow, standIns := [], harness := (true, "58d88c0b659ec0b2144c551f2435681ed6d909dda393ac60c95d3fdaa74503c2"), looks := true }, kinds := [], alts := [], laidByText := true, laidKinds := [.data, .data, .data, .data, .pinned], laidTests := true, laidLooks := .later }
def SemElementsUptoCardSaid : Prop := Claim7.holds Tryz.pinned (.plain (OpenSpec.upto semElementsSpec)) semElementsUptoCard

/-- THE SECOND FORM's CARD OF 'caponierlaw12.SemAgain'. -/
def semAgainUptoCard : Claim7 := { stood := { row := semAgainUptoRow, standIns := [], harness := (true, "58d88c0b659ec0b2144c551f2435681ed6d909dda393ac60c95d3fdaa74503c2"), looks := true }, kinds := [], alts := [], laidByText := true, laidKinds := [.data, .data, .data, .data, .pinned], laidTests := true, laidLooks := .later }
def SemAgainUptoCardSaid : Prop := Claim7.holds Tryz.pinned (.plain (OpenSpec.upto semAgainSpec)) semAgainUptoCard

/-- THE SECOND FORM's CARD OF 'caponierlaw12.SemChoices'. -/
def semChoicesUptoCard : Claim7 := { stood := { row := semChoicesUptoRow, standIns := [], harness := (true, "58d88c0b659ec0b2144c551f2435681ed6d909dda393ac60c95d3fdaa74503c2"), looks := true }, kinds := [], alts := [], laidByText := true, laidKinds := [.data, .data, .data, .data, .pinned], laidTests := true, laidLooks := .later }
def SemChoicesUptoCardSaid : Prop := Claim7.holds Tryz.pinned (.plain (OpenSpec.upto semChoicesSpec)) semChoicesUptoCard

/-- THE SECOND FORM's CARD OF 'caponierlaw12.SemPointers'. -/
def semPointersUptoCard : Claim7 := { stood := { row := semPointersUptoRow, standIns := [], harness := (true, "58d88c0b659ec0b2144c551f2435681ed6d909dda393ac60c95d3fdaa74503c2"), looks := true }, kinds := [], alts := [], laidByText := true, laidKinds := [.data, .data, .data, .data, .pinned], laidTests := true, laidLooks := .later }
def SemPointersUptoCardSaid : Prop := Claim7.holds Tryz.pinned (.plain (OpenSpec.upto semPointersSpec)) semPointersUptoCard
end Rows
end Go.Proofs.YtdembmaldllmkaaGreatDoor
