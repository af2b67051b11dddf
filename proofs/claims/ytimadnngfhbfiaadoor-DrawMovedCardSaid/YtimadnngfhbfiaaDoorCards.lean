/-
  DERIVED. GIVEN WITH THE SEED: THE CARDS: each row of YtimadnngfhbfiaaDoorRows.lean that lists a variable, with what it lists TIED to the program's text (the seventh form; the later family's looks); each row that meets fmt, with fmt's text TOLD by the authors' own Lean function (tested against real Go, not proved from fmt's source: count such statements apart). THE CARD IS WHAT COUNTS. Prove the row's statement (the work); the ties are given (YtimadnngfhbfiaaDoorTie.lean); close each card by the builder's one call (the guide's Derived/Test/ToyasCard.lean, 'card_holds'). Laid BY PROGRAM, IN A SANDBOX (cutbox-door.mjs). By AI agents, Wed Nov 11 2026. No macro, syntax, notation, axiom, sorry.
-/
import Derived.Test.YtimadnngfhbfiaaDoorRows
import GoSem.ClaimSeven
namespace Go.Proofs.YtimadnngfhbfiaaDoor
namespace Rows

/-- THE TIED CARD OF 'muntinlaw11.NormTells'. -/
def normTellsCard : Claim7 := { stood := { row := normTellsRow, standIns := [], harness := (true, "d6f36886d12485c9cea0d9571512dfa97f8ee8e7a58d0d4df16bc376e7d03632"), looks := false }, kinds := [], alts := [], laidByText := true, laidKinds := [.data, .pinned], laidTests := true, laidLooks := .later }
def NormTellsCardSaid : Prop := Claim7.holds Tryd.pinned (.plain (OpenSpec.ofChange normTellsSpec)) normTellsCard

/-- THE TIED CARD OF 'muntinlaw11.NormCells'. -/
def normCellsCard : Claim7 := { stood := { row := normCellsRow, standIns := [], harness := (true, "d6f36886d12485c9cea0d9571512dfa97f8ee8e7a58d0d4df16bc376e7d03632"), looks := false }, kinds := [], alts := [], laidByText := true, laidKinds := [.data, .pinned], laidTests := true, laidLooks := .later }
def NormCellsCardSaid : Prop := Claim7.holds Tryd.pinned (.plain (OpenSpec.ofChange normCellsSpec)) normCellsCard

/-- THE TIED CARD OF 'muntinlaw11.NormBack'. -/
def normBackCard : Claim7 := { stood := { row := normBackRow, standIns := [], harness := (true, "d6f36886d12485c9cea0d9571512dfa97f8ee8e7a58d0d4df16bc376e7d03632"), looks := false }, kinds := [], alts := [], laidByText := true, laidKinds := [.data, .pinned], laidTests := true, laidLooks := .later }
def NormBackCardSaid : Prop := Claim7.holds Tryd.pinned (.plain (OpenSpec.ofChange normBackSpec)) normBackCard

/-- THE TIED CARD OF 'muntinlaw09.TextTurns'. -/
def textTurnsCard : Claim7 := { stood := { row := textTurnsRow, standIns := [], harness := (true, "d6f36886d12485c9cea0d9571512dfa97f8ee8e7a58d0d4df16bc376e7d03632"), looks := false }, kinds := [], alts := [], laidByText := true, laidKinds := [.data, .data, .data, .data, .pinned], laidTests := true, laidLooks := .later }
def TextTurnsCardSaid : Prop := Claim7.holds Tryd.pinned (.plain (OpenSpec.ofChange textTurnsSpec)) textTurnsCard

/-- THE TIED CARD OF 'muntinlaw09.TextApart'. -/
def textApartCard : Claim7 := { stood := { row := textApartRow, standIns := [], harness := (true, "d6f36886d12485c9cea0d9571512dfa97f8ee8e7a58d0d4df16bc376e7d03632"), looks := false }, kinds := [], alts := [], laidByText := true, laidKinds := [.data, .data, .data, .data, .pinned], laidTests := true, laidLooks := .later }
def TextApartCardSaid : Prop := Claim7.holds Tryd.pinned (.plain (OpenSpec.ofChange textApartSpec)) textApartCard

/-- THE TIED CARD OF 'muntinlaw25.DrawTells'. -/
def drawTellsCard : Claim7 := { stood := { row := drawTellsRow, standIns := [], harness := (true, "d6f36886d12485c9cea0d9571512dfa97f8ee8e7a58d0d4df16bc376e7d03632"), looks := false }, kinds := [], alts := [], laidByText := true, laidKinds := [.data, .pinned], laidTests := true, laidLooks := .later }
def DrawTellsCardSaid : Prop := Claim7.holds Tryd.pinned (.plain (OpenSpec.ofChange drawTellsSpec)) drawTellsCard

/-- THE TIED CARD OF 'muntinlaw25.DrawCounts'. -/
def drawCountsCard : Claim7 := { stood := { row := drawCountsRow, standIns := [], harness := (true, "d6f36886d12485c9cea0d9571512dfa97f8ee8e7a58d0d4df16bc376e7d03632"), looks := false }, kinds := [], alts := [], laidByText := true, laidKinds := [.data, .pinned], laidTests := true, laidLooks := .later }
def DrawCountsCardSaid : Prop := Claim7.holds Tryd.pinned (.plain (OpenSpec.ofChange drawCountsSpec)) drawCountsCard

/-- THE TIED CARD OF 'muntinlaw25.DrawMoved'. -/
def drawMovedCard : Claim7 := { stood := { row := drawMovedRow, standIns := [], harness := (true, "d6f36886d12485c9cea0d9571512dfa97f8ee8e7a58d0d4df16bc376e7d03632"), looks := false }, kinds := [], alts := [], laidByText := true, laidKinds := [.data, .pinned], laidTests := true, laidLooks := .later }
def DrawMovedCardSaid : Prop := Claim7.holds Tryd.pinned (.plain (OpenSpec.ofChange drawMovedSpec)) drawMovedCard

/-- THE SECOND FORM's CARD OF 'muntinlaw11.NormTells'. -/
def normTellsUptoCard : Claim7 := { stood := { row := normTellsUptoRow, standIns := [], harness := (true, "d6f36886d12485c9cea0d9571512dfa97f8ee8e7a58d0d4df16bc376e7d03632"), looks := false }, kinds := [], alts := [], laidByText := true, laidKinds := [.data, .pinned], laidTests := true, laidLooks := .later }
def NormTellsUptoCardSaid : Prop := Claim7.holds Tryd.pinned (.plain (OpenSpec.upto normTellsSpec)) normTellsUptoCard

/-- THE SECOND FORM's CARD OF 'muntinlaw11.NormCells'. -/
def normCellsUptoCard : Claim7 := { stood := { row := normCellsUptoRow, standIns := [], harness := (true, "d6f36886d12485c9cea0d9571512dfa97f8ee8e7a58d0d4df16bc376e7d03632"), looks := false }, kinds := [], alts := [], laidByText := true, laidKinds := [.data, .pinned], laidTests := true, laidLooks := .later }
def NormCellsUptoCardSaid : Prop := Claim7.holds Tryd.pinned (.plain (OpenSpec.upto normCellsSpec)) normCellsUptoCard

/-- THE SECOND FORM's CARD OF 'muntinlaw11.NormBack'. -/
def normBackUptoCard : Claim7 := { stood := { row := normBackUptoRow, standIns := [], harness := (true, "d6f36886d12485c9cea0d9571512dfa97f8ee8e7a58d0d4df16bc376e7d03632"), looks := false }, kinds := [], alts := [], laidByText := true, laidKinds := [.data, .pinned], laidTests := true, laidLooks := .later }
def NormBackUptoCardSaid : Prop := Claim7.holds Tryd.pinned (.plain (OpenSpec.upto normBackSpec)) normBackUptoCard

/-- THE SECOND FORM's CARD OF 'muntinlaw09.TextTurns'. -/
def textTurnsUptoCard : Claim7 := { stood := { row := textTurnsUptoRow, standIns := [], harness := (true, "d6f36886d12485c9cea0d9571512dfa97f8ee8e7a58d0d4df16bc376e7d03632"), looks := false }, kinds := [], alts := [], laidByText := true, laidKinds := [.data, .data, .data, .data, .pinned], laidTests := true, laidLooks := .later }
def TextTurnsUptoCardSaid : Prop := Claim7.holds Tryd.pinned (.plain (OpenSpec.upto textTurnsSpec)) textTurnsUptoCard

/-- THE SECOND FORM's CARD OF 'muntinlaw09.TextApart'. -/
def textApartUptoCard : Claim7 := { stood := { row := textApartUptoRow, standIns := [], harness := (true, "d6f36886d12485c9cea0d9571512dfa97f8ee8e7a58d0d4df16bc376e7d03632"), looks := false }, kinds := [], alts := [], laidByText := true, laidKinds := [.data, .data, .data, .data, .pinned], laidTests := true, laidLooks := .later }
def TextApartUptoCardSaid : Prop := Claim7.holds Tryd.pinned (.plain (OpenSpec.upto textApartSpec)) textApartUptoCard

/-- THE SECOND FORM's CARD OF 'muntinlaw25.DrawTells'. -/
def drawTellsUptoCard : Claim7 := { stood := { row := drawTellsUptoRow, standIns := [], harness := (true, "d6f36886d12485c9cea0d9571512dfa97f8ee8e7a58d0d4df16bc376e7d03632"), looks := false }, kinds := [], alts := [], laidByText := true, laidKinds := [.data, .pinned], laidTests := true, laidLooks := .later }
def DrawTellsUptoCardSaid : Prop := Claim7.holds Tryd.pinned (.plain (OpenSpec.upto drawTellsSpec)) drawTellsUptoCard

/-- THE SECOND FORM's CARD OF 'muntinlaw25.DrawCounts'. -/
def drawCountsUptoCard : Claim7 := { stood := { row := drawCountsUptoRow, standIns := [], harness := (true, "d6f36886d12485c9cea0d9571512dfa97f8ee8e7a58d0d4df16bc376e7d03632"), looks := false }, kinds := [], alts := [], laidByText := true, laidKinds := [.data, .pinned], laidTests := true, laidLooks := .later }
def DrawCountsUptoCardSaid : Prop := Claim7.holds Tryd.pinned (.plain (OpenSpec.upto drawCountsSpec)) drawCountsUptoCard

/-- THE SECOND FORM's CARD OF 'muntinlaw25.DrawMoved'. -/
def drawMovedUptoCard : Claim7 := { stood := { row := drawMovedUptoRow, standIns := [], harness := (true, "d6f36886d12485c9cea0d9571512dfa97f8ee8e7a58d0d4df16bc376e7d03632"), looks := false }, kinds := [], alts := [], laidByText := true, laidKinds := [.data, .pinned], laidTests := true, laidLooks := .later }
def DrawMovedUptoCardSaid : Prop := Claim7.holds Tryd.pinned (.plain (OpenSpec.upto drawMovedSpec)) drawMovedUptoCard
end Rows
end Go.Proofs.YtimadnngfhbfiaaDoor
