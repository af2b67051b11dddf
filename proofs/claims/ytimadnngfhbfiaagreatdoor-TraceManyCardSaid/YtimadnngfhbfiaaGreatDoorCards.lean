/-
  DERIVED. GIVEN WITH THE SEED: THE CARDS: each row of YtimadnngfhbfiaaGreatDoorRows.lean that lists a variable, with what it lists TIED to the program's text (the seventh form; the later family's looks); each row that meets fmt, with fmt's text TOLD by the authors' own Lean function (tested against real Go, not proved from fmt's source: count such statements apart). THE CARD IS WHAT COUNTS. Prove the row's statement (the work); the ties are given (YtimadnngfhbfiaaGreatDoorTie.lean); close each card by the builder's one call (the guide's Derived/Test/ToyasCard.lean, 'card_holds'). Laid BY PROGRAM, IN A SANDBOX (cutbox-door.mjs). By AI agents, Wed Nov 11 2026. No macro, syntax, notation, axiom, sorry.
-/
import Derived.Test.YtimadnngfhbfiaaGreatDoorRows
import GoSem.ClaimSeven
namespace Go.Proofs.YtimadnngfhbfiaaGreatDoor
namespace Rows

/-- THE TIED CARD OF 'muntinlaw27.TraceMany'. -/
def traceManyCard : Claim7 := { stood := { row := traceManyRow, standIns := [], harness := (true, "ec382dcf175142a2563dcff8249937420ab5c8b2982b1113603742880a646671"), looks := true }, kinds := [], alts := [], laidByText := true, laidKinds := [.data, .pinned], laidTests := true, laidLooks := .later }
def TraceManyCardSaid : Prop := Claim7.holds Tryz.pinned (.plain (OpenSpec.ofChange traceManySpec)) traceManyCard

/-- THE TIED CARD OF 'muntinlaw08.ParseTells'. -/
def parseTellsCard : Claim7 := { stood := { row := parseTellsRow, standIns := [], harness := (true, "ec382dcf175142a2563dcff8249937420ab5c8b2982b1113603742880a646671"), looks := true }, kinds := [], alts := [], laidByText := true, laidKinds := [.data, .data, .data, .data, .sentinel, .sentinel, .pinned], laidTests := true, laidLooks := .later }
def ParseTellsCardSaid : Prop := Claim7.holds Tryz.pinned (.plain (OpenSpec.ofChange parseTellsSpec)) parseTellsCard

/-- THE TIED CARD OF 'muntinlaw08.ParseRight'. -/
def parseRightCard : Claim7 := { stood := { row := parseRightRow, standIns := [], harness := (true, "ec382dcf175142a2563dcff8249937420ab5c8b2982b1113603742880a646671"), looks := true }, kinds := [], alts := [], laidByText := true, laidKinds := [.data, .data, .data, .data, .sentinel, .sentinel, .pinned], laidTests := true, laidLooks := .later }
def ParseRightCardSaid : Prop := Claim7.holds Tryz.pinned (.plain (OpenSpec.ofChange parseRightSpec)) parseRightCard

/-- THE TIED CARD OF 'muntinlaw08.ParseLines'. -/
def parseLinesCard : Claim7 := { stood := { row := parseLinesRow, standIns := [], harness := (true, "ec382dcf175142a2563dcff8249937420ab5c8b2982b1113603742880a646671"), looks := true }, kinds := [], alts := [], laidByText := true, laidKinds := [.data, .data, .data, .data, .sentinel, .sentinel, .pinned], laidTests := true, laidLooks := .later }
def ParseLinesCardSaid : Prop := Claim7.holds Tryz.pinned (.plain (OpenSpec.ofChange parseLinesSpec)) parseLinesCard

/-- THE TIED CARD OF 'muntinlaw09.TextBack'. -/
def textBackCard : Claim7 := { stood := { row := textBackRow, standIns := [], harness := (true, "ec382dcf175142a2563dcff8249937420ab5c8b2982b1113603742880a646671"), looks := true }, kinds := [], alts := [], laidByText := true, laidKinds := [.data, .data, .data, .data, .sentinel, .sentinel, .pinned], laidTests := true, laidLooks := .later }
def TextBackCardSaid : Prop := Claim7.holds Tryz.pinned (.plain (OpenSpec.ofChange textBackSpec)) textBackCard

/-- THE TIED CARD OF 'muntinlaw08.ParseMany'. -/
def parseManyCard : Claim7 := { stood := { row := parseManyRow, standIns := [], harness := (true, "ec382dcf175142a2563dcff8249937420ab5c8b2982b1113603742880a646671"), looks := true }, kinds := [], alts := [], laidByText := true, laidKinds := [.data, .data, .data, .data, .sentinel, .sentinel, .pinned], laidTests := true, laidLooks := .later }
def ParseManyCardSaid : Prop := Claim7.holds Tryz.pinned (.plain (OpenSpec.ofChange parseManySpec)) parseManyCard

/-- THE SECOND FORM's CARD OF 'muntinlaw27.TraceMany'. -/
def traceManyUptoCard : Claim7 := { stood := { row := traceManyUptoRow, standIns := [], harness := (true, "ec382dcf175142a2563dcff8249937420ab5c8b2982b1113603742880a646671"), looks := true }, kinds := [], alts := [], laidByText := true, laidKinds := [.data, .pinned], laidTests := true, laidLooks := .later }
def TraceManyUptoCardSaid : Prop := Claim7.holds Tryz.pinned (.plain (OpenSpec.upto traceManySpec)) traceManyUptoCard

/-- THE SECOND FORM's CARD OF 'muntinlaw08.ParseTells'. -/
def parseTellsUptoCard : Claim7 := { stood := { row := parseTellsUptoRow, standIns := [], harness := (true, "ec382dcf175142a2563dcff8249937420ab5c8b2982b1113603742880a646671"), looks := true }, kinds := [], alts := [], laidByText := true, laidKinds := [.data, .data, .data, .data, .sentinel, .sentinel, .pinned], laidTests := true, laidLooks := .later }
def ParseTellsUptoCardSaid : Prop := Claim7.holds Tryz.pinned (.plain (OpenSpec.upto parseTellsSpec)) parseTellsUptoCard

/-- THE SECOND FORM's CARD OF 'muntinlaw08.ParseRight'. -/
def parseRightUptoCard : Claim7 := { stood := { row := parseRightUptoRow, standIns := [], harness := (true, "ec382dcf175142a2563dcff8249937420ab5c8b2982b1113603742880a646671"), looks := true }, kinds := [], alts := [], laidByText := true, laidKinds := [.data, .data, .data, .data, .sentinel, .sentinel, .pinned], laidTests := true, laidLooks := .later }
def ParseRightUptoCardSaid : Prop := Claim7.holds Tryz.pinned (.plain (OpenSpec.upto parseRightSpec)) parseRightUptoCard

/-- THE SECOND FORM's CARD OF 'muntinlaw08.ParseLines'. -/
def parseLinesUptoCard : Claim7 := { stood := { row := parseLinesUptoRow, standIns := [], harness := (true, "ec382dcf175142a2563dcff8249937420ab5c8b2982b1113603742880a646671"), looks := true }, kinds := [], alts := [], laidByText := true, laidKinds := [.data, .data, .data, .data, .sentinel, .sentinel, .pinned], laidTests := true, laidLooks := .later }
def ParseLinesUptoCardSaid : Prop := Claim7.holds Tryz.pinned (.plain (OpenSpec.upto parseLinesSpec)) parseLinesUptoCard

/-- THE SECOND FORM's CARD OF 'muntinlaw09.TextBack'. -/
def textBackUptoCard : Claim7 := { stood := { row := textBackUptoRow, standIns := [], harness := (true, "ec382dcf175142a2563dcff8249937420ab5c8b2982b1113603742880a646671"), looks := true }, kinds := [], alts := [], laidByText := true, laidKinds := [.data, .data, .data, .data, .sentinel, .sentinel, .pinned], laidTests := true, laidLooks := .later }
def TextBackUptoCardSaid : Prop := Claim7.holds Tryz.pinned (.plain (OpenSpec.upto textBackSpec)) textBackUptoCard

/-- THE SECOND FORM's CARD OF 'muntinlaw08.ParseMany'. -/
def parseManyUptoCard : Claim7 := { stood := { row := parseManyUptoRow, standIns := [], harness := (true, "ec382dcf175142a2563dcff8249937420ab5c8b2982b1113603742880a646671"), looks := true }, kinds := [], alts := [], laidByText := true, laidKinds := [.data, .data, .data, .data, .sentinel, .sentinel, .pinned], laidTests := true, laidLooks := .later }
def ParseManyUptoCardSaid : Prop := Claim7.holds Tryz.pinned (.plain (OpenSpec.upto parseManySpec)) parseManyUptoCard
end Rows
end Go.Proofs.YtimadnngfhbfiaaGreatDoor
