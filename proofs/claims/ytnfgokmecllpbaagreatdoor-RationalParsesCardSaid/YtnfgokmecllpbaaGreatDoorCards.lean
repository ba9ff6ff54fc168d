/-
  DERIVED. GIVEN WITH THE SEED: THE CARDS: each row of YtnfgokmecllpbaaGreatDoorRows.lean that lists a variable, with what it lists TIED to the program's text (the seventh form; the later family's looks); each row that meets fmt, with fmt's text TOLD by the authors' own Lean function (tested against real Go, not proved from fmt's source: count such statements apart). THE CARD IS WHAT COUNTS. Prove the row's statement (the work); the ties are given (YtnfgokmecllpbaaGreatDoorTie.lean); close each card by the builder's one call (the guide's Derived/Test/ToyasCard.lean, 'card_holds'). Laid BY PROGRAM, IN A SANDBOX (cutbox-door.mjs). By AI agents, Wed Nov 11 2026. No macro, syntax, notation, axiom, sorry.
-/
import Derived.Test.YtnfgokmecllpbaaGreatDoorRows
import GoSem.ClaimSeven
namespace Go.Proofs.YtnfgokmecllpbaaGreatDoor
namespace Rows

/-- THE TIED CARD OF 'klippelaw51.LexerScans'. -/
def lexerScansCard : Claim7 := { stood := { row := lexerScansRow, standIns := [], harness := (true, "d2a0f633061d1f0b31109403d6538737b09c70964949b2662c8b5cb4cb26bd3f"), looks := true }, kinds := [], alts := [], laidByText := true, laidKinds := [.data, .data, .data, .data, .sentinel, .sentinel, .pinned], laidTests := true, laidLooks := .later }
def LexerScansCardSaid : Prop := Claim7.holds Tryz.pinned (.plain (OpenSpec.ofChange lexerScansSpec)) lexerScansCard

/-- THE TIED CARD OF 'klippelaw51.LexerBytes'. -/
def lexerBytesCard : Claim7 := { stood := { row := lexerBytesRow, standIns := [], harness := (true, "d2a0f633061d1f0b31109403d6538737b09c70964949b2662c8b5cb4cb26bd3f"), looks := true }, kinds := [], alts := [], laidByText := true, laidKinds := [.data, .data, .data, .data, .sentinel, .sentinel, .pinned], laidTests := true, laidLooks := .later }
def LexerBytesCardSaid : Prop := Claim7.holds Tryz.pinned (.plain (OpenSpec.ofChange lexerBytesSpec)) lexerBytesCard

/-- THE TIED CARD OF 'klippelaw51.LexerLimits'. -/
def lexerLimitsCard : Claim7 := { stood := { row := lexerLimitsRow, standIns := [], harness := (true, "d2a0f633061d1f0b31109403d6538737b09c70964949b2662c8b5cb4cb26bd3f"), looks := true }, kinds := [], alts := [], laidByText := true, laidKinds := [.data, .data, .data, .data, .sentinel, .sentinel, .pinned], laidTests := true, laidLooks := .later }
def LexerLimitsCardSaid : Prop := Claim7.holds Tryz.pinned (.plain (OpenSpec.ofChange lexerLimitsSpec)) lexerLimitsCard

/-- THE TIED CARD OF 'klippelaw02.RationalParses'. -/
def rationalParsesCard : Claim7 := { stood := { row := rationalParsesRow, standIns := [], harness := (true, "d2a0f633061d1f0b31109403d6538737b09c70964949b2662c8b5cb4cb26bd3f"), looks := true }, kinds := [], alts := [], laidByText := true, laidKinds := [.data, .data, .data, .data, .sentinel, .sentinel, .pinned], laidTests := true, laidLooks := .later }
def RationalParsesCardSaid : Prop := Claim7.holds Tryz.pinned (.plain (OpenSpec.ofChange rationalParsesSpec)) rationalParsesCard

/-- THE TIED CARD OF 'klippelaw02.RationalDecimals'. -/
def rationalDecimalsCard : Claim7 := { stood := { row := rationalDecimalsRow, standIns := [], harness := (true, "d2a0f633061d1f0b31109403d6538737b09c70964949b2662c8b5cb4cb26bd3f"), looks := true }, kinds := [], alts := [], laidByText := true, laidKinds := [.data, .data, .data, .data, .sentinel, .sentinel, .pinned], laidTests := true, laidLooks := .later }
def RationalDecimalsCardSaid : Prop := Claim7.holds Tryz.pinned (.plain (OpenSpec.ofChange rationalDecimalsSpec)) rationalDecimalsCard

/-- THE TIED CARD OF 'klippelaw02.RationalRoots'. -/
def rationalRootsCard : Claim7 := { stood := { row := rationalRootsRow, standIns := [], harness := (true, "d2a0f633061d1f0b31109403d6538737b09c70964949b2662c8b5cb4cb26bd3f"), looks := true }, kinds := [], alts := [], laidByText := true, laidKinds := [.data, .data, .data, .data, .sentinel, .sentinel, .pinned], laidTests := true, laidLooks := .later }
def RationalRootsCardSaid : Prop := Claim7.holds Tryz.pinned (.plain (OpenSpec.ofChange rationalRootsSpec)) rationalRootsCard

/-- THE TIED CARD OF 'klippelaw51.LexerBlanks'. -/
def lexerBlanksCard : Claim7 := { stood := { row := lexerBlanksRow, standIns := [], harness := (true, "d2a0f633061d1f0b31109403d6538737b09c70964949b2662c8b5cb4cb26bd3f"), looks := true }, kinds := [], alts := [], laidByText := true, laidKinds := [.data, .data, .data, .data, .sentinel, .sentinel, .pinned], laidTests := true, laidLooks := .later }
def LexerBlanksCardSaid : Prop := Claim7.holds Tryz.pinned (.plain (OpenSpec.ofChange lexerBlanksSpec)) lexerBlanksCard

/-- THE TIED CARD OF 'klippelaw02.RationalNews'. -/
def rationalNewsCard : Claim7 := { stood := { row := rationalNewsRow, standIns := [], harness := (true, "d2a0f633061d1f0b31109403d6538737b09c70964949b2662c8b5cb4cb26bd3f"), looks := true }, kinds := [], alts := [], laidByText := true, laidKinds := [.data, .data, .data, .data, .sentinel, .sentinel, .pinned], laidTests := true, laidLooks := .later }
def RationalNewsCardSaid : Prop := Claim7.holds Tryz.pinned (.plain (OpenSpec.ofChange rationalNewsSpec)) rationalNewsCard

/-- THE TIED CARD OF 'klippelaw02.RationalRounds'. -/
def rationalRoundsCard : Claim7 := { stood := { row := rationalRoundsRow, standIns := [], harness := (true, "d2a0f633061d1f0b31109403d6538737b09c70964949b2662c8b5cb4cb26bd3f"), looks := true }, kinds := [], alts := [], laidByText := true, laidKinds := [.data, .data, .data, .data, .sentinel, .sentinel, .pinned], laidTests := true, laidLooks := .later }
def RationalRoundsCardSaid : Prop := Claim7.holds Tryz.pinned (.plain (OpenSpec.ofChange rationalRoundsSpec)) rationalRoundsCard

/-- THE TIED CARD OF 'klippelaw02.RationalMultiplies'. -/
def rationalMultipliesCard : Claim7 := { stood := { row := rationalMultipliesRow, standIns := [], harness := (true, "d2a0f633061d1f0b31109403d6538737b09c70964949b2662c8b5cb4cb26bd3f"), looks := true }, kinds := [], alts := [], laidByText := true, laidKinds := [.data, .data, .data, .data, .sentinel, .sentinel, .pinned], laidTests := true, laidLooks := .later }
def RationalMultipliesCardSaid : Prop := Claim7.holds Tryz.pinned (.plain (OpenSpec.ofChange rationalMultipliesSpec)) rationalMultipliesCard

/-- THE TIED CARD OF 'klippelaw51.LexerReads'. -/
def lexerReadsCard : Claim7 := { stood := { row := lexerReadsRow, standIns := [], harness := (true, "d2a0f633061d1f0b31109403d6538737b09c70964949b2662c8b5cb4cb26bd3f"), looks := true }, kinds := [], alts := [], laidByText := true, laidKinds := [.data, .data, .data, .data, .sentinel, .sentinel, .pinned], laidTests := true, laidLooks := .later }
def LexerReadsCardSaid : Prop := Claim7.holds Tryz.pinned (.plain (OpenSpec.ofChange lexerReadsSpec)) lexerReadsCard

/-- THE TIED CARD OF 'klippelaw51.LexerNil'. -/
def lexerNilCard : Claim7 := { stood := { row := lexerNilRow, standIns := [], harness := (true, "d2a0f633061d1f0b31109403d6538737b09c70964949b2662c8b5cb4cb26bd3f"), looks := true }, kinds := [], alts := [], laidByText := true, laidKinds := [.data, .data, .data, .data, .sentinel, .sentinel, .pinned], laidTests := true, laidLooks := .later }
def LexerNilCardSaid : Prop := Claim7.holds Tryz.pinned (.plain (OpenSpec.ofChange lexerNilSpec)) lexerNilCard

/-- THE TIED CARD OF 'klippelaw02.RationalAdds'. -/
def rationalAddsCard : Claim7 := { stood := { row := rationalAddsRow, standIns := [], harness := (true, "d2a0f633061d1f0b31109403d6538737b09c70964949b2662c8b5cb4cb26bd3f"), looks := true }, kinds := [], alts := [], laidByText := true, laidKinds := [.data, .data, .data, .data, .sentinel, .sentinel, .pinned], laidTests := true, laidLooks := .later }
def RationalAddsCardSaid : Prop := Claim7.holds Tryz.pinned (.plain (OpenSpec.ofChange rationalAddsSpec)) rationalAddsCard

/-- THE TIED CARD OF 'klippelaw51.LexerPrints'. -/
def lexerPrintsCard : Claim7 := { stood := { row := lexerPrintsRow, standIns := [], harness := (true, "d2a0f633061d1f0b31109403d6538737b09c70964949b2662c8b5cb4cb26bd3f"), looks := true }, kinds := [], alts := [], laidByText := true, laidKinds := [.data, .data, .data, .data, .sentinel, .sentinel, .pinned], laidTests := true, laidLooks := .later }
def LexerPrintsCardSaid : Prop := Claim7.holds Tryz.pinned (.plain (OpenSpec.ofChange lexerPrintsSpec)) lexerPrintsCard

/-- THE TIED CARD OF 'klippelaw51.LexerRefuses'. -/
def lexerRefusesCard : Claim7 := { stood := { row := lexerRefusesRow, standIns := [], harness := (true, "d2a0f633061d1f0b31109403d6538737b09c70964949b2662c8b5cb4cb26bd3f"), looks := true }, kinds := [], alts := [], laidByText := true, laidKinds := [.data, .data, .data, .data, .sentinel, .sentinel, .pinned], laidTests := true, laidLooks := .later }
def LexerRefusesCardSaid : Prop := Claim7.holds Tryz.pinned (.plain (OpenSpec.ofChange lexerRefusesSpec)) lexerRefusesCard

/-- THE TIED CARD OF 'klippelaw02.RationalCompares'. -/
def rationalComparesCard : Claim7 := { stood := { row := rationalComparesRow, standIns := [], harness := (true, "d2a0f633061d1f0b31109403d6538737b09c70964949b2662c8b5cb4cb26bd3f"), looks := true }, kinds := [], alts := [], laidByText := true, laidKinds := [.data, .data, .data, .data, .sentinel, .sentinel, .pinned], laidTests := true, laidLooks := .later }
def RationalComparesCardSaid : Prop := Claim7.holds Tryz.pinned (.plain (OpenSpec.ofChange rationalComparesSpec)) rationalComparesCard

/-- THE TIED CARD OF 'klippelaw02.RationalField'. -/
def rationalFieldCard : Claim7 := { stood := { row := rationalFieldRow, standIns := [], harness := (true, "d2a0f633061d1f0b31109403d6538737b09c70964949b2662c8b5cb4cb26bd3f"), looks := true }, kinds := [], alts := [], laidByText := true, laidKinds := [.data, .data, .data, .data, .sentinel, .sentinel, .pinned], laidTests := true, laidLooks := .later }
def RationalFieldCardSaid : Prop := Claim7.holds Tryz.pinned (.plain (OpenSpec.ofChange rationalFieldSpec)) rationalFieldCard

/-- THE TIED CARD OF 'klippelaw02.RationalChecks'. -/
def rationalChecksCard : Claim7 := { stood := { row := rationalChecksRow, standIns := [], harness := (true, "d2a0f633061d1f0b31109403d6538737b09c70964949b2662c8b5cb4cb26bd3f"), looks := true }, kinds := [], alts := [], laidByText := true, laidKinds := [.data, .data, .data, .data, .sentinel, .sentinel, .pinned], laidTests := true, laidLooks := .later }
def RationalChecksCardSaid : Prop := Claim7.holds Tryz.pinned (.plain (OpenSpec.ofChange rationalChecksSpec)) rationalChecksCard

/-- THE SECOND FORM's CARD OF 'klippelaw51.LexerScans'. -/
def lexerScansUptoCard : Claim7 := { stood := { row := lexerScansUptoRow, standIns := [], harness := (true, "d2a0f633061d1f0b31109403d6538737b09c70964949b2662c8b5cb4cb26bd3f"), looks := true }, kinds := [], alts := [], laidByText := true, laidKinds := [.data, .data, .data, .data, .sentinel, .sentinel, .pinned], laidTests := true, laidLooks := .later }
def LexerScansUptoCardSaid : Prop := Claim7.holds Tryz.pinned (.plain (OpenSpec.upto lexerScansSpec)) lexerScansUptoCard

/-- THE SECOND FORM's CARD OF 'klippelaw51.LexerBytes'. -/
def lexerBytesUptoCard : Claim7 := { stood := { row := lexerBytesUptoRow, standIns := [], harness := (true, "d2a0f633061d1f0b31109403d6538737b09c70964949b2662c8b5cb4cb26bd3f"), looks := true }, kinds := [], alts := [], laidByText := true, laidKinds := [.data, .data, .data, .data, .sentinel, .sentinel, .pinned], laidTests := true, laidLooks := .later }
def LexerBytesUptoCardSaid : Prop := Claim7.holds Tryz.pinned (.plain (OpenSpec.upto lexerBytesSpec)) lexerBytesUptoCard

/-- THE SECOND FORM's CARD OF 'klippelaw51.LexerLimits'. -/
def lexerLimitsUptoCard : Claim7 := { stood := { row := lexerLimitsUptoRow, standIns := [], harness := (true, "d2a0f633061d1f0b31109403d6538737b09c70964949b2662c8b5cb4cb26bd3f"), looks := true }, kinds := [], alts := [], laidByText := true, laidKinds := [.data, .data, .data, .data, .sentinel, .sentinel, .pinned], laidTests := true, laidLooks := .later }
def LexerLimitsUptoCardSaid : Prop := Claim7.holds Tryz.pinned (.plain (OpenSpec.upto lexerLimitsSpec)) lexerLimitsUptoCard

/-- THE SECOND FORM's CARD OF 'klippelaw02.RationalParses'. -/
def rationalParsesUptoCard : Claim7 := { stood := { row := rationalParsesUptoRow, standIns := [], harness := (true, "d2a0f633061d1f0b31109403d6538737b09c70964949b2662c8b5cb4cb26bd3f"), looks := true }, kinds := [], alts := [], laidByText := true, laidKinds := [.data, .data, .data, .data, .sentinel, .sentinel, .pinned], laidTests := true, laidLooks := .later }
def RationalParsesUptoCardSaid : Prop := Claim7.holds Tryz.pinned (.plain (OpenSpec.upto rationalParsesSpec)) rationalParsesUptoCard

/-- THE SECOND FORM's CARD OF 'klippelaw02.RationalDecimals'. -/
def rationalDecimalsUptoCard : Claim7 := { stood := { row := rationalDecimalsUptoRow, standIns := [], harness := (true, "d2a0f633061d1f0b31109403d6538737b09c70964949b2662c8b5cb4cb26bd3f"), looks := true }, kinds := [], alts := [], laidByText := true, laidKinds := [.data, .data, .data, .data, .sentinel, .sentinel, .pinned], laidTests := true, laidLooks := .later }
def RationalDecimalsUptoCardSaid : Prop := Claim7.holds Tryz.pinned (.plain (OpenSpec.upto rationalDecimalsSpec)) rationalDecimalsUptoCard

/-- THE SECOND FORM's CARD OF 'klippelaw02.RationalRoots'. -/
def rationalRootsUptoCard : Claim7 := { stood := { row := rationalRootsUptoRow, standIns := [], harness := (true, "d2a0f633061d1f0b31109403d6538737b09c70964949b2662c8b5cb4cb26bd3f"), looks := true }, kinds := [], alts := [], laidByText := true, laidKinds := [.data, .data, .data, .data, .sentinel, .sentinel, .pinned], laidTests := true, laidLooks := .later }
def RationalRootsUptoCardSaid : Prop := Claim7.holds Tryz.pinned (.plain (OpenSpec.upto rationalRootsSpec)) rationalRootsUptoCard

/-- THE SECOND FORM's CARD OF 'klippelaw51.LexerBlanks'. -/
def lexerBlanksUptoCard : Claim7 := { stood := { row := lexerBlanksUptoRow, standIns := [], harness := (true, "d2a0f633061d1f0b31109403d6538737b09c70964949b2662c8b5cb4cb26bd3f"), looks := true }, kinds := [], alts := [], laidByText := true, laidKinds := [.data, .data, .data, .data, .sentinel, .sentinel, .pinned], laidTests := true, laidLooks := .later }
def LexerBlanksUptoCardSaid : Prop := Claim7.holds Tryz.pinned (.plain (OpenSpec.upto lexerBlanksSpec)) lexerBlanksUptoCard

/-- THE SECOND FORM's CARD OF 'klippelaw02.RationalNews'. -/
def rationalNewsUptoCard : Claim7 := { stood := { row := rationalNewsUptoRow, standIns := [], harness := (true, "d2a0f633061d1f0b31109403d6538737b09c70964949b2662c8b5cb4cb26bd3f"), looks := true }, kinds := [], alts := [], laidByText := true, laidKinds := [.data, .data, .data, .data, .sentinel, .sentinel, .pinned], laidTests := true, laidLooks := .later }
def RationalNewsUptoCardSaid : Prop := Claim7.holds Tryz.pinned (.plain (OpenSpec.upto rationalNewsSpec)) rationalNewsUptoCard

/-- THE SECOND FORM's CARD OF 'klippelaw02.RationalRounds'. -/
def rationalRoundsUptoCard : Claim7 := { stood := { row := rationalRoundsUptoRow, standIns := [], harness := (true, "d2a0f633061d1f0b31109403d6538737b09c70964949b2662c8b5cb4cb26bd3f"), looks := true }, kinds := [], alts := [], laidByText := true, laidKinds := [.data, .data, .data, .data, .sentinel, .sentinel, .pinned], laidTests := true, laidLooks := .later }
def RationalRoundsUptoCardSaid : Prop := Claim7.holds Tryz.pinned (.plain (OpenSpec.upto rationalRoundsSpec)) rationalRoundsUptoCard

/-- THE SECOND FORM's CARD OF 'klippelaw02.RationalMultiplies'. -/
def rationalMultipliesUptoCard : Claim7 := { stood := { row := rationalMultipliesUptoRow, standIns := [], harness := (true, "d2a0f633061d1f0b31109403d6538737b09c70964949b2662c8b5cb4cb26bd3f"), looks := true }, kinds := [], alts := [], laidByText := true, laidKinds := [.data, .data, .data, .data, .sentinel, .sentinel, .pinned], laidTests := true, laidLooks := .later }
def RationalMultipliesUptoCardSaid : Prop := Claim7.holds Tryz.pinned (.plain (OpenSpec.upto rationalMultipliesSpec)) rationalMultipliesUptoCard

/-- THE SECOND FORM's CARD OF 'klippelaw51.LexerReads'. -/
def lexerReadsUptoCard : Claim7 := { stood := { row := lexerReadsUptoRow, standIns := [], harness := (true, "d2a0f633061d1f0b31109403d6538737b09c70964949b2662c8b5cb4cb26bd3f"), looks := true }, kinds := [], alts := [], laidByText := true, laidKinds := [.data, .data, .data, .data, .sentinel, .sentinel, .pinned], laidTests := true, laidLooks := .later }
def LexerReadsUptoCardSaid : Prop := Claim7.holds Tryz.pinned (.plain (OpenSpec.upto lexerReadsSpec)) lexerReadsUptoCard

/-- THE SECOND FORM's CARD OF 'klippelaw51.LexerNil'. -/
def lexerNilUptoCard : Claim7 := { stood := { row := lexerNilUptoRow, standIns := [], harness := (true, "d2a0f633061d1f0b31109403d6538737b09c70964949b2662c8b5cb4cb26bd3f"), looks := true }, kinds := [], alts := [], laidByText := true, laidKinds := [.data, .data, .data, .data, .sentinel, .sentinel, .pinned], laidTests := true, laidLooks := .later }
def LexerNilUptoCardSaid : Prop := Claim7.holds Tryz.pinned (.plain (OpenSpec.upto lexerNilSpec)) lexerNilUptoCard

/-- THE SECOND FORM's CARD OF 'klippelaw02.RationalAdds'. -/
def rationalAddsUptoCard : Claim7 := { stood := { row := rationalAddsUptoRow, standIns := [], harness := (true, "d2a0f633061d1f0b31109403d6538737b09c70964949b2662c8b5cb4cb26bd3f"), looks := true }, kinds := [], alts := [], laidByText := true, laidKinds := [.data, .data, .data, .data, .sentinel, .sentinel, .pinned], laidTests := true, laidLooks := .later }
def RationalAddsUptoCardSaid : Prop := Claim7.holds Tryz.pinned (.plain (OpenSpec.upto rationalAddsSpec)) rationalAddsUptoCard

/-- THE SECOND FORM's CARD OF 'klippelaw51.LexerPrints'. -/
def lexerPrintsUptoCard : Claim7 := { stood := { row := lexerPrintsUptoRow, standIns := [], harness := (true, "d2a0f633061d1f0b31109403d6538737b09c70964949b2662c8b5cb4cb26bd3f"), looks := true }, kinds := [], alts := [], laidByText := true, laidKinds := [.data, .data, .data, .data, .sentinel, .sentinel, .pinned], laidTests := true, laidLooks := .later }
def LexerPrintsUptoCardSaid : Prop := Claim7.holds Tryz.pinned (.plain (OpenSpec.upto lexerPrintsSpec)) lexerPrintsUptoCard

/-- THE SECOND FORM's CARD OF 'klippelaw51.LexerRefuses'. -/
def lexerRefusesUptoCard : Claim7 := { stood := { row := lexerRefusesUptoRow, standIns := [], harness := (true, "d2a0f633061d1f0b31109403d6538737b09c70964949b2662c8b5cb4cb26bd3f"), looks := true }, kinds := [], alts := [], laidByText := true, laidKinds := [.data, .data, .data, .data, .sentinel, .sentinel, .pinned], laidTests := true, laidLooks := .later }
def LexerRefusesUptoCardSaid : Prop := Claim7.holds Tryz.pinned (.plain (OpenSpec.upto lexerRefusesSpec)) lexerRefusesUptoCard

/-- THE SECOND FORM's CARD OF 'klippelaw02.RationalCompares'. -/
def rationalComparesUptoCard : Claim7 := { stood := { row := rationalComparesUptoRow, standIns := [], harness := (true, "d2a0f633061d1f0b31109403d6538737b09c70964949b2662c8b5cb4cb26bd3f"), looks := true }, kinds := [], alts := [], laidByText := true, laidKinds := [.data, .data, .data, .data, .sentinel, .sentinel, .pinned], laidTests := true, laidLooks := .later }
def RationalComparesUptoCardSaid : Prop := Claim7.holds Tryz.pinned (.plain (OpenSpec.upto rationalComparesSpec)) rationalComparesUptoCard

/-- THE SECOND FORM's CARD OF 'klippelaw02.RationalField'. -/
def rationalFieldUptoCard : Claim7 := { stood := { row := rationalFieldUptoRow, standIns := [], harness := (true, "d2a0f633061d1f0b31109403d6538737b09c70964949b2662c8b5cb4cb26bd3f"), looks := true }, kinds := [], alts := [], laidByText := true, laidKinds := [.data, .data, .data, .data, .sentinel, .sentinel, .pinned], laidTests := true, laidLooks := .later }
def RationalFieldUptoCardSaid : Prop := Claim7.holds Tryz.pinned (.plain (OpenSpec.upto rationalFieldSpec)) rationalFieldUptoCard

/-- THE SECOND FORM's CARD OF 'klippelaw02.RationalChecks'. -/
def rationalChecksUptoCard : Claim7 := { stood := { row := rationalChecksUptoRow, standIns := [], harness := (true, "d2a0f633061d1f0b31109403d6538737b09c70964949b2662c8b5cb4cb26bd3f"), looks := true }, kinds := [], alts := [], laidByText := true, laidKinds := [.data, .data, .data, .data, .sentinel, .sentinel, .pinned], laidTests := true, laidLooks := .later }
def RationalChecksUptoCardSaid : Prop := Claim7.holds Tryz.pinned (.plain (OpenSpec.upto rationalChecksSpec)) rationalChecksUptoCard
end Rows
end Go.Proofs.YtnfgokmecllpbaaGreatDoor
