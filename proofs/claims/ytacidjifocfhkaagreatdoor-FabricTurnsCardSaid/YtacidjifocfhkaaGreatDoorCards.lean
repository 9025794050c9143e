/-
  DERIVED. GIVEN WITH THE SEED: THE CARDS: each row of YtacidjifocfhkaaGreatDoorRows.lean that lists a variable, with what it lists TIED to the program's text (the seventh form; the later family's looks); each row that meets fmt, with fmt's text TOLD by the authors' own Lean function (tested against real Go, not proved from fmt's source: count such statements apart). THE CARD IS WHAT COUNTS. Prove the row's statement (the work); the ties are given (YtacidjifocfhkaaGreatDoorTie.lean); close each card by the builder's one call (the guide's Derived/Test/ToyasCard.lean, 'card_holds'). Laid BY PROGRAM, IN A SANDBOX (cutbox-door.mjs). By AI agents, Wed Nov 11 2026. No macro, syntax, notation, axiom, sorry.
-/
import Derived.Test.YtacidjifocfhkaaGreatDoorRows
import GoSem.ClaimSeven
namespace Go.Proofs.YtacidjifocfhkaaGreatDoor
namespace Rows

/-- THE TIED CARD OF 'corrallaw20.FabricAsks'. -/
def fabricAsksCard : Claim7 := { stood := { row := fabricAsksRow, standIns := [], harness := (true, "beaddecdb8a3510ccd37603628731803452b6c12f03e012ac52c753f3fbf71ac"), looks := true }, kinds := [], alts := [], laidByText := true, laidKinds := [.sentinel, .sentinel, .sentinel, .sentinel, .sentinel, .sentinel, .sentinel, .sentinel, .sentinel, .sentinel, .sentinel], laidTests := true, laidLooks := .later }
def FabricAsksCardSaid : Prop := Claim7.holds Tryz.pinned (.plain (OpenSpec.ofChange fabricAsksSpec)) fabricAsksCard

/-- THE TIED CARD OF 'corrallaw20.FabricReaders'. -/
def fabricReadersCard : Claim7 := { stood := { row := fabricReadersRow, standIns := [], harness := (true, "beaddecdb8a3510ccd37603628731803452b6c12f03e012ac52c753f3fbf71ac"), looks := true }, kinds := [], alts := [], laidByText := true, laidKinds := [.sentinel, .sentinel, .sentinel, .sentinel, .sentinel], laidTests := true, laidLooks := .later }
def FabricReadersCardSaid : Prop := Claim7.holds Tryz.pinned (.plain (OpenSpec.ofChange fabricReadersSpec)) fabricReadersCard

/-- THE TIED CARD OF 'corrallaw20.FabricLost'. -/
def fabricLostCard : Claim7 := { stood := { row := fabricLostRow, standIns := [], harness := (true, "beaddecdb8a3510ccd37603628731803452b6c12f03e012ac52c753f3fbf71ac"), looks := true }, kinds := [], alts := [], laidByText := true, laidKinds := [.sentinel, .sentinel, .sentinel, .sentinel, .sentinel], laidTests := true, laidLooks := .later }
def FabricLostCardSaid : Prop := Claim7.holds Tryz.pinned (.plain (OpenSpec.ofChange fabricLostSpec)) fabricLostCard

/-- THE TIED CARD OF 'corrallaw20.FabricTurns'. -/
def fabricTurnsCard : Claim7 := { stood := { row := fabricTurnsRow, standIns := [], harness := (true, "beaddecdb8a3510ccd37603628731803452b6c12f03e012ac52c753f3fbf71ac"), looks := true }, kinds := [], alts := [], laidByText := true, laidKinds := [.sentinel, .sentinel, .sentinel, .sentinel, .sentinel], laidTests := true, laidLooks := .later }
def FabricTurnsCardSaid : Prop := Claim7.holds Tryz.pinned (.plain (OpenSpec.ofChange fabricTurnsSpec)) fabricTurnsCard

/-- THE TIED CARD OF 'corrallaw20.FabricSmall'. -/
def fabricSmallCard : Claim7 := { stood := { row := fabricSmallRow, standIns := [], harness := (true, "beaddecdb8a3510ccd37603628731803452b6c12f03e012ac52c753f3fbf71ac"), looks := true }, kinds := [], alts := [], laidByText := true, laidKinds := [.sentinel, .sentinel, .sentinel, .sentinel, .sentinel], laidTests := true, laidLooks := .later }
def FabricSmallCardSaid : Prop := Claim7.holds Tryz.pinned (.plain (OpenSpec.ofChange fabricSmallSpec)) fabricSmallCard

/-- THE TIED CARD OF 'corrallaw20.FabricPlays'. -/
def fabricPlaysCard : Claim7 := { stood := { row := fabricPlaysRow, standIns := [], harness := (true, "beaddecdb8a3510ccd37603628731803452b6c12f03e012ac52c753f3fbf71ac"), looks := true }, kinds := [], alts := [], laidByText := true, laidKinds := [.sentinel, .sentinel, .sentinel, .sentinel, .sentinel], laidTests := true, laidLooks := .later }
def FabricPlaysCardSaid : Prop := Claim7.holds Tryz.pinned (.plain (OpenSpec.ofChange fabricPlaysSpec)) fabricPlaysCard

/-- THE SECOND FORM's CARD OF 'corrallaw20.FabricAsks'. -/
def fabricAsksUptoCard : Claim7 := { stood := { row := fabricAsksUptoRow, standIns := [], harness := (true, "beaddecdb8a3510ccd37603628731803452b6c12f03e012ac52c753f3fbf71ac"), looks := true }, kinds := [], alts := [], laidByText := true, laidKinds := [.sentinel, .sentinel, .sentinel, .sentinel, .sentinel, .sentinel, .sentinel, .sentinel, .sentinel, .sentinel, .sentinel], laidTests := true, laidLooks := .later }
def FabricAsksUptoCardSaid : Prop := Claim7.holds Tryz.pinned (.plain (OpenSpec.upto fabricAsksSpec)) fabricAsksUptoCard

/-- THE SECOND FORM's CARD OF 'corrallaw20.FabricReaders'. -/
def fabricReadersUptoCard : Claim7 := { stood := { row := fabricReadersUptoRow, standIns := [], harness := (true, "beaddecdb8a3510ccd37603628731803452b6c12f03e012ac52c753f3fbf71ac"), looks := true }, kinds := [], alts := [], laidByText := true, laidKinds := [.sentinel, .sentinel, .sentinel, .sentinel, .sentinel], laidTests := true, laidLooks := .later }
def FabricReadersUptoCardSaid : Prop := Claim7.holds Tryz.pinned (.plain (OpenSpec.upto fabricReadersSpec)) fabricReadersUptoCard

/-- THE SECOND FORM's CARD OF 'corrallaw20.FabricLost'. -/
def fabricLostUptoCard : Claim7 := { stood := { row := fabricLostUptoRow, standIns := [], harness := (true, "beaddecdb8a3510ccd37603628731803452b6c12f03e012ac52c753f3fbf71ac"), looks := true }, kinds := [], alts := [], laidByText := true, laidKinds := [.sentinel, .sentinel, .sentinel, .sentinel, .sentinel], laidTests := true, laidLooks := .later }
def FabricLostUptoCardSaid : Prop := Claim7.holds Tryz.pinned (.plain (OpenSpec.upto fabricLostSpec)) fabricLostUptoCard

/-- THE SECOND FORM's CARD OF 'corrallaw20.FabricTurns'. -/
def fabricTurnsUptoCard : Claim7 := { stood := { row := fabricTurnsUptoRow, standIns := [], harness := (true, "beaddecdb8a3510ccd37603628731803452b6c12f03e012ac52c753f3fbf71ac"), looks := true }, kinds := [], alts := [], laidByText := true, laidKinds := [.sentinel, .sentinel, .sentinel, .sentinel, .sentinel], laidTests := true, laidLooks := .later }
def FabricTurnsUptoCardSaid : Prop := Claim7.holds Tryz.pinned (.plain (OpenSpec.upto fabricTurnsSpec)) fabricTurnsUptoCard

/-- THE SECOND FORM's CARD OF 'corrallaw20.FabricSmall'. -/
def fabricSmallUptoCard : Claim7 := { stood := { row := fabricSmallUptoRow, standIns := [], harness := (true, "beaddecdb8a3510ccd37603628731803452b6c12f03e012ac52c753f3fbf71ac"), looks := true }, kinds := [], alts := [], laidByText := true, laidKinds := [.sentinel, .sentinel, .sentinel, .sentinel, .sentinel], laidTests := true, laidLooks := .later }
def FabricSmallUptoCardSaid : Prop := Claim7.holds Tryz.pinned (.plain (OpenSpec.upto fabricSmallSpec)) fabricSmallUptoCard

/-- THE SECOND FORM's CARD OF 'corrallaw20.FabricPlays'. -/
def fabricPlaysUptoCard : Claim7 := { stood := { row := fabricPlaysUptoRow, standIns := [], harness := (true, "beaddecdb8a3510ccd37603628731803452b6c12f03e012ac52c753f3fbf71ac"), looks := true }, kinds := [], alts := [], laidByText := true, laidKinds := [.sentinel, .sentinel, .sentinel, .sentinel, .sentinel], laidTests := true, laidLooks := .later }
def FabricPlaysUptoCardSaid : Prop := Claim7.holds Tryz.pinned (.plain (OpenSpec.upto fabricPlaysSpec)) fabricPlaysUptoCard
end Rows
end Go.Proofs.YtacidjifocfhkaaGreatDoor
