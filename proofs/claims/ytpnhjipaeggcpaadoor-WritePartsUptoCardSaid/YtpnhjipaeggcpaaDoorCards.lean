/-
  DERIVED. GIVEN WITH THE SEED: THE CARDS: each row of YtpnhjipaeggcpaaDoorRows.lean that lists a variable, with what it lists TIED to the program's text (the seventh form; the later family's looks); each row that meets fmt, with fmt's text TOLD by the authors' own Lean function (tested against real Go, not proved from fmt's source: count such statements apart). THE CARD IS WHAT COUNTS. Prove the row's statement (the work); the ties are given (YtpnhjipaeggcpaaDoorTie.lean); close each card by the builder's one call (the guide's Derived/Test/ToyasCard.lean, 'card_holds'). Laid BY PROGRAM, IN A SANDBOX (cutbox-door.mjs). By AI agents, Wed Nov 11 2026. No macro, syntax, notation, axiom, sorry.
-/
import Derived.Test.YtpnhjipaeggcpaaDoorRows
import GoSem.ClaimSeven
namespace Go.Proofs.YtpnhjipaeggcpaaDoor
namespace Rows

/-- THE TIED CARD OF 'boltinglaw08.WriteRows'. -/
def writeRowsCard : Claim7 := { stood := { row := writeRowsRow, standIns := [], harness := (true, "d1153c9c32b16ae1b057bb0e5637bfaf7b0938ad22ac72297e4f89947a002339"), looks := false }, kinds := [], alts := [], laidByText := true, laidKinds := [.data, .pinned], laidTests := true, laidLooks := .later }
def WriteRowsCardSaid : Prop := Claim7.holds Tryd.pinned (.plain (OpenSpec.ofChange writeRowsSpec)) writeRowsCard

/-- THE TIED CARD OF 'boltinglaw08.WriteParts'. -/
def writePartsCard : Claim7 := { stood := { row := writePartsRow, standIns := [], harness := (true, "d1153c9c32b16ae1b057bb0e5637bfaf7b0938ad22ac72297e4f89947a002339"), looks := false }, kinds := [], alts := [], laidByText := true, laidKinds := [.data, .pinned], laidTests := true, laidLooks := .later }
def WritePartsCardSaid : Prop := Claim7.holds Tryd.pinned (.plain (OpenSpec.ofChange writePartsSpec)) writePartsCard

/-- THE TIED CARD OF 'boltinglaw08.WriteTwo'. -/
def writeTwoCard : Claim7 := { stood := { row := writeTwoRow, standIns := [], harness := (true, "d1153c9c32b16ae1b057bb0e5637bfaf7b0938ad22ac72297e4f89947a002339"), looks := false }, kinds := [], alts := [], laidByText := true, laidKinds := [.data, .pinned], laidTests := true, laidLooks := .later }
def WriteTwoCardSaid : Prop := Claim7.holds Tryd.pinned (.plain (OpenSpec.ofChange writeTwoSpec)) writeTwoCard

/-- THE SECOND FORM's CARD OF 'boltinglaw08.WriteRows'. -/
def writeRowsUptoCard : Claim7 := { stood := { row := writeRowsUptoRow, standIns := [], harness := (true, "d1153c9c32b16ae1b057bb0e5637bfaf7b0938ad22ac72297e4f89947a002339"), looks := false }, kinds := [], alts := [], laidByText := true, laidKinds := [.data, .pinned], laidTests := true, laidLooks := .later }
def WriteRowsUptoCardSaid : Prop := Claim7.holds Tryd.pinned (.plain (OpenSpec.upto writeRowsSpec)) writeRowsUptoCard

/-- THE SECOND FORM's CARD OF 'boltinglaw08.WriteParts'. -/
def writePartsUptoCard : Claim7 := { stood := { row := writePartsUptoRow, standIns := [], harness := (true, "d1153c9c32b16ae1b057bb0e5637bfaf7b0938ad22ac72297e4f89947a002339"), looks := false }, kinds := [], alts := [], laidByText := true, laidKinds := [.data, .pinned], laidTests := true, laidLooks := .later }
def WritePartsUptoCardSaid : Prop := Claim7.holds Tryd.pinned (.plain (OpenSpec.upto writePartsSpec)) writePartsUptoCard

/-- THE SECOND FORM's CARD OF 'boltinglaw08.WriteTwo'. -/
def writeTwoUptoCard : Claim7 := { stood := { row := writeTwoUptoRow, standIns := [], harness := (true, "d1153c9c32b16ae1b057bb0e5637bfaf7b0938ad22ac72297e4f89947a002339"), looks := false }, kinds := [], alts := [], laidByText := true, laidKinds := [.data, .pinned], laidTests := true, laidLooks := .later }
def WriteTwoUptoCardSaid : Prop := Claim7.holds Tryd.pinned (.plain (OpenSpec.upto writeTwoSpec)) writeTwoUptoCard
end Rows
end Go.Proofs.YtpnhjipaeggcpaaDoor
