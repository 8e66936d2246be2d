/-
  DERIVED. GIVEN WITH THE SEED: THE CARDS: each row of YtbnjfehippbbfaaGreatDoorRows.lean that lists a variable, with what it lists TIED to the program's text (the seventh form; the later family's looks); each row that meets fmt, with fmt's text TOLD by the authors' own Lean function (tested against real Go, not proved from fmt's source: count such statements apart). THE CARD IS WHAT COUNTS. Prove the row's statement (the work); the ties are given (YtbnjfehippbbfaaGreatDoorTie.lean); close each card by the builder's one call (the guide's Derived/Test/ToyasCard.lean, 'card_holds'). Laid BY PROGRAM, IN A SANDBOX (cutbox-door.mjs). By AI agents, Wed Nov 11 2026. No macro, syntax, notation, axiom, sorry.
-/
import Derived.Test.YtbnjfehippbbfaaGreatDoorRows
import GoSem.ClaimSeven
namespace Go.Proofs.YtbnjfehippbbfaaGreatDoor
namespace Rows

/-- THE TIED CARD OF 'copselaw12.CycleAll'. -/
def cycleAllCard : Claim7 := { stood := { row := cycleAllRow, standIns := [], harness := (true, "b0fd0c86232a31d2fa78262a322fc6b0f2b3e4bc554cb80b580208085305039f"), looks := false }, kinds := [], alts := [], laidByText := true, laidKinds := [.data, .pinned], laidTests := true, laidLooks := .later }
def CycleAllCardSaid : Prop := Claim7.holds Tryz.pinned (.plain (OpenSpec.ofChange cycleAllSpec)) cycleAllCard

/-- THE TIED CARD OF 'copselaw12.CycleFresh'. -/
def cycleFreshCard : Claim7 := { stood := { row := cycleFreshRow, standIns := [], harness := (true, "b0fd0c86232a31d2fa78262a322fc6b0f2b3e4bc554cb80b580208085305039f"), looks := false }, kinds := [], alts := [], laidByText := true, laidKinds := [.data, .pinned], laidTests := true, laidLooks := .later }
def CycleFreshCardSaid : Prop := Claim7.holds Tryz.pinned (.plain (OpenSpec.ofChange cycleFreshSpec)) cycleFreshCard

/-- THE TIED CARD OF 'copselaw12.CycleParts'. -/
def cyclePartsCard : Claim7 := { stood := { row := cyclePartsRow, standIns := [], harness := (true, "b0fd0c86232a31d2fa78262a322fc6b0f2b3e4bc554cb80b580208085305039f"), looks := false }, kinds := [], alts := [], laidByText := true, laidKinds := [.data, .pinned], laidTests := true, laidLooks := .later }
def CyclePartsCardSaid : Prop := Claim7.holds Tryz.pinned (.plain (OpenSpec.ofChange cyclePartsSpec)) cyclePartsCard

/-- THE SECOND FORM's CARD OF 'copselaw12.CycleAll'. -/
def cycleAllUptoCard : Claim7 := { stood := { row := cycleAllUptoRow, standIns := [], harness := (true, "b0fd0c86232a31d2fa78262a322fc6b0f2b3e4bc554cb80b580208085305039f"), looks := false }, kinds := [], alts := [], laidByText := true, laidKinds := [.data, .pinned], laidTests := true, laidLooks := .later }
def CycleAllUptoCardSaid : Prop := Claim7.holds Tryz.pinned (.plain (OpenSpec.upto cycleAllSpec)) cycleAllUptoCard

/-- THE SECOND FORM's CARD OF 'copselaw12.CycleFresh'. -/
def cycleFreshUptoCard : Claim7 := { stood := { row := cycleFreshUptoRow, standIns := [], harness := (true, "b0fd0c86232a31d2fa78262a322fc6b0f2b3e4bc554cb80b580208085305039f"), looks := false }, kinds := [], alts := [], laidByText := true, laidKinds := [.data, .pinned], laidTests := true, laidLooks := .later }
def CycleFreshUptoCardSaid : Prop := Claim7.holds Tryz.pinned (.plain (OpenSpec.upto cycleFreshSpec)) cycleFreshUptoCard

/-- THE SECOND FORM's CARD OF 'copselaw12.CycleParts'. -/
def cyclePartsUptoCard : Claim7 := { stood := { row := cyclePartsUptoRow, standIns := [], harness := (true, "b0fd0c86232a31d2fa78262a322fc6b0f2b3e4bc554cb80b580208085305039f"), looks := false }, kinds := [], alts := [], laidByText := true, laidKinds := [.data, .pinned], laidTests := true, laidLooks := .later }
def CyclePartsUptoCardSaid : Prop := Claim7.holds Tryz.pinned (.plain (OpenSpec.upto cyclePartsSpec)) cyclePartsUptoCard
end Rows
end Go.Proofs.YtbnjfehippbbfaaGreatDoor
