/-
  DERIVED. GIVEN WITH THE SEED: THE CARDS: each row of YtgcneehkconghaaGreatDoorRows.lean that lists a variable, with what it lists TIED to the program's text (the seventh form; the later family's looks); each row that meets fmt, with fmt's text TOLD by the authors' own Lean function (tested against real Go, not proved from fmt's source: count such statements apart). THE CARD IS WHAT COUNTS. Prove the row's statement (the work); the ties are given (YtgcneehkconghaaGreatDoorTie.lean); close each card by the builder's one call (the guide's Derived/Test/ToyasCard.lean, 'card_holds'). Laid BY PROGRAM, IN A SANDBOX (cutbox-door.mjs). By AI agents, Wed Nov 11 2026. No macro, syntax, notation, axiom, sorry.
-/
import Derived.Test.YtgcneehkconghaaGreatDoorRows
import GoSem.ClaimSeven
namespace Go.Proofs.YtgcneehkconghaaGreatDoor
namespace Rows

/-- THE TIED CARD OF 'semispacelaw18.EnvResolves'. -/
def envResolvesCard : Claim7 := { stood := { row := envResolvesRow, standIns := [], harness := (true, "4c6336aa46039ad6e1ecac966eb748e11c1df34d9ed157384ebb99432c94701e"), looks := true }, kinds := [], alts := [], laidByText := true, laidKinds := [.widerDeep], laidTests := true, laidLooks := .later }
def EnvResolvesCardSaid : Prop := Claim7.holds Tryz.pinned (.plain (OpenSpec.ofChange envResolvesSpec)) envResolvesCard

/-- THE TIED CARD OF 'semispacelaw19.BoundaryReads'. -/
def boundaryReadsCard : Claim7 := { stood := { row := boundaryReadsRow, standIns := [], harness := (true, "4c6336aa46039ad6e1ecac966eb748e11c1df34d9ed157384ebb99432c94701e"), looks := true }, kinds := [], alts := [], laidByText := true, laidKinds := [.widerDeep], laidTests := true, laidLooks := .later }
def BoundaryReadsCardSaid : Prop := Claim7.holds Tryz.pinned (.plain (OpenSpec.ofChange boundaryReadsSpec)) boundaryReadsCard

/-- THE SECOND FORM's CARD OF 'semispacelaw18.EnvResolves'. -/
def envResolvesUptoCard : Claim7 := { stood := { row := envResolvesUptoRow, standIns := [], harness := (true, "4c6336aa46039ad6e1ecac966eb748e11c1df34d9ed157384ebb99432c94701e"), looks := true }, kinds := [], alts := [], laidByText := true, laidKinds := [.widerDeep], laidTests := true, laidLooks := .later }
def EnvResolvesUptoCardSaid : Prop := Claim7.holds Tryz.pinned (.plain (OpenSpec.upto envResolvesSpec)) envResolvesUptoCard

/-- THE SECOND FORM's CARD OF 'semispacelaw19.BoundaryReads'. -/
def boundaryReadsUptoCard : Claim7 := { stood := { row := boundaryReadsUptoRow, standIns := [], harness := (true, "4c6336aa46039ad6e1ecac966eb748e11c1df34d9ed157384ebb99432c94701e"), looks := true }, kinds := [], alts := [], laidByText := true, laidKinds := [.widerDeep], laidTests := true, laidLooks := .later }
def BoundaryReadsUptoCardSaid : Prop := Claim7.holds Tryz.pinned (.plain (OpenSpec.upto boundaryReadsSpec)) boundaryReadsUptoCard
end Rows
end Go.Proofs.YtgcneehkconghaaGreatDoor
