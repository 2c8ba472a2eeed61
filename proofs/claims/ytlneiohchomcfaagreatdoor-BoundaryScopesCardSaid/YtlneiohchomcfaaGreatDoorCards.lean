/-
  DERIVED. GIVEN WITH THE SEED: THE CARDS: each row of YtlneiohchomcfaaGreatDoorRows.lean that lists a variable, with what it lists TIED to the program's text (the seventh form; the later family's looks); each row that meets fmt, with fmt's text TOLD by the authors' own Lean function (tested against real Go, not proved from fmt's source: count such statements apart). THE CARD IS WHAT COUNTS. Prove the row's statement (the work); the ties are given (YtlneiohchomcfaaGreatDoorTie.lean); close each card by the builder's one call (the guide's Derived/Test/ToyasCard.lean, 'card_holds'). Laid BY PROGRAM, IN A SANDBOX (cutbox-door.mjs). By AI agents, Wed Nov 11 2026. No macro, syntax, notation, axiom, sorry.
-/
import Derived.Test.YtlneiohchomcfaaGreatDoorRows
import GoSem.ClaimSeven
namespace Go.Proofs.YtlneiohchomcfaaGreatDoor
namespace Rows

/-- THE TIED CARD OF 'semispacelaw19.BoundaryValid'. -/
def boundaryValidCard : Claim7 := { stood := { row := boundaryValidRow, standIns := [], harness := (true, "54deba3915196093a61723876cb2c3560f2176bbe8ed7c5aa0e725cc6d47bcdc"), looks := true }, kinds := [], alts := [], laidByText := true, laidKinds := [.widerDeep], laidTests := true, laidLooks := .later }
def BoundaryValidCardSaid : Prop := Claim7.holds Tryz.pinned (.plain (OpenSpec.ofChange boundaryValidSpec)) boundaryValidCard

/-- THE TIED CARD OF 'semispacelaw19.BoundaryFields'. -/
def boundaryFieldsCard : Claim7 := { stood := { row := boundaryFieldsRow, standIns := [], harness := (true, "54deba3915196093a61723876cb2c3560f2176bbe8ed7c5aa0e725cc6d47bcdc"), looks := true }, kinds := [], alts := [], laidByText := true, laidKinds := [.widerDeep], laidTests := true, laidLooks := .later }
def BoundaryFieldsCardSaid : Prop := Claim7.holds Tryz.pinned (.plain (OpenSpec.ofChange boundaryFieldsSpec)) boundaryFieldsCard

/-- THE TIED CARD OF 'semispacelaw19.BoundaryScopes'. -/
def boundaryScopesCard : Claim7 := { stood := { row := boundaryScopesRow, standIns := [], harness := (true, "54deba3915196093a61723876cb2c3560f2176bbe8ed7c5aa0e725cc6d47bcdc"), looks := true }, kinds := [], alts := [], laidByText := true, laidKinds := [.widerDeep], laidTests := true, laidLooks := .later }
def BoundaryScopesCardSaid : Prop := Claim7.holds Tryz.pinned (.plain (OpenSpec.ofChange boundaryScopesSpec)) boundaryScopesCard

/-- THE TIED CARD OF 'semispacelaw19.BoundaryCritical'. -/
def boundaryCriticalCard : Claim7 := { stood := { row := boundaryCriticalRow, standIns := [], harness := (true, "54deba3915196093a61723876cb2c3560f2176bbe8ed7c5aa0e725cc6d47bcdc"), looks := true }, kinds := [], alts := [], laidByText := true, laidKinds := [.widerDeep], laidTests := true, laidLooks := .later }
def BoundaryCriticalCardSaid : Prop := Claim7.holds Tryz.pinned (.plain (OpenSpec.ofChange boundaryCriticalSpec)) boundaryCriticalCard

/-- THE SECOND FORM's CARD OF 'semispacelaw19.BoundaryValid'. -/
def boundaryValidUptoCard : Claim7 := { stood := { row := boundaryValidUptoRow, standIns := [], harness := (true, "54deba3915196093a61723876cb2c3560f2176bbe8ed7c5aa0e725cc6d47bcdc"), looks := true }, kinds := [], alts := [], laidByText := true, laidKinds := [.widerDeep], laidTests := true, laidLooks := .later }
def BoundaryValidUptoCardSaid : Prop := Claim7.holds Tryz.pinned (.plain (OpenSpec.upto boundaryValidSpec)) boundaryValidUptoCard

/-- THE SECOND FORM's CARD OF 'semispacelaw19.BoundaryFields'. -/
def boundaryFieldsUptoCard : Claim7 := { stood := { row := boundaryFieldsUptoRow, standIns := [], harness := (true, "54deba3915196093a61723876cb2c3560f2176bbe8ed7c5aa0e725cc6d47bcdc"), looks := true }, kinds := [], alts := [], laidByText := true, laidKinds := [.widerDeep], laidTests := true, laidLooks := .later }
def BoundaryFieldsUptoCardSaid : Prop := Claim7.holds Tryz.pinned (.plain (OpenSpec.upto boundaryFieldsSpec)) boundaryFieldsUptoCard

/-- THE SECOND FORM's CARD OF 'semispacelaw19.BoundaryScopes'. -/
def boundaryScopesUptoCard : Claim7 := { stood := { row := boundaryScopesUptoRow, standIns := [], harness := (true, "54deba3915196093a61723876cb2c3560f2176bbe8ed7c5aa0e725cc6d47bcdc"), looks := true }, kinds := [], alts := [], laidByText := true, laidKinds := [.widerDeep], laidTests := true, laidLooks := .later }
def BoundaryScopesUptoCardSaid : Prop := Claim7.holds Tryz.pinned (.plain (OpenSpec.upto boundaryScopesSpec)) boundaryScopesUptoCard

/-- THE SECOND FORM's CARD OF 'semispacelaw19.BoundaryCritical'. -/
def boundaryCriticalUptoCard : Claim7 := { stood := { row := boundaryCriticalUptoRow, standIns := [], harness := (true, "54deba3915196093a61723876cb2c3560f2176bbe8ed7c5aa0e725cc6d47bcdc"), looks := true }, kinds := [], alts := [], laidByText := true, laidKinds := [.widerDeep], laidTests := true, laidLooks := .later }
def BoundaryCriticalUptoCardSaid : Prop := Claim7.holds Tryz.pinned (.plain (OpenSpec.upto boundaryCriticalSpec)) boundaryCriticalUptoCard
end Rows
end Go.Proofs.YtlneiohchomcfaaGreatDoor
