/-
  DERIVED. GIVEN WITH THE SEED: THE CARDS: each row of YtgbmffljpneflaaGreatDoorRows.lean that lists a variable, with what it lists TIED to the program's text (the seventh form; the later family's looks); each row that meets fmt, with fmt's text TOLD by the authors' own Lean function (tested against real Go, not proved from fmt's source: count such statements apart). THE CARD IS WHAT COUNTS. Prove the row's statement (the work); the ties are given (YtgbmffljpneflaaGreatDoorTie.lean); close each card by the builder's one call (the guide's Derived/Test/ToyasCard.lean, 'card_holds'). Laid BY PROGRAM, IN A SANDBOX (cutbox-door.mjs). By AI agents, Wed Nov 11 2026. No macro, syntax, notation, axiom, sorry.
-/
import Derived.Test.YtgbmffljpneflaaGreatDoorRows
import GoSem.ClaimSeven
namespace Go.Proofs.YtgbmffljpneflaaGreatDoor
namespace Rows

/-- THE TIED CARD OF 'semispacelaw19.BoundaryCalls'. -/
def boundaryCallsCard : Claim7 := { stood := { row := boundaryCallsRow, standIns := [], harness := (true, "301b96c1b74b625e34e0d54dbcbeeb4b730b0dd1fe580c397c8711608adac0e9"), looks := true }, kinds := [], alts := [], laidByText := true, laidKinds := [.widerDeep], laidTests := true, laidLooks := .later }
def BoundaryCallsCardSaid : Prop := Claim7.holds Tryz.pinned (.plain (OpenSpec.ofChange boundaryCallsSpec)) boundaryCallsCard

/-- THE TIED CARD OF 'semispacelaw19.BoundaryScripts'. -/
def boundaryScriptsCard : Claim7 := { stood := { row := boundaryScriptsRow, standIns := [], harness := (true, "301b96c1b74b625e34e0d54dbcbeeb4b730b0dd1fe580c397c8711608adac0e9"), looks := true }, kinds := [], alts := [], laidByText := true, laidKinds := [.widerDeep], laidTests := true, laidLooks := .later }
def BoundaryScriptsCardSaid : Prop := Claim7.holds Tryz.pinned (.plain (OpenSpec.ofChange boundaryScriptsSpec)) boundaryScriptsCard

/-- THE SECOND FORM's CARD OF 'semispacelaw19.BoundaryCalls'. -/
def boundaryCallsUptoCard : Claim7 := { stood := { row := boundaryCallsUptoRow, standIns := [], harness := (true, "301b96c1b74b625e34e0d54dbcbeeb4b730b0dd1fe580c397c8711608adac0e9"), looks := true }, kinds := [], alts := [], laidByText := true, laidKinds := [.widerDeep], laidTests := true, laidLooks := .later }
def BoundaryCallsUptoCardSaid : Prop := Claim7.holds Tryz.pinned (.plain (OpenSpec.upto boundaryCallsSpec)) boundaryCallsUptoCard

/-- THE SECOND FORM's CARD OF 'semispacelaw19.BoundaryScripts'. -/
def boundaryScriptsUptoCard : Claim7 := { stood := { row := boundaryScriptsUptoRow, standIns := [], harness := (true, "301b96c1b74b625e34e0d54dbcbeeb4b730b0dd1fe580c397c8711608adac0e9"), looks := true }, kinds := [], alts := [], laidByText := true, laidKinds := [.widerDeep], laidTests := true, laidLooks := .later }
def BoundaryScriptsUptoCardSaid : Prop := Claim7.holds Tryz.pinned (.plain (OpenSpec.upto boundaryScriptsSpec)) boundaryScriptsUptoCard
end Rows
end Go.Proofs.YtgbmffljpneflaaGreatDoor
