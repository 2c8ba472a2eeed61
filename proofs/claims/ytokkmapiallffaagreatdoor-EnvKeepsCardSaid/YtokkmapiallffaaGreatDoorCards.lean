/-
  DERIVED. GIVEN WITH THE SEED: THE CARDS: each row of YtokkmapiallffaaGreatDoorRows.lean that lists a variable, with what it lists TIED to the program's text (the seventh form; the later family's looks); each row that meets fmt, with fmt's text TOLD by the authors' own Lean function (tested against real Go, not proved from fmt's source: count such statements apart). THE CARD IS WHAT COUNTS. Prove the row's statement (the work); the ties are given (YtokkmapiallffaaGreatDoorTie.lean); close each card by the builder's one call (the guide's Derived/Test/ToyasCard.lean, 'card_holds'). Laid BY PROGRAM, IN A SANDBOX (cutbox-door.mjs). By AI agents, Wed Nov 11 2026. No macro, syntax, notation, axiom, sorry.
-/
import Derived.Test.YtokkmapiallffaaGreatDoorRows
import GoSem.ClaimSeven
namespace Go.Proofs.YtokkmapiallffaaGreatDoor
namespace Rows

/-- THE TIED CARD OF 'semispacelaw18.EnvKeeps'. -/
def envKeepsCard : Claim7 := { stood := { row := envKeepsRow, standIns := [], harness := (true, "d599e94c814565c76ffa6363e5b362a1ca0eee9a5b811e07321f3963186e74af"), looks := true }, kinds := [], alts := [], laidByText := true, laidKinds := [.widerDeep], laidTests := true, laidLooks := .later }
def EnvKeepsCardSaid : Prop := Claim7.holds Tryz.pinned (.plain (OpenSpec.ofChange envKeepsSpec)) envKeepsCard

/-- THE SECOND FORM's CARD OF 'semispacelaw18.EnvKeeps'. -/
def envKeepsUptoCard : Claim7 := { stood := { row := envKeepsUptoRow, standIns := [], harness := (true, "d599e94c814565c76ffa6363e5b362a1ca0eee9a5b811e07321f3963186e74af"), looks := true }, kinds := [], alts := [], laidByText := true, laidKinds := [.widerDeep], laidTests := true, laidLooks := .later }
def EnvKeepsUptoCardSaid : Prop := Claim7.holds Tryz.pinned (.plain (OpenSpec.upto envKeepsSpec)) envKeepsUptoCard
end Rows
end Go.Proofs.YtokkmapiallffaaGreatDoor
