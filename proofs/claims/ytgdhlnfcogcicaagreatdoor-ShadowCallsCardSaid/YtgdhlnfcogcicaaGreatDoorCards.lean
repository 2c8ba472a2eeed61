/-
  DERIVED. GIVEN WITH THE SEED: THE CARDS: each row of YtgdhlnfcogcicaaGreatDoorRows.lean that lists a variable, with what it lists TIED to the program's text (the seventh form; the later family's looks); each row that meets fmt, with fmt's text TOLD by the authors' own Lean function (tested against real Go, not proved from fmt's source: count such statements apart). THE CARD IS WHAT COUNTS. Prove the row's statement (the work); the ties are given (YtgdhlnfcogcicaaGreatDoorTie.lean); close each card by the builder's one call (the guide's Derived/Test/ToyasCard.lean, 'card_holds'). Laid BY PROGRAM, IN A SANDBOX (cutbox-door.mjs). By AI agents, Wed Nov 11 2026. No macro, syntax, notation, axiom, sorry.
-/
import Derived.Test.YtgdhlnfcogcicaaGreatDoorRows
import GoSem.ClaimSeven
namespace Go.Proofs.YtgdhlnfcogcicaaGreatDoor
namespace Rows

/-- THE TIED CARD OF 'semispacelaw21.ShadowCalls'. -/
def shadowCallsCard : Claim7 := { stood := { row := shadowCallsRow, standIns := [], harness := (true, "d494c82dba7faf0e173ac35a2132fe183a709edb8a7a1df3c2172e4dd210571f"), looks := false }, kinds := [], alts := [], laidByText := true, laidKinds := [.widerDeep], laidTests := true, laidLooks := .later }
def ShadowCallsCardSaid : Prop := Claim7.holds Tryz.pinned (.plain (OpenSpec.ofChange shadowCallsSpec)) shadowCallsCard

/-- THE TIED CARD OF 'semispacelaw21.ShadowStill'. -/
def shadowStillCard : Claim7 := { stood := { row := shadowStillRow, standIns := [], harness := (true, "d494c82dba7faf0e173ac35a2132fe183a709edb8a7a1df3c2172e4dd210571f"), looks := false }, kinds := [], alts := [], laidByText := true, laidKinds := [.widerDeep], laidTests := true, laidLooks := .later }
def ShadowStillCardSaid : Prop := Claim7.holds Tryz.pinned (.plain (OpenSpec.ofChange shadowStillSpec)) shadowStillCard

/-- THE TIED CARD OF 'semispacelaw21.ShadowReaches'. -/
def shadowReachesCard : Claim7 := { stood := { row := shadowReachesRow, standIns := [], harness := (true, "d494c82dba7faf0e173ac35a2132fe183a709edb8a7a1df3c2172e4dd210571f"), looks := false }, kinds := [], alts := [], laidByText := true, laidKinds := [.widerDeep], laidTests := true, laidLooks := .later }
def ShadowReachesCardSaid : Prop := Claim7.holds Tryz.pinned (.plain (OpenSpec.ofChange shadowReachesSpec)) shadowReachesCard

/-- THE TIED CARD OF 'semispacelaw21.ShadowWitness'. -/
def shadowWitnessCard : Claim7 := { stood := { row := shadowWitnessRow, standIns := [], harness := (true, "d494c82dba7faf0e173ac35a2132fe183a709edb8a7a1df3c2172e4dd210571f"), looks := false }, kinds := [], alts := [], laidByText := true, laidKinds := [.widerDeep], laidTests := true, laidLooks := .later }
def ShadowWitnessCardSaid : Prop := Claim7.holds Tryz.pinned (.plain (OpenSpec.ofChange shadowWitnessSpec)) shadowWitnessCard

/-- THE TIED CARD OF 'semispacelaw21.ShadowAccesses'. -/
def shadowAccessesCard : Claim7 := { stood := { row := shadowAccessesRow, standIns := [], harness := (true, "d494c82dba7faf0e173ac35a2132fe183a709edb8a7a1df3c2172e4dd210571f"), looks := false }, kinds := [], alts := [], laidByText := true, laidKinds := [.widerDeep], laidTests := true, laidLooks := .later }
def ShadowAccessesCardSaid : Prop := Claim7.holds Tryz.pinned (.plain (OpenSpec.ofChange shadowAccessesSpec)) shadowAccessesCard

/-- THE SECOND FORM's CARD OF 'semispacelaw21.ShadowCalls'. -/
def shadowCallsUptoCard : Claim7 := { stood := { row := shadowCallsUptoRow, standIns := [], harness := (true, "d494c82dba7faf0e173ac35a2132fe183a709edb8a7a1df3c2172e4dd210571f"), looks := false }, kinds := [], alts := [], laidByText := true, laidKinds := [.widerDeep], laidTests := true, laidLooks := .later }
def ShadowCallsUptoCardSaid : Prop := Claim7.holds Tryz.pinned (.plain (OpenSpec.upto shadowCallsSpec)) shadowCallsUptoCard

/-- THE SECOND FORM's CARD OF 'semispacelaw21.ShadowStill'. -/
def shadowStillUptoCard : Claim7 := { stood := { row := shadowStillUptoRow, standIns := [], harness := (true, "d494c82dba7faf0e173ac35a2132fe183a709edb8a7a1df3c2172e4dd210571f"), looks := false }, kinds := [], alts := [], laidByText := true, laidKinds := [.widerDeep], laidTests := true, laidLooks := .later }
def ShadowStillUptoCardSaid : Prop := Claim7.holds Tryz.pinned (.plain (OpenSpec.upto shadowStillSpec)) shadowStillUptoCard

/-- THE SECOND FORM's CARD OF 'semispacelaw21.ShadowReaches'. -/
def shadowReachesUptoCard : Claim7 := { stood := { row := shadowReachesUptoRow, standIns := [], harness := (true, "d494c82dba7faf0e173ac35a2132fe183a709edb8a7a1df3c2172e4dd210571f"), looks := false }, kinds := [], alts := [], laidByText := true, laidKinds := [.widerDeep], laidTests := true, laidLooks := .later }
def ShadowReachesUptoCardSaid : Prop := Claim7.holds Tryz.pinned (.plain (OpenSpec.upto shadowReachesSpec)) shadowReachesUptoCard

/-- THE SECOND FORM's CARD OF 'semispacelaw21.ShadowWitness'. -/
def shadowWitnessUptoCard : Claim7 := { stood := { row := shadowWitnessUptoRow, standIns := [], harness := (true, "d494c82dba7faf0e173ac35a2132fe183a709edb8a7a1df3c2172e4dd210571f"), looks := false }, kinds := [], alts := [], laidByText := true, laidKinds := [.widerDeep], laidTests := true, laidLooks := .later }
def ShadowWitnessUptoCardSaid : Prop := Claim7.holds Tryz.pinned (.plain (OpenSpec.upto shadowWitnessSpec)) shadowWitnessUptoCard

/-- THE SECOND FORM's CARD OF 'semispacelaw21.ShadowAccesses'. -/
def shadowAccessesUptoCard : Claim7 := { stood := { row := shadowAccessesUptoRow, standIns := [], harness := (true, "d494c82dba7faf0e173ac35a2132fe183a709edb8a7a1df3c2172e4dd210571f"), looks := false }, kinds := [], alts := [], laidByText := true, laidKinds := [.widerDeep], laidTests := true, laidLooks := .later }
def ShadowAccessesUptoCardSaid : Prop := Claim7.holds Tryz.pinned (.plain (OpenSpec.upto shadowAccessesSpec)) shadowAccessesUptoCard
end Rows
end Go.Proofs.YtgdhlnfcogcicaaGreatDoor
