/-
  DERIVED. GIVEN WITH THE SEED: THE CARDS: each row of YtgdnaekdnmegbaaGreatDoorRows.lean that lists a variable, with what it lists TIED to the program's text (the seventh form; the later family's looks); each row that meets fmt, with fmt's text TOLD by the authors' own Lean function (tested against real Go, not proved from fmt's source: count such statements apart). THE CARD IS WHAT COUNTS. Prove the row's statement (the work); the ties are given (YtgdnaekdnmegbaaGreatDoorTie.lean); close each card by the builder's one call (the guide's Derived/Test/ToyasCard.lean, 'card_holds'). Laid BY PROGRAM, IN A SANDBOX (cutbox-door.mjs). By AI agents, Wed Nov 11 2026. No macro, syntax, notation, axiom, sorry.
-/
import Derived.Test.YtgdnaekdnmegbaaGreatDoorRows
import GoSem.ClaimSeven
namespace Go.Proofs.YtgdnaekdnmegbaaGreatDoor
namespace Rows

/-- THE TIED CARD OF 'semispacelaw20.RulesVerdicts'. -/
def rulesVerdictsCard : Claim7 := { stood := { row := rulesVerdictsRow, standIns := [], harness := (true, "941b1ce1bdf065880891951394e201aa78898568b78f07bfe922fbd69de02c1d"), looks := false }, kinds := [], alts := [], laidByText := true, laidKinds := [.widerDeep], laidTests := true, laidLooks := .later }
def RulesVerdictsCardSaid : Prop := Claim7.holds Tryz.pinned (.plain (OpenSpec.ofChange rulesVerdictsSpec)) rulesVerdictsCard

/-- THE TIED CARD OF 'semispacelaw20.RulesFailed'. -/
def rulesFailedCard : Claim7 := { stood := { row := rulesFailedRow, standIns := [], harness := (true, "941b1ce1bdf065880891951394e201aa78898568b78f07bfe922fbd69de02c1d"), looks := false }, kinds := [], alts := [], laidByText := true, laidKinds := [.widerDeep], laidTests := true, laidLooks := .later }
def RulesFailedCardSaid : Prop := Claim7.holds Tryz.pinned (.plain (OpenSpec.ofChange rulesFailedSpec)) rulesFailedCard

/-- THE TIED CARD OF 'semispacelaw20.RulesValid'. -/
def rulesValidCard : Claim7 := { stood := { row := rulesValidRow, standIns := [], harness := (true, "941b1ce1bdf065880891951394e201aa78898568b78f07bfe922fbd69de02c1d"), looks := false }, kinds := [], alts := [], laidByText := true, laidKinds := [.widerDeep], laidTests := true, laidLooks := .later }
def RulesValidCardSaid : Prop := Claim7.holds Tryz.pinned (.plain (OpenSpec.ofChange rulesValidSpec)) rulesValidCard

/-- THE TIED CARD OF 'semispacelaw20.RulesExtents'. -/
def rulesExtentsCard : Claim7 := { stood := { row := rulesExtentsRow, standIns := [], harness := (true, "941b1ce1bdf065880891951394e201aa78898568b78f07bfe922fbd69de02c1d"), looks := false }, kinds := [], alts := [], laidByText := true, laidKinds := [.widerDeep], laidTests := true, laidLooks := .later }
def RulesExtentsCardSaid : Prop := Claim7.holds Tryz.pinned (.plain (OpenSpec.ofChange rulesExtentsSpec)) rulesExtentsCard

/-- THE SECOND FORM's CARD OF 'semispacelaw20.RulesVerdicts'. -/
def rulesVerdictsUptoCard : Claim7 := { stood := { row := rulesVerdictsUptoRow, standIns := [], harness := (true, "941b1ce1bdf065880891951394e201aa78898568b78f07bfe922fbd69de02c1d"), looks := false }, kinds := [], alts := [], laidByText := true, laidKinds := [.widerDeep], laidTests := true, laidLooks := .later }
def RulesVerdictsUptoCardSaid : Prop := Claim7.holds Tryz.pinned (.plain (OpenSpec.upto rulesVerdictsSpec)) rulesVerdictsUptoCard

/-- THE SECOND FORM's CARD OF 'semispacelaw20.RulesFailed'. -/
def rulesFailedUptoCard : Claim7 := { stood := { row := rulesFailedUptoRow, standIns := [], harness := (true, "941b1ce1bdf065880891951394e201aa78898568b78f07bfe922fbd69de02c1d"), looks := false }, kinds := [], alts := [], laidByText := true, laidKinds := [.widerDeep], laidTests := true, laidLooks := .later }
def RulesFailedUptoCardSaid : Prop := Claim7.holds Tryz.pinned (.plain (OpenSpec.upto rulesFailedSpec)) rulesFailedUptoCard

/-- THE SECOND FORM's CARD OF 'semispacelaw20.RulesValid'. -/
def rulesValidUptoCard : Claim7 := { stood := { row := rulesValidUptoRow, standIns := [], harness := (true, "941b1ce1bdf065880891951394e201aa78898568b78f07bfe922fbd69de02c1d"), looks := false }, kinds := [], alts := [], laidByText := true, laidKinds := [.widerDeep], laidTests := true, laidLooks := .later }
def RulesValidUptoCardSaid : Prop := Claim7.holds Tryz.pinned (.plain (OpenSpec.upto rulesValidSpec)) rulesValidUptoCard

/-- THE SECOND FORM's CARD OF 'semispacelaw20.RulesExtents'. -/
def rulesExtentsUptoCard : Claim7 := { stood := { row := rulesExtentsUptoRow, standIns := [], harness := (true, "941b1ce1bdf065880891951394e201aa78898568b78f07bfe922fbd69de02c1d"), looks := false }, kinds := [], alts := [], laidByText := true, laidKinds := [.widerDeep], laidTests := true, laidLooks := .later }
def RulesExtentsUptoCardSaid : Prop := Claim7.holds Tryz.pinned (.plain (OpenSpec.upto rulesExtentsSpec)) rulesExtentsUptoCard
end Rows
end Go.Proofs.YtgdnaekdnmegbaaGreatDoor
