/-
  NARROWER THAN 'FOR EVERY INPUT', by the rows' own cells (each row's printed sentence says how): RulesVerdicts: laid · RulesFailed: laid · RulesValid: laid · RulesExtents: laid.
  DERIVED. THE GIVEN ROWS OF THIS SEAT. 4 by the template 'for every input the law returns true; each argument reads behind the call as it read before'; 0 by the template 'total and deterministic' (their statements: YtgdnaekdnmegbaaGreatDoorTotals.lean).
  GIVEN WITH THE SEED: the statements are not yours to turn. If you find one false, say at which input.
  Laid BY PROGRAM, IN A SANDBOX (cutbox-rows.mjs): the forced cells as the released guide's own fill.sh prints them over the translation 2d4819a3f3391a2e… (all of the seat's roots in one cut). By AI agents, Wed Nov 11 2026. No macro, syntax, notation, axiom, sorry.
-/
import Derived.Test.YtgdnaekdnmegbaaGreatDoorChecked
import GoSem.Claim
import GoSem.ClaimJoined
import GoSem.ClaimMapViews
import Derived.JoinedTies
import Derived.KernelRfl
namespace Go.Proofs.YtgdnaekdnmegbaaGreatDoor
/- THE CELL 'sum', in the pinned program and in every row, IS THE sha256 OF THE DUMP (.gsa) THAT YtgdnaekdnmegbaaGreatDoorProg.lean LOADS. Nothing in Lean hashes anything: it is a label: what it is worth is what the hold of that sum in a sandbox is worth. -/
noncomputable def Tryz.pinned : Pinned := { name := "ytgdnaekdnmegbaagreatdoor", sum := "2d4819a3f3391a2e3c7c593b4ec572902ac7036df729274276602d2da82f1b85", checked := Tryz.checked }
namespace Rows
def none {H : Type} : Left H := { results := [], args := [] }

/- WHAT THE LISTED PACKAGE-LEVEL VARIABLES READ AS WHEN THE CALL BEGINS. Each datum BY PROGRAM (the guide's laid-datum.mjs) off the statement by which the dump's own 'gosem.cut.vars' lays the variable. In a bare row this is a premise. The card (YtgdnaekdnmegbaaGreatDoorCards.lean) ties it to the program's text. -/
def laid_semispace_handle_widths {H : Type} : DataW H := .agg [.lit (.int .i64 2), .lit (.int .i64 16), .lit (.int .i64 32)]

/-- 'semispacelaw20.RulesVerdicts': WHATEVER THE INPUT: true; the input reads as it did. -/
def rulesVerdictsSpec : ChangeSpec := { name := "rulesVerdicts", fn := fun _ => fun
  | [d1, d2, d3, d4, d5, d6, d7, d8] => { results := [.lit (.bool true)], args := [d1, d2, d3, d4, d5, d6, d7, d8] }
  | _ => none }
def rulesVerdictsRow : OpenClaim := { program := "ytgdnaekdnmegbaagreatdoor", sum := "2d4819a3f3391a2e3c7c593b4ec572902ac7036df729274276602d2da82f1b85", func := "semispace/semispacelaw20.RulesVerdicts", spec := "rulesVerdicts", unfollowed := true, recurses := true, named := ["semispace/handle.widths"], apart := false, laid := [("semispace/handle.widths", laid_semispace_handle_widths)] }
def RulesVerdictsSaid : Prop := rulesVerdictsRow.holds Tryz.pinned (OpenSpec.ofChange rulesVerdictsSpec)

/-- ITS FALSE NEIGHBOUR: 'it returns false'. Refute it at one input. -/
def rulesVerdictsWrong : ChangeSpec := { name := "rulesVerdicts", fn := fun _ => fun
  | [d1, d2, d3, d4, d5, d6, d7, d8] => { results := [.lit (.bool false)], args := [d1, d2, d3, d4, d5, d6, d7, d8] }
  | _ => none }
def RulesVerdictsWrongFalsely : Prop := rulesVerdictsRow.holds Tryz.pinned (OpenSpec.ofChange rulesVerdictsWrong)

/-- 'semispacelaw20.RulesFailed': WHATEVER THE INPUT: true; the input reads as it did. -/
def rulesFailedSpec : ChangeSpec := { name := "rulesFailed", fn := fun _ => fun
  | [d1, d2] => { results := [.lit (.bool true)], args := [d1, d2] }
  | _ => none }
def rulesFailedRow : OpenClaim := { program := "ytgdnaekdnmegbaagreatdoor", sum := "2d4819a3f3391a2e3c7c593b4ec572902ac7036df729274276602d2da82f1b85", func := "semispace/semispacelaw20.RulesFailed", spec := "rulesFailed", unfollowed := true, recurses := true, named := ["semispace/handle.widths"], apart := false, laid := [("semispace/handle.widths", laid_semispace_handle_widths)] }
def RulesFailedSaid : Prop := rulesFailedRow.holds Tryz.pinned (OpenSpec.ofChange rulesFailedSpec)

/-- ITS FALSE NEIGHBOUR: 'it returns false'. Refute it at one input. -/
def rulesFailedWrong : ChangeSpec := { name := "rulesFailed", fn := fun _ => fun
  | [d1, d2] => { results := [.lit (.bool false)], args := [d1, d2] }
  | _ => none }
def RulesFailedWrongFalsely : Prop := rulesFailedRow.holds Tryz.pinned (OpenSpec.ofChange rulesFailedWrong)

/-- 'semispacelaw20.RulesValid': WHATEVER THE INPUT: true; the input reads as it did. -/
def rulesValidSpec : ChangeSpec := { name := "rulesValid", fn := fun _ => fun
  | [d1, d2, d3, d4] => { results := [.lit (.bool true)], args := [d1, d2, d3, d4] }
  | _ => none }
def rulesValidRow : OpenClaim := { program := "ytgdnaekdnmegbaagreatdoor", sum := "2d4819a3f3391a2e3c7c593b4ec572902ac7036df729274276602d2da82f1b85", func := "semispace/semispacelaw20.RulesValid", spec := "rulesValid", unfollowed := true, recurses := true, named := ["semispace/handle.widths"], apart := false, laid := [("semispace/handle.widths", laid_semispace_handle_widths)] }
def RulesValidSaid : Prop := rulesValidRow.holds Tryz.pinned (OpenSpec.ofChange rulesValidSpec)

/-- ITS FALSE NEIGHBOUR: 'it returns false'. Refute it at one input. -/
def rulesValidWrong : ChangeSpec := { name := "rulesValid", fn := fun _ => fun
  | [d1, d2, d3, d4] => { results := [.lit (.bool false)], args := [d1, d2, d3, d4] }
  | _ => none }
def RulesValidWrongFalsely : Prop := rulesValidRow.holds Tryz.pinned (OpenSpec.ofChange rulesValidWrong)

/-- 'semispacelaw20.RulesExtents': WHATEVER THE INPUT: true; the input reads as it did. -/
def rulesExtentsSpec : ChangeSpec := { name := "rulesExtents", fn := fun _ => fun
  | [d1, d2, d3, d4] => { results := [.lit (.bool true)], args := [d1, d2, d3, d4] }
  | _ => none }
def rulesExtentsRow : OpenClaim := { program := "ytgdnaekdnmegbaagreatdoor", sum := "2d4819a3f3391a2e3c7c593b4ec572902ac7036df729274276602d2da82f1b85", func := "semispace/semispacelaw20.RulesExtents", spec := "rulesExtents", unfollowed := true, recurses := true, named := ["semispace/handle.widths"], apart := false, laid := [("semispace/handle.widths", laid_semispace_handle_widths)] }
def RulesExtentsSaid : Prop := rulesExtentsRow.holds Tryz.pinned (OpenSpec.ofChange rulesExtentsSpec)

/-- ITS FALSE NEIGHBOUR: 'it returns false'. Refute it at one input. -/
def rulesExtentsWrong : ChangeSpec := { name := "rulesExtents", fn := fun _ => fun
  | [d1, d2, d3, d4] => { results := [.lit (.bool false)], args := [d1, d2, d3, d4] }
  | _ => none }
def RulesExtentsWrongFalsely : Prop := rulesExtentsRow.holds Tryz.pinned (OpenSpec.ofChange rulesExtentsWrong)

/- THE SECOND FORM. 'bulk': how many values and letters a reading holds, each counted each time it is reached (what is shared counts as often as it is met; a slice's spare places count too). A statement '..UptoSaid' is the law's where the arguments, and the package variables that the reading takes, are together of bulk at most 1048576: NARROWER than '..Said'. Prove '..Said' where nothing that the law and all that it calls make is longer than what came in: it says more and counts as full. Else prove '..UptoSaid'. A law counts once. -/
mutual
def uptoBulk {H : Type} : DataW H → Nat
  | .lit (.string bytes) => bytes.length + 1
  | .lit _ => 1
  | .nil => 1
  | .ptr d => uptoBulk d + 1
  | .slice elems spare => uptoBulkAll elems + uptoBulkAll spare + 1
  | .agg parts => uptoBulkAll parts + 1
  | .iface _ d => uptoBulk d + 1
  | .map entries => uptoBulkEntries entries + 1
  | .held _ => 1
def uptoBulkAll {H : Type} : List (DataW H) → Nat
  | [] => 0
  | d :: r => uptoBulk d + uptoBulkAll r
def uptoBulkEntries {H : Type} : List (Lit × DataW H) → Nat
  | [] => 0
  | x :: r => uptoBulkEntry x + uptoBulkEntries r
def uptoBulkEntry {H : Type} : Lit × DataW H → Nat
  | (.string bytes, d) => bytes.length + uptoBulk d + 1
  | (_, d) => uptoBulk d + 1
 end
def uptoSmall : (H : Type) → List (DataW H) → Bool := fun _ ds => decide (uptoBulkAll ds ≤ 1048576)
def OpenSpec.upto (s : _root_.Go.ChangeSpec) : _root_.Go.OpenSpec := { _root_.Go.OpenSpec.ofChange s with cond := some uptoSmall }

/-- 'semispacelaw20.RulesVerdicts', WHERE WHAT IT READS IS OF BULK AT MOST 1048576: true; the input reads as it did. -/
def rulesVerdictsUptoRow : OpenClaim := { program := "ytgdnaekdnmegbaagreatdoor", sum := "2d4819a3f3391a2e3c7c593b4ec572902ac7036df729274276602d2da82f1b85", func := "semispace/semispacelaw20.RulesVerdicts", spec := "rulesVerdicts", unfollowed := true, recurses := true, named := ["semispace/handle.widths"], apart := false, laid := [("semispace/handle.widths", laid_semispace_handle_widths)], narrowed := true }
def RulesVerdictsUptoSaid : Prop := rulesVerdictsUptoRow.holds Tryz.pinned (OpenSpec.upto rulesVerdictsSpec)

/-- 'semispacelaw20.RulesFailed', WHERE WHAT IT READS IS OF BULK AT MOST 1048576: true; the input reads as it did. -/
def rulesFailedUptoRow : OpenClaim := { program := "ytgdnaekdnmegbaagreatdoor", sum := "2d4819a3f3391a2e3c7c593b4ec572902ac7036df729274276602d2da82f1b85", func := "semispace/semispacelaw20.RulesFailed", spec := "rulesFailed", unfollowed := true, recurses := true, named := ["semispace/handle.widths"], apart := false, laid := [("semispace/handle.widths", laid_semispace_handle_widths)], narrowed := true }
def RulesFailedUptoSaid : Prop := rulesFailedUptoRow.holds Tryz.pinned (OpenSpec.upto rulesFailedSpec)

/-- 'semispacelaw20.RulesValid', WHERE WHAT IT READS IS OF BULK AT MOST 1048576: true; the input reads as it did. -/
def rulesValidUptoRow : OpenClaim := { program := "ytgdnaekdnmegbaagreatdoor", sum := "2d4819a3f3391a2e3c7c593b4ec572902ac7036df729274276602d2da82f1b85", func := "semispace/semispacelaw20.RulesValid", spec := "rulesValid", unfollowed := true, recurses := true, named := ["semispace/handle.widths"], apart := false, laid := [("semispace/handle.widths", laid_semispace_handle_widths)], narrowed := true }
def RulesValidUptoSaid : Prop := rulesValidUptoRow.holds Tryz.pinned (OpenSpec.upto rulesValidSpec)

/-- 'semispacelaw20.RulesExtents', WHERE WHAT IT READS IS OF BULK AT MOST 1048576: true; the input reads as it did. -/
def rulesExtentsUptoRow : OpenClaim := { program := "ytgdnaekdnmegbaagreatdoor", sum := "2d4819a3f3391a2e3c7c593b4ec572902ac7036df729274276602d2da82f1b85", func := "semispace/semispacelaw20.RulesExtents", spec := "rulesExtents", unfollowed := true, recurses := true, named := ["semispace/handle.widths"], apart := false, laid := [("semispace/handle.widths", laid_semispace_handle_widths)], narrowed := true }
def RulesExtentsUptoSaid : Prop := rulesExtentsUptoRow.holds Tryz.pinned (OpenSpec.upto rulesExtentsSpec)

end Rows
end Go.Proofs.YtgdnaekdnmegbaaGreatDoor
