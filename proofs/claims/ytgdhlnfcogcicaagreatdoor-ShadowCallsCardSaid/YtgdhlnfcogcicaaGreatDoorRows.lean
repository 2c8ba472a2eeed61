/-
  NARROWER THAN 'FOR EVERY INPUT', by the rows' own cells (each row's printed sentence says how): ShadowCalls: laid · ShadowStill: laid · ShadowReaches: laid · ShadowWitness: laid · ShadowAccesses: laid.
  DERIVED. THE GIVEN ROWS OF THIS SEAT. 5 by the template 'for every input the law returns true; each argument reads behind the call as it read before'; 0 by the template 'total and deterministic' (their statements: YtgdhlnfcogcicaaGreatDoorTotals.lean).
  GIVEN WITH THE SEED: the statements are not yours to turn. If you find one false, say at which input.
  Laid BY PROGRAM, IN A SANDBOX (cutbox-rows.mjs): the forced cells as the released guide's own fill.sh prints them over the translation 7e09b1ca47306051… (all of the seat's roots in one cut). By AI agents, Wed Nov 11 2026. No macro, syntax, notation, axiom, sorry.
-/
import Derived.Test.YtgdhlnfcogcicaaGreatDoorChecked
import GoSem.Claim
import GoSem.ClaimJoined
import GoSem.ClaimMapViews
import Derived.JoinedTies
import Derived.KernelRfl
namespace Go.Proofs.YtgdhlnfcogcicaaGreatDoor
/- THE CELL 'sum', in the pinned program and in every row, IS THE sha256 OF THE DUMP (.gsa) THAT YtgdhlnfcogcicaaGreatDoorProg.lean LOADS. Nothing in Lean hashes anything: it is a label: what it is worth is what the hold of that sum in a sandbox is worth. -/
noncomputable def Tryz.pinned : Pinned := { name := "ytgdhlnfcogcicaagreatdoor", sum := "7e09b1ca47306051741b4495b75f5a6d5471858ce0f66852af01c243819a28ea", checked := Tryz.checked }
namespace Rows
def none {H : Type} : Left H := { results := [], args := [] }

/- WHAT THE LISTED PACKAGE-LEVEL VARIABLES READ AS WHEN THE CALL BEGINS. Each datum BY PROGRAM (the guide's laid-datum.mjs) off the statement by which the dump's own 'gosem.cut.vars' lays the variable. In a bare row this is a premise. The card (YtgdhlnfcogcicaaGreatDoorCards.lean) ties it to the program's text. -/
def laid_semispace_handle_widths {H : Type} : DataW H := .agg [.lit (.int .i64 2), .lit (.int .i64 16), .lit (.int .i64 32)]

/-- 'semispacelaw21.ShadowCalls': WHATEVER THE INPUT: true; the input reads as it did. -/
def shadowCallsSpec : ChangeSpec := { name := "shadowCalls", fn := fun _ => fun
  | [d1, d2, d3, d4, d5, d6, d7, d8] => { results := [.lit (.bool true)], args := [d1, d2, d3, d4, d5, d6, d7, d8] }
  | _ => none }
def shadowCallsRow : OpenClaim := { program := "ytgdhlnfcogcicaagreatdoor", sum := "7e09b1ca47306051741b4495b75f5a6d5471858ce0f66852af01c243819a28ea", func := "semispace/semispacelaw21.ShadowCalls", spec := "shadowCalls", unfollowed := true, recurses := true, named := ["semispace/handle.widths"], apart := false, laid := [("semispace/handle.widths", laid_semispace_handle_widths)] }
def ShadowCallsSaid : Prop := shadowCallsRow.holds Tryz.pinned (OpenSpec.ofChange shadowCallsSpec)

/-- ITS FALSE NEIGHBOUR: 'it returns false'. Refute it at one input. -/
def shadowCallsWrong : ChangeSpec := { name := "shadowCalls", fn := fun _ => fun
  | [d1, d2, d3, d4, d5, d6, d7, d8] => { results := [.lit (.bool false)], args := [d1, d2, d3, d4, d5, d6, d7, d8] }
  | _ => none }
def ShadowCallsWrongFalsely : Prop := shadowCallsRow.holds Tryz.pinned (OpenSpec.ofChange shadowCallsWrong)

/-- 'semispacelaw21.ShadowStill': WHATEVER THE INPUT: true; the input reads as it did. -/
def shadowStillSpec : ChangeSpec := { name := "shadowStill", fn := fun _ => fun
  | [d1, d2] => { results := [.lit (.bool true)], args := [d1, d2] }
  | _ => none }
def shadowStillRow : OpenClaim := { program := "ytgdhlnfcogcicaagreatdoor", sum := "7e09b1ca47306051741b4495b75f5a6d5471858ce0f66852af01c243819a28ea", func := "semispace/semispacelaw21.ShadowStill", spec := "shadowStill", unfollowed := true, recurses := true, named := ["semispace/handle.widths"], apart := false, laid := [("semispace/handle.widths", laid_semispace_handle_widths)] }
def ShadowStillSaid : Prop := shadowStillRow.holds Tryz.pinned (OpenSpec.ofChange shadowStillSpec)

/-- ITS FALSE NEIGHBOUR: 'it returns false'. Refute it at one input. -/
def shadowStillWrong : ChangeSpec := { name := "shadowStill", fn := fun _ => fun
  | [d1, d2] => { results := [.lit (.bool false)], args := [d1, d2] }
  | _ => none }
def ShadowStillWrongFalsely : Prop := shadowStillRow.holds Tryz.pinned (OpenSpec.ofChange shadowStillWrong)

/-- 'semispacelaw21.ShadowReaches': WHATEVER THE INPUT: true; the input reads as it did. -/
def shadowReachesSpec : ChangeSpec := { name := "shadowReaches", fn := fun _ => fun
  | [d1, d2, d3, d4] => { results := [.lit (.bool true)], args := [d1, d2, d3, d4] }
  | _ => none }
def shadowReachesRow : OpenClaim := { program := "ytgdhlnfcogcicaagreatdoor", sum := "7e09b1ca47306051741b4495b75f5a6d5471858ce0f66852af01c243819a28ea", func := "semispace/semispacelaw21.ShadowReaches", spec := "shadowReaches", unfollowed := true, recurses := true, named := ["semispace/handle.widths"], apart := false, laid := [("semispace/handle.widths", laid_semispace_handle_widths)] }
def ShadowReachesSaid : Prop := shadowReachesRow.holds Tryz.pinned (OpenSpec.ofChange shadowReachesSpec)

/-- ITS FALSE NEIGHBOUR: 'it returns false'. Refute it at one input. -/
def shadowReachesWrong : ChangeSpec := { name := "shadowReaches", fn := fun _ => fun
  | [d1, d2, d3, d4] => { results := [.lit (.bool false)], args := [d1, d2, d3, d4] }
  | _ => none }
def ShadowReachesWrongFalsely : Prop := shadowReachesRow.holds Tryz.pinned (OpenSpec.ofChange shadowReachesWrong)

/-- 'semispacelaw21.ShadowWitness': WHATEVER THE INPUT: true; the input reads as it did. -/
def shadowWitnessSpec : ChangeSpec := { name := "shadowWitness", fn := fun _ => fun
  | [d1, d2, d3, d4, d5] => { results := [.lit (.bool true)], args := [d1, d2, d3, d4, d5] }
  | _ => none }
def shadowWitnessRow : OpenClaim := { program := "ytgdhlnfcogcicaagreatdoor", sum := "7e09b1ca47306051741b4495b75f5a6d5471858ce0f66852af01c243819a28ea", func := "semispace/semispacelaw21.ShadowWitness", spec := "shadowWitness", unfollowed := true, recurses := true, named := ["semispace/handle.widths"], apart := false, laid := [("semispace/handle.widths", laid_semispace_handle_widths)] }
def ShadowWitnessSaid : Prop := shadowWitnessRow.holds Tryz.pinned (OpenSpec.ofChange shadowWitnessSpec)

/-- ITS FALSE NEIGHBOUR: 'it returns false'. Refute it at one input. -/
def shadowWitnessWrong : ChangeSpec := { name := "shadowWitness", fn := fun _ => fun
  | [d1, d2, d3, d4, d5] => { results := [.lit (.bool false)], args := [d1, d2, d3, d4, d5] }
  | _ => none }
def ShadowWitnessWrongFalsely : Prop := shadowWitnessRow.holds Tryz.pinned (OpenSpec.ofChange shadowWitnessWrong)

/-- 'semispacelaw21.ShadowAccesses': WHATEVER THE INPUT: true; the input reads as it did. -/
def shadowAccessesSpec : ChangeSpec := { name := "shadowAccesses", fn := fun _ => fun
  | [d1, d2, d3, d4, d5] => { results := [.lit (.bool true)], args := [d1, d2, d3, d4, d5] }
  | _ => none }
def shadowAccessesRow : OpenClaim := { program := "ytgdhlnfcogcicaagreatdoor", sum := "7e09b1ca47306051741b4495b75f5a6d5471858ce0f66852af01c243819a28ea", func := "semispace/semispacelaw21.ShadowAccesses", spec := "shadowAccesses", unfollowed := true, recurses := true, named := ["semispace/handle.widths"], apart := false, laid := [("semispace/handle.widths", laid_semispace_handle_widths)] }
def ShadowAccessesSaid : Prop := shadowAccessesRow.holds Tryz.pinned (OpenSpec.ofChange shadowAccessesSpec)

/-- ITS FALSE NEIGHBOUR: 'it returns false'. Refute it at one input. -/
def shadowAccessesWrong : ChangeSpec := { name := "shadowAccesses", fn := fun _ => fun
  | [d1, d2, d3, d4, d5] => { results := [.lit (.bool false)], args := [d1, d2, d3, d4, d5] }
  | _ => none }
def ShadowAccessesWrongFalsely : Prop := shadowAccessesRow.holds Tryz.pinned (OpenSpec.ofChange shadowAccessesWrong)

/- THE SECOND FORM. 'bulk': how many values and letters a reading holds, each counted each time it is reached (what is shared counts as often as it is met; a slice's spare places count too). A statement '..UptoSaid' is the law's where the arguments, and the package variables that the reading takes, are together of bulk at most 1048576: NARROWER than '..Said'. Prove '..Said' where nothing that the law and all that it calls make is longer than what came in: it says more and counts as full. Else prove '..UptoSaid'. A law counts once. -/
mutual
def uptoBulk {H : Type} : DataW H → Nat
  | .lit (.string bytes) => bytes.length + 1
  | .lit _ => 1
  | .nil => 1
  | .ptr d => uptoBulk d + 1
  | .slice elems spare => uptoBulkAll elems + uptoBulkAll spare + 1
  | .agg parts => uptoBulkAll parts + 1
  | .iface _ d => uptoBulk d + 1
  | .map entries => uptoBulkEntries entries + 1
  | .held _ => 1
def uptoBulkAll {H : Type} : List (DataW H) → Nat
  | [] => 0
  | d :: r => uptoBulk d + uptoBulkAll r
def uptoBulkEntries {H : Type} : List (Lit × DataW H) → Nat
  | [] => 0
  | x :: r => uptoBulkEntry x + uptoBulkEntries r
def uptoBulkEntry {H : Type} : Lit × DataW H → Nat
  | (.string bytes, d) => bytes.length + uptoBulk d + 1
  | (_, d) => uptoBulk d + 1
 end
def uptoSmall : (H : Type) → List (DataW H) → Bool := fun _ ds => decide (uptoBulkAll ds ≤ 1048576)
def OpenSpec.upto (s : _root_.Go.ChangeSpec) : _root_.Go.OpenSpec := { _root_.Go.OpenSpec.ofChange s with cond := some uptoSmall }

/-- 'semispacelaw21.ShadowCalls', WHERE WHAT IT READS IS OF BULK AT MOST 1048576: true; the input reads as it did. -/
def shadowCallsUptoRow : OpenClaim := { program := "ytgdhlnfcogcicaagreatdoor", sum := "7e09b1ca47306051741b4495b75f5a6d5471858ce0f66852af01c243819a28ea", func := "semispace/semispacelaw21.ShadowCalls", spec := "shadowCalls", unfollowed := true, recurses := true, named := ["semispace/handle.widths"], apart := false, laid := [("semispace/handle.widths", laid_semispace_handle_widths)], narrowed := true }
def ShadowCallsUptoSaid : Prop := shadowCallsUptoRow.holds Tryz.pinned (OpenSpec.upto shadowCallsSpec)

/-- 'semispacelaw21.ShadowStill', WHERE WHAT IT READS IS OF BULK AT MOST 1048576: true; the input reads as it did. -/
def shadowStillUptoRow : OpenClaim := { program := "ytgdhlnfcogcicaagreatdoor", sum := "7e09b1ca47306051741b4495b75f5a6d5471858ce0f66852af01c243819a28ea", func := "semispace/semispacelaw21.ShadowStill", spec := "shadowStill", unfollowed := true, recurses := true, named := ["semispace/handle.widths"], apart := false, laid := [("semispace/handle.widths", laid_semispace_handle_widths)], narrowed := true }
def ShadowStillUptoSaid : Prop := shadowStillUptoRow.holds Tryz.pinned (OpenSpec.upto shadowStillSpec)

/-- 'semispacelaw21.ShadowReaches', WHERE WHAT IT READS IS OF BULK AT MOST 1048576: true; the input reads as it did. -/
def shadowReachesUptoRow : OpenClaim := { program := "ytgdhlnfcogcicaagreatdoor", sum := "7e09b1ca47306051741b4495b75f5a6d5471858ce0f66852af01c243819a28ea", func := "semispace/semispacelaw21.ShadowReaches", spec := "shadowReaches", unfollowed := true, recurses := true, named := ["semispace/handle.widths"], apart := false, laid := [("semispace/handle.widths", laid_semispace_handle_widths)], narrowed := true }
def ShadowReachesUptoSaid : Prop := shadowReachesUptoRow.holds Tryz.pinned (OpenSpec.upto shadowReachesSpec)

/-- 'semispacelaw21.ShadowWitness', WHERE WHAT IT READS IS OF BULK AT MOST 1048576: true; the input reads as it did. -/
def shadowWitnessUptoRow : OpenClaim := { program := "ytgdhlnfcogcicaagreatdoor", sum := "7e09b1ca47306051741b4495b75f5a6d5471858ce0f66852af01c243819a28ea", func := "semispace/semispacelaw21.ShadowWitness", spec := "shadowWitness", unfollowed := true, recurses := true, named := ["semispace/handle.widths"], apart := false, laid := [("semispace/handle.widths", laid_semispace_handle_widths)], narrowed := true }
def ShadowWitnessUptoSaid : Prop := shadowWitnessUptoRow.holds Tryz.pinned (OpenSpec.upto shadowWitnessSpec)

/-- 'semispacelaw21.ShadowAccesses', WHERE WHAT IT READS IS OF BULK AT MOST 1048576: true; the input reads as it did. -/
def shadowAccessesUptoRow : OpenClaim := { program := "ytgdhlnfcogcicaagreatdoor", sum := "7e09b1ca47306051741b4495b75f5a6d5471858ce0f66852af01c243819a28ea", func := "semispace/semispacelaw21.ShadowAccesses", spec := "shadowAccesses", unfollowed := true, recurses := true, named := ["semispace/handle.widths"], apart := false, laid := [("semispace/handle.widths", laid_semispace_handle_widths)], narrowed := true }
def ShadowAccessesUptoSaid : Prop := shadowAccessesUptoRow.holds Tryz.pinned (OpenSpec.upto shadowAccessesSpec)

end Rows
end Go.Proofs.YtgdhlnfcogcicaaGreatDoor
