/-
  NARROWER THAN 'FOR EVERY INPUT', by the rows' own cells (each row's printed sentence says how): BoundaryValid: laid · BoundaryFields: laid · BoundaryScopes: laid · BoundaryCritical: laid.
  DERIVED. THE GIVEN ROWS OF THIS SEAT. 4 by the template 'for every input the law returns true; each argument reads behind the call as it read before'; 0 by the template 'total and deterministic' (their statements: YtlneiohchomcfaaGreatDoorTotals.lean).
  GIVEN WITH THE SEED: the statements are not yours to turn. If you find one false, say at which input.
  Laid BY PROGRAM, IN A SANDBOX (cutbox-rows.mjs): the forced cells as the released guide's own fill.sh prints them over the translation 762592255a9fd807… (all of the seat's roots in one cut). By AI agents, Wed Nov 11 2026. No macro, syntax, notation, axiom, sorry.
-/
import Derived.Test.YtlneiohchomcfaaGreatDoorChecked
import GoSem.Claim
import GoSem.ClaimJoined
import GoSem.ClaimMapViews
import Derived.JoinedTies
import Derived.KernelRfl
namespace Go.Proofs.YtlneiohchomcfaaGreatDoor
/- THE CELL 'sum', in the pinned program and in every row, IS THE sha256 OF THE DUMP (.gsa) THAT YtlneiohchomcfaaGreatDoorProg.lean LOADS. Nothing in Lean hashes anything: it is a label: what it is worth is what the hold of that sum in a sandbox is worth. -/
noncomputable def Tryz.pinned : Pinned := { name := "ytlneiohchomcfaagreatdoor", sum := "762592255a9fd8077de4eeb02688c4270a9399a40414e83acb1db5631c9a5e3b", checked := Tryz.checked }
namespace Rows
def none {H : Type} : Left H := { results := [], args := [] }

/- WHAT THE LISTED PACKAGE-LEVEL VARIABLES READ AS WHEN THE CALL BEGINS. Each datum BY PROGRAM (the guide's laid-datum.mjs) off the statement by which the dump's own 'gosem.cut.vars' lays the variable. In a bare row this is a premise. The card (YtlneiohchomcfaaGreatDoorCards.lean) ties it to the program's text. -/
def laid_semispace_handle_widths {H : Type} : DataW H := .agg [.lit (.int .i64 2), .lit (.int .i64 16), .lit (.int .i64 32)]

/-- 'semispacelaw19.BoundaryValid': WHATEVER THE INPUT: true; the input reads as it did. -/
def boundaryValidSpec : ChangeSpec := { name := "boundaryValid", fn := fun _ => fun
  | [d1, d2] => { results := [.lit (.bool true)], args := [d1, d2] }
  | _ => none }
def boundaryValidRow : OpenClaim := { program := "ytlneiohchomcfaagreatdoor", sum := "762592255a9fd8077de4eeb02688c4270a9399a40414e83acb1db5631c9a5e3b", func := "semispace/semispacelaw19.BoundaryValid", spec := "boundaryValid", unfollowed := true, recurses := true, named := ["semispace/handle.widths"], apart := false, laid := [("semispace/handle.widths", laid_semispace_handle_widths)] }
def BoundaryValidSaid : Prop := boundaryValidRow.holds Tryz.pinned (OpenSpec.ofChange boundaryValidSpec)

/-- ITS FALSE NEIGHBOUR: 'it returns false'. Refute it at one input. -/
def boundaryValidWrong : ChangeSpec := { name := "boundaryValid", fn := fun _ => fun
  | [d1, d2] => { results := [.lit (.bool false)], args := [d1, d2] }
  | _ => none }
def BoundaryValidWrongFalsely : Prop := boundaryValidRow.holds Tryz.pinned (OpenSpec.ofChange boundaryValidWrong)

/-- 'semispacelaw19.BoundaryFields': WHATEVER THE INPUT: true; the input reads as it did. -/
def boundaryFieldsSpec : ChangeSpec := { name := "boundaryFields", fn := fun _ => fun
  | [d1, d2, d3] => { results := [.lit (.bool true)], args := [d1, d2, d3] }
  | _ => none }
def boundaryFieldsRow : OpenClaim := { program := "ytlneiohchomcfaagreatdoor", sum := "762592255a9fd8077de4eeb02688c4270a9399a40414e83acb1db5631c9a5e3b", func := "semispace/semispacelaw19.BoundaryFields", spec := "boundaryFields", unfollowed := true, recurses := true, named := ["semispace/handle.widths"], apart := false, laid := [("semispace/handle.widths", laid_semispace_handle_widths)] }
def BoundaryFieldsSaid : Prop := boundaryFieldsRow.holds Tryz.pinned (OpenSpec.ofChange boundaryFieldsSpec)

/-- ITS FALSE NEIGHBOUR: 'it returns false'. Refute it at one input. -/
def boundaryFieldsWrong : ChangeSpec := { name := "boundaryFields", fn := fun _ => fun
  | [d1, d2, d3] => { results := [.lit (.bool false)], args := [d1, d2, d3] }
  | _ => none }
def BoundaryFieldsWrongFalsely : Prop := boundaryFieldsRow.holds Tryz.pinned (OpenSpec.ofChange boundaryFieldsWrong)

/-- 'semispacelaw19.BoundaryScopes': WHATEVER THE INPUT: true; the input reads as it did. -/
def boundaryScopesSpec : ChangeSpec := { name := "boundaryScopes", fn := fun _ => fun
  | [d] => { results := [.lit (.bool true)], args := [d] }
  | _ => none }
def boundaryScopesRow : OpenClaim := { program := "ytlneiohchomcfaagreatdoor", sum := "762592255a9fd8077de4eeb02688c4270a9399a40414e83acb1db5631c9a5e3b", func := "semispace/semispacelaw19.BoundaryScopes", spec := "boundaryScopes", unfollowed := true, recurses := true, named := ["semispace/handle.widths"], apart := false, laid := [("semispace/handle.widths", laid_semispace_handle_widths)] }
def BoundaryScopesSaid : Prop := boundaryScopesRow.holds Tryz.pinned (OpenSpec.ofChange boundaryScopesSpec)

/-- ITS FALSE NEIGHBOUR: 'it returns false'. Refute it at one input. -/
def boundaryScopesWrong : ChangeSpec := { name := "boundaryScopes", fn := fun _ => fun
  | [d] => { results := [.lit (.bool false)], args := [d] }
  | _ => none }
def BoundaryScopesWrongFalsely : Prop := boundaryScopesRow.holds Tryz.pinned (OpenSpec.ofChange boundaryScopesWrong)

/-- 'semispacelaw19.BoundaryCritical': WHATEVER THE INPUT: true; the input reads as it did. -/
def boundaryCriticalSpec : ChangeSpec := { name := "boundaryCritical", fn := fun _ => fun
  | [d1, d2, d3] => { results := [.lit (.bool true)], args := [d1, d2, d3] }
  | _ => none }
def boundaryCriticalRow : OpenClaim := { program := "ytlneiohchomcfaagreatdoor", sum := "762592255a9fd8077de4eeb02688c4270a9399a40414e83acb1db5631c9a5e3b", func := "semispace/semispacelaw19.BoundaryCritical", spec := "boundaryCritical", unfollowed := true, recurses := true, named := ["semispace/handle.widths"], apart := false, laid := [("semispace/handle.widths", laid_semispace_handle_widths)] }
def BoundaryCriticalSaid : Prop := boundaryCriticalRow.holds Tryz.pinned (OpenSpec.ofChange boundaryCriticalSpec)

/-- ITS FALSE NEIGHBOUR: 'it returns false'. Refute it at one input. -/
def boundaryCriticalWrong : ChangeSpec := { name := "boundaryCritical", fn := fun _ => fun
  | [d1, d2, d3] => { results := [.lit (.bool false)], args := [d1, d2, d3] }
  | _ => none }
def BoundaryCriticalWrongFalsely : Prop := boundaryCriticalRow.holds Tryz.pinned (OpenSpec.ofChange boundaryCriticalWrong)

/- THE SECOND FORM. 'bulk': how many values and letters a reading holds, each counted each time it is reached (what is shared counts as often as it is met; a slice's spare places count too). A statement '..UptoSaid' is the law's where the arguments, and the package variables that the reading takes, are together of bulk at most 1048576: NARROWER than '..Said'. Prove '..Said' where nothing that the law and all that it calls make is longer than what came in: it says more and counts as full. Else prove '..UptoSaid'. A law counts once. -/
mutual
def uptoBulk {H : Type} : DataW H → Nat
  | .lit (.string bytes) => bytes.length + 1
  | .lit _ => 1
  | .nil => 1
  | .ptr d => uptoBulk d + 1
  | .slice elems spare => uptoBulkAll elems + uptoBulkAll spare + 1
  | .agg parts => uptoBulkAll parts + 1
  | .iface _ d => uptoBulk d + 1
  | .map entries => uptoBulkEntries entries + 1
  | .held _ => 1
def uptoBulkAll {H : Type} : List (DataW H) → Nat
  | [] => 0
  | d :: r => uptoBulk d + uptoBulkAll r
def uptoBulkEntries {H : Type} : List (Lit × DataW H) → Nat
  | [] => 0
  | x :: r => uptoBulkEntry x + uptoBulkEntries r
def uptoBulkEntry {H : Type} : Lit × DataW H → Nat
  | (.string bytes, d) => bytes.length + uptoBulk d + 1
  | (_, d) => uptoBulk d + 1
 end
def uptoSmall : (H : Type) → List (DataW H) → Bool := fun _ ds => decide (uptoBulkAll ds ≤ 1048576)
def OpenSpec.upto (s : _root_.Go.ChangeSpec) : _root_.Go.OpenSpec := { _root_.Go.OpenSpec.ofChange s with cond := some uptoSmall }

/-- 'semispacelaw19.BoundaryValid', WHERE WHAT IT READS IS OF BULK AT MOST 1048576: true; the input reads as it did. -/
def boundaryValidUptoRow : OpenClaim := { program := "ytlneiohchomcfaagreatdoor", sum := "762592255a9fd8077de4eeb02688c4270a9399a40414e83acb1db5631c9a5e3b", func := "semispace/semispacelaw19.BoundaryValid", spec := "boundaryValid", unfollowed := true, recurses := true, named := ["semispace/handle.widths"], apart := false, laid := [("semispace/handle.widths", laid_semispace_handle_widths)], narrowed := true }
def BoundaryValidUptoSaid : Prop := boundaryValidUptoRow.holds Tryz.pinned (OpenSpec.upto boundaryValidSpec)

/-- 'semispacelaw19.BoundaryFields', WHERE WHAT IT READS IS OF BULK AT MOST 1048576: true; the input reads as it did. -/
def boundaryFieldsUptoRow : OpenClaim := { program := "ytlneiohchomcfaagreatdoor", sum := "762592255a9fd8077de4eeb02688c4270a9399a40414e83acb1db5631c9a5e3b", func := "semispace/semispacelaw19.BoundaryFields", spec := "boundaryFields", unfollowed := true, recurses := true, named := ["semispace/handle.widths"], apart := false, laid := [("semispace/handle.widths", laid_semispace_handle_widths)], narrowed := true }
def BoundaryFieldsUptoSaid : Prop := boundaryFieldsUptoRow.holds Tryz.pinned (OpenSpec.upto boundaryFieldsSpec)

/-- 'semispacelaw19.BoundaryScopes', WHERE WHAT IT READS IS OF BULK AT MOST 1048576: true; the input reads as it did. -/
def boundaryScopesUptoRow : OpenClaim := { program := "ytlneiohchomcfaagreatdoor", sum := "762592255a9fd8077de4eeb02688c4270a9399a40414e83acb1db5631c9a5e3b", func := "semispace/semispacelaw19.BoundaryScopes", spec := "boundaryScopes", unfollowed := true, recurses := true, named := ["semispace/handle.widths"], apart := false, laid := [("semispace/handle.widths", laid_semispace_handle_widths)], narrowed := true }
def BoundaryScopesUptoSaid : Prop := boundaryScopesUptoRow.holds Tryz.pinned (OpenSpec.upto boundaryScopesSpec)

/-- 'semispacelaw19.BoundaryCritical', WHERE WHAT IT READS IS OF BULK AT MOST 1048576: true; the input reads as it did. -/
def boundaryCriticalUptoRow : OpenClaim := { program := "ytlneiohchomcfaagreatdoor", sum := "762592255a9fd8077de4eeb02688c4270a9399a40414e83acb1db5631c9a5e3b", func := "semispace/semispacelaw19.BoundaryCritical", spec := "boundaryCritical", unfollowed := true, recurses := true, named := ["semispace/handle.widths"], apart := false, laid := [("semispace/handle.widths", laid_semispace_handle_widths)], narrowed := true }
def BoundaryCriticalUptoSaid : Prop := boundaryCriticalUptoRow.holds Tryz.pinned (OpenSpec.upto boundaryCriticalSpec)

end Rows
end Go.Proofs.YtlneiohchomcfaaGreatDoor
