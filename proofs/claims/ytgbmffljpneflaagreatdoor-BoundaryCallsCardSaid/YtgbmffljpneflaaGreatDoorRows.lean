/-
  NARROWER THAN 'FOR EVERY INPUT', by the rows' own cells (each row's printed sentence says how): BoundaryCalls: laid · BoundaryScripts: laid.
  DERIVED. THE GIVEN ROWS OF THIS SEAT. 2 by the template 'for every input the law returns true; each argument reads behind the call as it read before'; 0 by the template 'total and deterministic' (their statements: YtgbmffljpneflaaGreatDoorTotals.lean).
  GIVEN WITH THE SEED: the statements are not yours to turn. If you find one false, say at which input.
  Laid BY PROGRAM, IN A SANDBOX (cutbox-rows.mjs): the forced cells as the released guide's own fill.sh prints them over the translation 8ccfa3af88daaf21… (all of the seat's roots in one cut). By AI agents, Wed Nov 11 2026. No macro, syntax, notation, axiom, sorry.
-/
import Derived.Test.YtgbmffljpneflaaGreatDoorChecked
import GoSem.Claim
import GoSem.ClaimJoined
import GoSem.ClaimMapViews
import Derived.JoinedTies
import Derived.KernelRfl
namespace Go.Proofs.YtgbmffljpneflaaGreatDoor
/- THE CELL 'sum', in the pinned program and in every row, IS THE sha256 OF THE DUMP (.gsa) THAT YtgbmffljpneflaaGreatDoorProg.lean LOADS. Nothing in Lean hashes anything: it is a label: what it is worth is what the hold of that sum in a sandbox is worth. -/
noncomputable def Tryz.pinned : Pinned := { name := "ytgbmffljpneflaagreatdoor", sum := "8ccfa3af88daaf21cf4def95a685486b7f7e0b5f4de2c64aebf28fba6c1847e2", checked := Tryz.checked }
namespace Rows
def none {H : Type} : Left H := { results := [], args := [] }

/- WHAT THE LISTED PACKAGE-LEVEL VARIABLES READ AS WHEN THE CALL BEGINS. Each datum BY PROGRAM (the guide's laid-datum.mjs) off the statement by which the dump's own 'gosem.cut.vars' lays the variable. In a bare row this is a premise. The card (YtgbmffljpneflaaGreatDoorCards.lean) ties it to the program's text. -/
def laid_semispace_handle_widths {H : Type} : DataW H := .agg [.lit (.int .i64 2), .lit (.int .i64 16), .lit (.int .i64 32)]

/-- 'semispacelaw19.BoundaryCalls': WHATEVER THE INPUT: true; the input reads as it did. -/
def boundaryCallsSpec : ChangeSpec := { name := "boundaryCalls", fn := fun _ => fun
  | [d1, d2, d3, d4, d5, d6, d7] => { results := [.lit (.bool true)], args := [d1, d2, d3, d4, d5, d6, d7] }
  | _ => none }
def boundaryCallsRow : OpenClaim := { program := "ytgbmffljpneflaagreatdoor", sum := "8ccfa3af88daaf21cf4def95a685486b7f7e0b5f4de2c64aebf28fba6c1847e2", func := "semispace/semispacelaw19.BoundaryCalls", spec := "boundaryCalls", unfollowed := true, recurses := true, named := ["semispace/handle.widths"], apart := false, laid := [("semispace/handle.widths", laid_semispace_handle_widths)] }
def BoundaryCallsSaid : Prop := boundaryCallsRow.holds Tryz.pinned (OpenSpec.ofChange boundaryCallsSpec)

/-- ITS FALSE NEIGHBOUR: 'it returns false'. Refute it at one input. -/
def boundaryCallsWrong : ChangeSpec := { name := "boundaryCalls", fn := fun _ => fun
  | [d1, d2, d3, d4, d5, d6, d7] => { results := [.lit (.bool false)], args := [d1, d2, d3, d4, d5, d6, d7] }
  | _ => none }
def BoundaryCallsWrongFalsely : Prop := boundaryCallsRow.holds Tryz.pinned (OpenSpec.ofChange boundaryCallsWrong)

/-- 'semispacelaw19.BoundaryScripts': WHATEVER THE INPUT: true; the input reads as it did. -/
def boundaryScriptsSpec : ChangeSpec := { name := "boundaryScripts", fn := fun _ => fun
  | [d] => { results := [.lit (.bool true)], args := [d] }
  | _ => none }
def boundaryScriptsRow : OpenClaim := { program := "ytgbmffljpneflaagreatdoor", sum := "8ccfa3af88daaf21cf4def95a685486b7f7e0b5f4de2c64aebf28fba6c1847e2", func := "semispace/semispacelaw19.BoundaryScripts", spec := "boundaryScripts", unfollowed := true, recurses := true, named := ["semispace/handle.widths"], apart := false, laid := [("semispace/handle.widths", laid_semispace_handle_widths)] }
def BoundaryScriptsSaid : Prop := boundaryScriptsRow.holds Tryz.pinned (OpenSpec.ofChange boundaryScriptsSpec)

/-- ITS FALSE NEIGHBOUR: 'it returns false'. Refute it at one input. -/
def boundaryScriptsWrong : ChangeSpec := { name := "boundaryScripts", fn := fun _ => fun
  | [d] => { results := [.lit (.bool false)], args := [d] }
  | _ => none }
def BoundaryScriptsWrongFalsely : Prop := boundaryScriptsRow.holds Tryz.pinned (OpenSpec.ofChange boundaryScriptsWrong)

/- THE SECOND FORM. 'bulk': how many values and letters a reading holds, each counted each time it is reached (what is shared counts as often as it is met; a slice's spare places count too). A statement '..UptoSaid' is the law's where the arguments, and the package variables that the reading takes, are together of bulk at most 1048576: NARROWER than '..Said'. Prove '..Said' where nothing that the law and all that it calls make is longer than what came in: it says more and counts as full. Else prove '..UptoSaid'. A law counts once. -/
mutual
def uptoBulk {H : Type} : DataW H → Nat
  | .lit (.string bytes) => bytes.length + 1
  | .lit _ => 1
  | .nil => 1
  | .ptr d => uptoBulk d + 1
  | .slice elems spare => uptoBulkAll elems + uptoBulkAll spare + 1
  | .agg parts => uptoBulkAll parts + 1
  | .iface _ d => uptoBulk d + 1
  | .map entries => uptoBulkEntries entries + 1
  | .held _ => 1
def uptoBulkAll {H : Type} : List (DataW H) → Nat
  | [] => 0
  | d :: r => uptoBulk d + uptoBulkAll r
def uptoBulkEntries {H : Type} : List (Lit × DataW H) → Nat
  | [] => 0
  | x :: r => uptoBulkEntry x + uptoBulkEntries r
def uptoBulkEntry {H : Type} : Lit × DataW H → Nat
  | (.string bytes, d) => bytes.length + uptoBulk d + 1
  | (_, d) => uptoBulk d + 1
 end
def uptoSmall : (H : Type) → List (DataW H) → Bool := fun _ ds => decide (uptoBulkAll ds ≤ 1048576)
def OpenSpec.upto (s : _root_.Go.ChangeSpec) : _root_.Go.OpenSpec := { _root_.Go.OpenSpec.ofChange s with cond := some uptoSmall }

/-- 'semispacelaw19.BoundaryCalls', WHERE WHAT IT READS IS OF BULK AT MOST 1048576: true; the input reads as it did. -/
def boundaryCallsUptoRow : OpenClaim := { program := "ytgbmffljpneflaagreatdoor", sum := "8ccfa3af88daaf21cf4def95a685486b7f7e0b5f4de2c64aebf28fba6c1847e2", func := "semispace/semispacelaw19.BoundaryCalls", spec := "boundaryCalls", unfollowed := true, recurses := true, named := ["semispace/handle.widths"], apart := false, laid := [("semispace/handle.widths", laid_semispace_handle_widths)], narrowed := true }
def BoundaryCallsUptoSaid : Prop := boundaryCallsUptoRow.holds Tryz.pinned (OpenSpec.upto boundaryCallsSpec)

/-- 'semispacelaw19.BoundaryScripts', WHERE WHAT IT READS IS OF BULK AT MOST 1048576: true; the input reads as it did. -/
def boundaryScriptsUptoRow : OpenClaim := { program := "ytgbmffljpneflaagreatdoor", sum := "8ccfa3af88daaf21cf4def95a685486b7f7e0b5f4de2c64aebf28fba6c1847e2", func := "semispace/semispacelaw19.BoundaryScripts", spec := "boundaryScripts", unfollowed := true, recurses := true, named := ["semispace/handle.widths"], apart := false, laid := [("semispace/handle.widths", laid_semispace_handle_widths)], narrowed := true }
def BoundaryScriptsUptoSaid : Prop := boundaryScriptsUptoRow.holds Tryz.pinned (OpenSpec.upto boundaryScriptsSpec)

end Rows
end Go.Proofs.YtgbmffljpneflaaGreatDoor
