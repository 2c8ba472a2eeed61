/- Proved: semispacelaw19.BoundaryScopes answers true at every input that the given statement lets in, and leaves its arguments as they were.
   Conditions: those of the given statement alone (its arguments are well formed and fit into memory; the listed package-level variable has its initial value). -/
import Derived.Test.YtlneiohchomcfaaGreatDoorSLR
import Derived.Test.YtlneiohchomcfaaGreatDoorSLG
set_option linter.all false
namespace Go.Proofs.YtlneiohchomcfaaGreatDoor
open Go Go.Sx Go.ChangeShapes Go.WideShapes Go.ChangeAt Go.WideElems Go.RowKit
def boundaryScopes_holds : Rows.BoundaryScopesCardSaid :=
  Claim7.holds_tied_plain_at .later [] [.widerDeep] true Rows.boundaryScopesCard.stood.harness true
    boundaryScopes_row (fun _ h => by cases h) (by kernel_rfl) (fun _ h => by cases h) boundaryScopes_row_tie rfl ⟨rfl, rfl⟩ (by kernel_rfl) rfl
    (fun f fn hf hfn => by
      obtain rfl : f = 5 := WA (named_k.symm.trans hf) |>.symm
      obtain rfl : fn = Tryz.f5 := (WA (Tryz.func5.symm.trans hfn)).symm
      exact ⟨looks_k, fun j t ht => by
        rw [Tryz.params5] at ht
        have hm : t ∈ [22] := by simpa using Array.mem_of_getElem? ht
        have hall : ([22].all fun u => !Tryz.prog.wantsStandIn u) = true := by kernel_rfl
        exact (show Tryz.prog.wantsStandIn t = false by simpa using WX.1 hall t hm)⟩)
    goes_k
#print axioms boundaryScopes_holds
end Go.Proofs.YtlneiohchomcfaaGreatDoor
