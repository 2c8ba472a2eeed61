/- Proved: semispacelaw19.BoundaryScripts answers true at every input that the given statement lets in, and leaves its arguments as they were.
   Conditions: those of the given statement alone (its arguments are well formed and fit into memory; the listed package-level variable has its initial value). -/
import Derived.Test.YtgbmffljpneflaaGreatDoorSLR
import Derived.Test.YtgbmffljpneflaaGreatDoorSLG
set_option linter.all false
namespace Go.Proofs.YtgbmffljpneflaaGreatDoor
open Go Go.Sx Go.ChangeShapes Go.WideShapes Go.ChangeAt Go.WideElems Go.RowKit
def boundaryScripts_holds : Rows.BoundaryScriptsCardSaid :=
  Claim7.holds_tied_plain_at .later [] [.widerDeep] true Rows.boundaryScriptsCard.stood.harness true
    boundaryScripts_row (fun _ h => by cases h) (by kernel_rfl) (fun _ h => by cases h) boundaryScripts_row_tie rfl ⟨rfl, rfl⟩ (by kernel_rfl) rfl
    (fun f fn hf hfn => by
      obtain rfl : f = 4 := WE (named_k.symm.trans hf) |>.symm
      obtain rfl : fn = Tryz.f4 := (WE (Tryz.func4.symm.trans hfn)).symm
      exact ⟨looks_k, fun j t ht => by
        rw [Tryz.params4] at ht
        have hm : t ∈ [30] := by simpa using Array.mem_of_getElem? ht
        have hall : ([30].all fun u => !Tryz.prog.wantsStandIn u) = true := by kernel_rfl
        exact (show Tryz.prog.wantsStandIn t = false by simpa using W9.1 hall t hm)⟩)
    goes_k
#print axioms boundaryScripts_holds
end Go.Proofs.YtgbmffljpneflaaGreatDoor
