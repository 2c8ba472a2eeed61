/- Proved: semispacelaw19.BoundaryReads answers true at every input that the given statement lets in, and leaves its arguments as they were.
   Conditions: those of the given statement alone (its arguments are well formed and fit into memory; the listed package-level variable has its initial value). -/
import Derived.Test.YtgcneehkconghaaGreatDoorBLR
import Derived.Test.YtgcneehkconghaaGreatDoorBLG
set_option linter.all false
namespace Go.Proofs.YtgcneehkconghaaGreatDoor
open Go Go.Sx Go.ChangeShapes Go.WideShapes Go.ChangeAt Go.WideElems Go.RowKit
theorem boundaryReads_holds : Rows.BoundaryReadsCardSaid :=
  Claim7.holds_tied_plain_at .later [] [.widerDeep] true Rows.boundaryReadsCard.stood.harness true
    boundaryReads_row (fun _ h => by cases h) (by kernel_rfl) (fun _ h => by cases h) boundaryReads_row_tie rfl ⟨rfl, rfl⟩ (by kernel_rfl) rfl
    (fun f fn hf hfn => by
      obtain rfl : f = 4 := WO (named_k.symm.trans hf) |>.symm
      obtain rfl : fn = Tryz.f4 := (WO (Tryz.func4.symm.trans hfn)).symm
      exact ⟨looks_k, fun j t ht => by
        rw [Tryz.params4] at ht
        have hm : t ∈ [30, 39, 39, 3] := by simpa using Array.mem_of_getElem? ht
        have hall : ([30, 39, 39, 3].all fun u => !Tryz.prog.wantsStandIn u) = true := by kernel_rfl
        exact (show Tryz.prog.wantsStandIn t = false by simpa using Uf.1 hall t hm)⟩)
    goes_k
#print axioms boundaryReads_holds
end Go.Proofs.YtgcneehkconghaaGreatDoor
