/- Proved: semispacelaw19.BoundaryCalls answers true at every input that the given statement lets in, and leaves its arguments as they were.
   Conditions: those of the given statement alone (its arguments are well formed and fit into memory; the listed package-level variable has its initial value). -/
import Derived.Test.YtgbmffljpneflaaGreatDoorBLR
import Derived.Test.YtgbmffljpneflaaGreatDoorBLG
set_option linter.all false
namespace Go.Proofs.YtgbmffljpneflaaGreatDoor
open Go Go.Sx Go.ChangeShapes Go.WideShapes Go.ChangeAt Go.WideElems Go.RowKit
def boundaryCalls_holds : Rows.BoundaryCallsCardSaid :=
  Claim7.holds_tied_plain_at .later [] [.widerDeep] true Rows.boundaryCallsCard.stood.harness true
    boundaryCalls_row (fun _ h => by cases h) (by kernel_rfl) (fun _ h => by cases h) boundaryCalls_row_tie rfl ⟨rfl, rfl⟩ (by kernel_rfl) rfl
    (fun f fn hf hfn => by
      obtain rfl : f = 3 := WG (named_k.symm.trans hf) |>.symm
      obtain rfl : fn = Tryz.f3 := (WG (Tryz.func3.symm.trans hfn)).symm
      exact ⟨looks_k, fun j t ht => by
        rw [Tryz.params3] at ht
        have hm : t ∈ [38, 30, 30, 3, 39, 39, 39] := by simpa using Array.mem_of_getElem? ht
        have hall : ([38, 30, 30, 3, 39, 39, 39].all fun u => !Tryz.prog.wantsStandIn u) = true := by kernel_rfl
        exact (show Tryz.prog.wantsStandIn t = false by simpa using Ud.1 hall t hm)⟩)
    goes_k
#print axioms boundaryCalls_holds
end Go.Proofs.YtgbmffljpneflaaGreatDoor
