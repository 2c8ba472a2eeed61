/- Proved: semispacelaw18.EnvResolves answers true at every input that the given statement lets in, and leaves its arguments as they were.
   Conditions: those of the given statement alone (its arguments are well formed and fit into memory; the listed package-level variable has its initial value). -/
import Derived.Test.YtgcneehkconghaaGreatDoorVLR
import Derived.Test.YtgcneehkconghaaGreatDoorVLG
set_option linter.all false
namespace Go.Proofs.YtgcneehkconghaaGreatDoor
open Go Go.Sx Go.ChangeShapes Go.WideShapes Go.ChangeAt Go.WideElems Go.RowKit
theorem envResolves_holds : Rows.EnvResolvesCardSaid :=
  Claim7.holds_tied_plain_at .later [] [.widerDeep] true Rows.envResolvesCard.stood.harness true
    envResolves_row (fun _ h => by cases h) (by kernel_rfl) (fun _ h => by cases h) envResolves_row_tie rfl ⟨rfl, rfl⟩ (by kernel_rfl) rfl
    (fun f fn hf hfn => by
      obtain rfl : f = 3 := WP (named_k.symm.trans hf) |>.symm
      obtain rfl : fn = Tryz.f3 := (WP (Tryz.func3.symm.trans hfn)).symm
      exact ⟨looks_k, fun j t ht => by
        rw [Tryz.params3] at ht
        have hm : t ∈ [38, 30, 30, 39] := by simpa using Array.mem_of_getElem? ht
        have hall : ([38, 30, 30, 39].all fun u => !Tryz.prog.wantsStandIn u) = true := by kernel_rfl
        exact (show Tryz.prog.wantsStandIn t = false by simpa using Uc.1 hall t hm)⟩)
    goes_k
#print axioms envResolves_holds
end Go.Proofs.YtgcneehkconghaaGreatDoor
