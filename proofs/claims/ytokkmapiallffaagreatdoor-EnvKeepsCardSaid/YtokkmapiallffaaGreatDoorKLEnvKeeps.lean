/- Proved: semispacelaw18.EnvKeeps answers true at every input that the given statement lets in, and leaves its arguments as they were.
   Conditions: those of the given statement alone (its arguments are well formed and fit into memory; the listed package-level variable has its initial value). -/
import Derived.Test.YtokkmapiallffaaGreatDoorKLR
import Derived.Test.YtokkmapiallffaaGreatDoorKLG
set_option linter.all false
namespace Go.Proofs.YtokkmapiallffaaGreatDoor
open Go Go.Sx Go.ChangeShapes Go.WideShapes Go.ChangeAt Go.WideElems Go.RowKit
def envKeeps_holds : Rows.EnvKeepsCardSaid :=
  Claim7.holds_tied_plain_at .later [] [.widerDeep] true Rows.envKeepsCard.stood.harness true
    envKeeps_row (fun _ h => by cases h) (by kernel_rfl) (fun _ h => by cases h) envKeeps_row_tie rfl ⟨rfl, rfl⟩ (by kernel_rfl) rfl
    (fun f fn hf hfn => by
      obtain rfl : f = 3 := Wz (named_k.symm.trans hf) |>.symm
      obtain rfl : fn = Tryz.f3 := (Wz (Tryz.func3.symm.trans hfn)).symm
      exact ⟨looks_k, fun j t ht => by
        rw [Tryz.params3] at ht
        have hm : t ∈ [22] := by simpa using Array.mem_of_getElem? ht
        have hall : ([22].all fun u => !Tryz.prog.wantsStandIn u) = true := by kernel_rfl
        exact (show Tryz.prog.wantsStandIn t = false by simpa using WV.1 hall t hm)⟩)
    goes_k
#print axioms envKeeps_holds
end Go.Proofs.YtokkmapiallffaaGreatDoor
