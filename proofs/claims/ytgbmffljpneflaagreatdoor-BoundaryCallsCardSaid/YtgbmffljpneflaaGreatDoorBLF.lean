import Derived.Test.YtgbmffljpneflaaGreatDoorBH
set_option linter.all false
namespace Go.Proofs.YtgbmffljpneflaaGreatDoor
open Go Go.Sx Go.ChangeShapes Go.WideShapes Go.ChangeAt Go.WideElems Go.RowKit
def and2 {a b : Bool} (h : a = true) (k : b = true) : (a && b) = true := by rw [h, k]; rfl
def boundaryCalls_k0 : (Rows.boundaryCallsRow.wf (OpenSpec.ofChange Rows.boundaryCallsSpec)) = true := by kernel_rfl
def boundaryCalls_k1 : (laidOutB Tryz.prog) = true := by kernel_rfl
def boundaryCalls_k2 : (mapsRowed Tryz.prog) = true := by kernel_rfl
def boundaryCalls_k3 : (Tryz.f3.params.all (Tryz.prog.readableRec ·)) = true := by kernel_rfl
def boundaryCalls_k4 : (namedTie Tryz.prog Rows.boundaryCallsRow.named Rows.boundaryCallsSpec.vars) = true := by kernel_rfl
def boundaryCalls_k5 : ((Rows.boundaryCallsRow.stops == [])) = true := by kernel_rfl
def boundaryCalls_k6 : ((Tryz.prog.stops == [])) = true := by kernel_rfl
def boundaryCalls_k7 : ((Rows.boundaryCallsRow.knobs == [])) = true := by kernel_rfl
def boundaryCalls_k8 : ((Tryz.prog.stopKnobs == [])) = true := by kernel_rfl
def boundaryCalls_k9 : ((Rows.boundaryCallsRow.inPlace == Tryz.prog.inPlace 3)) = true := by kernel_rfl
def boundaryCalls_k10 : ((Rows.boundaryCallsRow.unfollowed == Tryz.prog.unfollowed 3)) = true := by kernel_rfl
def boundaryCalls_k11 : ((Rows.boundaryCallsRow.recurses == Tryz.prog.recurses 3)) = true := by kernel_rfl
def boundaryCalls_k12 : ((Rows.boundaryCallsRow.named == Tryz.prog.varsNamed 3)) = true := by kernel_rfl
def boundaryCalls_k13 : ((Rows.boundaryCallsRow.maps == (Tryz.f3.params.toList ++ Rows.boundaryCallsSpec.plain.varTypes Tryz.prog).any (Tryz.prog.mapsRec ·))) = true := by kernel_rfl
def boundaryCalls_k14 : ((Rows.boundaryCallsRow.ifaces == (Tryz.f3.params.toList ++ Rows.boundaryCallsSpec.plain.varTypes Tryz.prog).any (Tryz.prog.ifacesRec ·))) = true := by kernel_rfl
def boundaryCalls_k15 : ((Rows.boundaryCallsRow.mapsOut == Tryz.prog.mapsAmong Tryz.f3.resultTypes.toList)) = true := by kernel_rfl
def boundaryCalls_k16 : ((Rows.boundaryCallsRow.loops == (Tryz.f3.params.toList ++ Rows.boundaryCallsSpec.plain.varTypes Tryz.prog).any (Tryz.prog.loopsFrom ·))) = true := by kernel_rfl
def boundaryCalls_k17 : ((Rows.boundaryCallsRow.wideKeys == (Tryz.f3.params.toList ++ Rows.boundaryCallsSpec.plain.varTypes Tryz.prog ++ Tryz.f3.resultTypes.toList).any (Tryz.prog.wideKeysFrom ·))) = true := by kernel_rfl
def boundaryCalls_k18 : (Rows.boundaryCallsSpec.vars.all (Tryz.prog.varReadable ·)) = true := by kernel_rfl
def boundaryCalls_k19 : (Tryz.f3.resultTypes.all (fun t => Tryz.prog.readableRec t && decide (t < Tryz.prog.types.size))) = true := by kernel_rfl
def boundaryCalls_k20 : ((Rows.boundaryCallsRow.ifacesOut == Tryz.f3.resultTypes.toList.any (Tryz.prog.ifacesRec ·))) = true := by kernel_rfl
def boundaryCalls_k21 : ((Rows.boundaryCallsRow.loopsOut == Tryz.f3.resultTypes.toList.any (Tryz.prog.loopsFrom ·))) = true := by kernel_rfl
def boundaryCalls_k22 : ((Rows.boundaryCallsRow.plainKeys == Tryz.prog.plainKeys)) = true := by kernel_rfl
def boundaryCalls_k23 : (Rows.boundaryCallsRow.shortTexts.isNone) = true := by kernel_rfl
def boundaryCalls_k24 : (Tryz.prog.stopsHeard) = true := by kernel_rfl
def boundaryCalls_k25 : (Tryz.prog.mayEnter) = true := by kernel_rfl
def boundaryCalls_k26 : ((Rows.boundaryCallsRow.lifted == Tryz.prog.liftsFinal)) = true := by kernel_rfl
def boundaryCalls_k27 : ((Tryz.prog.make == some Rows.boundaryCallsRow.make)) = true := by kernel_rfl
def boundaryCalls_k28 : ((Rows.boundaryCallsRow.kinds == (if Rows.boundaryCallsRow.domain.isEmpty then [] else Tryz.f3.params.toList.map fun t => match Tryz.prog.underlying t with | some (.int k) => some k | _ => none))) = true := by kernel_rfl
def boundaryCalls_k29 : ((Rows.boundaryCallsRow.pinned == Rows.boundaryCallsRow.pinnedBy)) = true := by kernel_rfl
def boundaryCalls_k30 : ((Rows.boundaryCallsRow.veiled == (Tryz.f3.params.toList ++ Rows.boundaryCallsSpec.plain.varTypes Tryz.prog ++ Tryz.f3.resultTypes.toList).any (Tryz.prog.veiledRec ·))) = true := by kernel_rfl
def boundaryCalls_k31 : (Rows.boundaryCallsRow.veiledFits Tryz.prog Tryz.f3.params.toList (Tryz.f3.params.toList ++ Rows.boundaryCallsSpec.plain.varTypes Tryz.prog ++ Tryz.f3.resultTypes.toList)) = true := by kernel_rfl
set_option maxRecDepth 100000 in
def boundaryCalls_closed : joinedFacts Tryz.prog 3 Tryz.f3 Rows.boundaryCallsSpec Rows.boundaryCallsRow = true := by
  unfold joinedFacts
  exact (and2 (and2 (and2 (and2 (and2 (and2 (and2 (and2 (and2 (and2 (and2 (and2 (and2 (and2 (and2 (and2 (and2 (and2 (and2 (and2 (and2 (and2 (and2 (and2 (and2 (and2 (and2 (and2 (and2 (and2 (and2 boundaryCalls_k0 boundaryCalls_k1) boundaryCalls_k2) boundaryCalls_k3) boundaryCalls_k4) boundaryCalls_k5) boundaryCalls_k6) boundaryCalls_k7) boundaryCalls_k8) boundaryCalls_k9) boundaryCalls_k10) boundaryCalls_k11) boundaryCalls_k12) boundaryCalls_k13) boundaryCalls_k14) boundaryCalls_k15) boundaryCalls_k16) boundaryCalls_k17) boundaryCalls_k18) boundaryCalls_k19) boundaryCalls_k20) boundaryCalls_k21) boundaryCalls_k22) boundaryCalls_k23) boundaryCalls_k24) boundaryCalls_k25) boundaryCalls_k26) boundaryCalls_k27) boundaryCalls_k28) boundaryCalls_k29) boundaryCalls_k30) boundaryCalls_k31)
end Go.Proofs.YtgbmffljpneflaaGreatDoor
