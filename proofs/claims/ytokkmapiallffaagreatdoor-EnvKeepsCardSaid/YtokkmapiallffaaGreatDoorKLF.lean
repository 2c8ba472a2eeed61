import Derived.Test.YtokkmapiallffaaGreatDoorKH
set_option linter.all false
namespace Go.Proofs.YtokkmapiallffaaGreatDoor
open Go Go.Sx Go.ChangeShapes Go.WideShapes Go.ChangeAt Go.WideElems Go.RowKit
def and2 {a b : Bool} (h : a = true) (k : b = true) : (a && b) = true := by rw [h, k]; rfl
def envKeeps_k0 : (Rows.envKeepsRow.wf (OpenSpec.ofChange Rows.envKeepsSpec)) = true := by kernel_rfl
def envKeeps_k1 : (laidOutB Tryz.prog) = true := by kernel_rfl
def envKeeps_k2 : (mapsRowed Tryz.prog) = true := by kernel_rfl
def envKeeps_k3 : (Tryz.f3.params.all (Tryz.prog.readableRec ·)) = true := by kernel_rfl
def envKeeps_k4 : (namedTie Tryz.prog Rows.envKeepsRow.named Rows.envKeepsSpec.vars) = true := by kernel_rfl
def envKeeps_k5 : ((Rows.envKeepsRow.stops == [])) = true := by kernel_rfl
def envKeeps_k6 : ((Tryz.prog.stops == [])) = true := by kernel_rfl
def envKeeps_k7 : ((Rows.envKeepsRow.knobs == [])) = true := by kernel_rfl
def envKeeps_k8 : ((Tryz.prog.stopKnobs == [])) = true := by kernel_rfl
def envKeeps_k9 : ((Rows.envKeepsRow.inPlace == Tryz.prog.inPlace 3)) = true := by kernel_rfl
def envKeeps_k10 : ((Rows.envKeepsRow.unfollowed == Tryz.prog.unfollowed 3)) = true := by kernel_rfl
def envKeeps_k11 : ((Rows.envKeepsRow.recurses == Tryz.prog.recurses 3)) = true := by kernel_rfl
def envKeeps_k12 : ((Rows.envKeepsRow.named == Tryz.prog.varsNamed 3)) = true := by kernel_rfl
def envKeeps_k13 : ((Rows.envKeepsRow.maps == (Tryz.f3.params.toList ++ Rows.envKeepsSpec.plain.varTypes Tryz.prog).any (Tryz.prog.mapsRec ·))) = true := by kernel_rfl
def envKeeps_k14 : ((Rows.envKeepsRow.ifaces == (Tryz.f3.params.toList ++ Rows.envKeepsSpec.plain.varTypes Tryz.prog).any (Tryz.prog.ifacesRec ·))) = true := by kernel_rfl
def envKeeps_k15 : ((Rows.envKeepsRow.mapsOut == Tryz.prog.mapsAmong Tryz.f3.resultTypes.toList)) = true := by kernel_rfl
def envKeeps_k16 : ((Rows.envKeepsRow.loops == (Tryz.f3.params.toList ++ Rows.envKeepsSpec.plain.varTypes Tryz.prog).any (Tryz.prog.loopsFrom ·))) = true := by kernel_rfl
def envKeeps_k17 : ((Rows.envKeepsRow.wideKeys == (Tryz.f3.params.toList ++ Rows.envKeepsSpec.plain.varTypes Tryz.prog ++ Tryz.f3.resultTypes.toList).any (Tryz.prog.wideKeysFrom ·))) = true := by kernel_rfl
def envKeeps_k18 : (Rows.envKeepsSpec.vars.all (Tryz.prog.varReadable ·)) = true := by kernel_rfl
def envKeeps_k19 : (Tryz.f3.resultTypes.all (fun t => Tryz.prog.readableRec t && decide (t < Tryz.prog.types.size))) = true := by kernel_rfl
def envKeeps_k20 : ((Rows.envKeepsRow.ifacesOut == Tryz.f3.resultTypes.toList.any (Tryz.prog.ifacesRec ·))) = true := by kernel_rfl
def envKeeps_k21 : ((Rows.envKeepsRow.loopsOut == Tryz.f3.resultTypes.toList.any (Tryz.prog.loopsFrom ·))) = true := by kernel_rfl
def envKeeps_k22 : ((Rows.envKeepsRow.plainKeys == Tryz.prog.plainKeys)) = true := by kernel_rfl
def envKeeps_k23 : (Rows.envKeepsRow.shortTexts.isNone) = true := by kernel_rfl
def envKeeps_k24 : (Tryz.prog.stopsHeard) = true := by kernel_rfl
def envKeeps_k25 : (Tryz.prog.mayEnter) = true := by kernel_rfl
def envKeeps_k26 : ((Rows.envKeepsRow.lifted == Tryz.prog.liftsFinal)) = true := by kernel_rfl
def envKeeps_k27 : ((Tryz.prog.make == some Rows.envKeepsRow.make)) = true := by kernel_rfl
def envKeeps_k28 : ((Rows.envKeepsRow.kinds == (if Rows.envKeepsRow.domain.isEmpty then [] else Tryz.f3.params.toList.map fun t => match Tryz.prog.underlying t with | some (.int k) => some k | _ => none))) = true := by kernel_rfl
def envKeeps_k29 : ((Rows.envKeepsRow.pinned == Rows.envKeepsRow.pinnedBy)) = true := by kernel_rfl
def envKeeps_k30 : ((Rows.envKeepsRow.veiled == (Tryz.f3.params.toList ++ Rows.envKeepsSpec.plain.varTypes Tryz.prog ++ Tryz.f3.resultTypes.toList).any (Tryz.prog.veiledRec ·))) = true := by kernel_rfl
def envKeeps_k31 : (Rows.envKeepsRow.veiledFits Tryz.prog Tryz.f3.params.toList (Tryz.f3.params.toList ++ Rows.envKeepsSpec.plain.varTypes Tryz.prog ++ Tryz.f3.resultTypes.toList)) = true := by kernel_rfl
set_option maxRecDepth 100000 in
def envKeeps_closed : joinedFacts Tryz.prog 3 Tryz.f3 Rows.envKeepsSpec Rows.envKeepsRow = true := by
  unfold joinedFacts
  exact (and2 (and2 (and2 (and2 (and2 (and2 (and2 (and2 (and2 (and2 (and2 (and2 (and2 (and2 (and2 (and2 (and2 (and2 (and2 (and2 (and2 (and2 (and2 (and2 (and2 (and2 (and2 (and2 (and2 (and2 (and2 envKeeps_k0 envKeeps_k1) envKeeps_k2) envKeeps_k3) envKeeps_k4) envKeeps_k5) envKeeps_k6) envKeeps_k7) envKeeps_k8) envKeeps_k9) envKeeps_k10) envKeeps_k11) envKeeps_k12) envKeeps_k13) envKeeps_k14) envKeeps_k15) envKeeps_k16) envKeeps_k17) envKeeps_k18) envKeeps_k19) envKeeps_k20) envKeeps_k21) envKeeps_k22) envKeeps_k23) envKeeps_k24) envKeeps_k25) envKeeps_k26) envKeeps_k27) envKeeps_k28) envKeeps_k29) envKeeps_k30) envKeeps_k31)
end Go.Proofs.YtokkmapiallffaaGreatDoor
