import Derived.Test.YtgbmffljpneflaaGreatDoorSH
set_option linter.all false
namespace Go.Proofs.YtgbmffljpneflaaGreatDoor
open Go Go.Sx Go.ChangeShapes Go.WideShapes Go.ChangeAt Go.WideElems Go.RowKit
def and2 {a b : Bool} (h : a = true) (k : b = true) : (a && b) = true := by rw [h, k]; rfl
def boundaryScripts_k0 : (Rows.boundaryScriptsRow.wf (OpenSpec.ofChange Rows.boundaryScriptsSpec)) = true := by kernel_rfl
def boundaryScripts_k1 : (laidOutB Tryz.prog) = true := by kernel_rfl
def boundaryScripts_k2 : (mapsRowed Tryz.prog) = true := by kernel_rfl
def boundaryScripts_k3 : (Tryz.f4.params.all (Tryz.prog.readableRec ·)) = true := by kernel_rfl
def boundaryScripts_k4 : (namedTie Tryz.prog Rows.boundaryScriptsRow.named Rows.boundaryScriptsSpec.vars) = true := by kernel_rfl
def boundaryScripts_k5 : ((Rows.boundaryScriptsRow.stops == [])) = true := by kernel_rfl
def boundaryScripts_k6 : ((Tryz.prog.stops == [])) = true := by kernel_rfl
def boundaryScripts_k7 : ((Rows.boundaryScriptsRow.knobs == [])) = true := by kernel_rfl
def boundaryScripts_k8 : ((Tryz.prog.stopKnobs == [])) = true := by kernel_rfl
def boundaryScripts_k9 : ((Rows.boundaryScriptsRow.inPlace == Tryz.prog.inPlace 4)) = true := by kernel_rfl
def boundaryScripts_k10 : ((Rows.boundaryScriptsRow.unfollowed == Tryz.prog.unfollowed 4)) = true := by kernel_rfl
def boundaryScripts_k11 : ((Rows.boundaryScriptsRow.recurses == Tryz.prog.recurses 4)) = true := by kernel_rfl
def boundaryScripts_k12 : ((Rows.boundaryScriptsRow.named == Tryz.prog.varsNamed 4)) = true := by kernel_rfl
def boundaryScripts_k13 : ((Rows.boundaryScriptsRow.maps == (Tryz.f4.params.toList ++ Rows.boundaryScriptsSpec.plain.varTypes Tryz.prog).any (Tryz.prog.mapsRec ·))) = true := by kernel_rfl
def boundaryScripts_k14 : ((Rows.boundaryScriptsRow.ifaces == (Tryz.f4.params.toList ++ Rows.boundaryScriptsSpec.plain.varTypes Tryz.prog).any (Tryz.prog.ifacesRec ·))) = true := by kernel_rfl
def boundaryScripts_k15 : ((Rows.boundaryScriptsRow.mapsOut == Tryz.prog.mapsAmong Tryz.f4.resultTypes.toList)) = true := by kernel_rfl
def boundaryScripts_k16 : ((Rows.boundaryScriptsRow.loops == (Tryz.f4.params.toList ++ Rows.boundaryScriptsSpec.plain.varTypes Tryz.prog).any (Tryz.prog.loopsFrom ·))) = true := by kernel_rfl
def boundaryScripts_k17 : ((Rows.boundaryScriptsRow.wideKeys == (Tryz.f4.params.toList ++ Rows.boundaryScriptsSpec.plain.varTypes Tryz.prog ++ Tryz.f4.resultTypes.toList).any (Tryz.prog.wideKeysFrom ·))) = true := by kernel_rfl
def boundaryScripts_k18 : (Rows.boundaryScriptsSpec.vars.all (Tryz.prog.varReadable ·)) = true := by kernel_rfl
def boundaryScripts_k19 : (Tryz.f4.resultTypes.all (fun t => Tryz.prog.readableRec t && decide (t < Tryz.prog.types.size))) = true := by kernel_rfl
def boundaryScripts_k20 : ((Rows.boundaryScriptsRow.ifacesOut == Tryz.f4.resultTypes.toList.any (Tryz.prog.ifacesRec ·))) = true := by kernel_rfl
def boundaryScripts_k21 : ((Rows.boundaryScriptsRow.loopsOut == Tryz.f4.resultTypes.toList.any (Tryz.prog.loopsFrom ·))) = true := by kernel_rfl
def boundaryScripts_k22 : ((Rows.boundaryScriptsRow.plainKeys == Tryz.prog.plainKeys)) = true := by kernel_rfl
def boundaryScripts_k23 : (Rows.boundaryScriptsRow.shortTexts.isNone) = true := by kernel_rfl
def boundaryScripts_k24 : (Tryz.prog.stopsHeard) = true := by kernel_rfl
def boundaryScripts_k25 : (Tryz.prog.mayEnter) = true := by kernel_rfl
def boundaryScripts_k26 : ((Rows.boundaryScriptsRow.lifted == Tryz.prog.liftsFinal)) = true := by kernel_rfl
def boundaryScripts_k27 : ((Tryz.prog.make == some Rows.boundaryScriptsRow.make)) = true := by kernel_rfl
def boundaryScripts_k28 : ((Rows.boundaryScriptsRow.kinds == (if Rows.boundaryScriptsRow.domain.isEmpty then [] else Tryz.f4.params.toList.map fun t => match Tryz.prog.underlying t with | some (.int k) => some k | _ => none))) = true := by kernel_rfl
def boundaryScripts_k29 : ((Rows.boundaryScriptsRow.pinned == Rows.boundaryScriptsRow.pinnedBy)) = true := by kernel_rfl
def boundaryScripts_k30 : ((Rows.boundaryScriptsRow.veiled == (Tryz.f4.params.toList ++ Rows.boundaryScriptsSpec.plain.varTypes Tryz.prog ++ Tryz.f4.resultTypes.toList).any (Tryz.prog.veiledRec ·))) = true := by kernel_rfl
def boundaryScripts_k31 : (Rows.boundaryScriptsRow.veiledFits Tryz.prog Tryz.f4.params.toList (Tryz.f4.params.toList ++ Rows.boundaryScriptsSpec.plain.varTypes Tryz.prog ++ Tryz.f4.resultTypes.toList)) = true := by kernel_rfl
set_option maxRecDepth 100000 in
def boundaryScripts_closed : joinedFacts Tryz.prog 4 Tryz.f4 Rows.boundaryScriptsSpec Rows.boundaryScriptsRow = true := by
  unfold joinedFacts
  exact (and2 (and2 (and2 (and2 (and2 (and2 (and2 (and2 (and2 (and2 (and2 (and2 (and2 (and2 (and2 (and2 (and2 (and2 (and2 (and2 (and2 (and2 (and2 (and2 (and2 (and2 (and2 (and2 (and2 (and2 (and2 boundaryScripts_k0 boundaryScripts_k1) boundaryScripts_k2) boundaryScripts_k3) boundaryScripts_k4) boundaryScripts_k5) boundaryScripts_k6) boundaryScripts_k7) boundaryScripts_k8) boundaryScripts_k9) boundaryScripts_k10) boundaryScripts_k11) boundaryScripts_k12) boundaryScripts_k13) boundaryScripts_k14) boundaryScripts_k15) boundaryScripts_k16) boundaryScripts_k17) boundaryScripts_k18) boundaryScripts_k19) boundaryScripts_k20) boundaryScripts_k21) boundaryScripts_k22) boundaryScripts_k23) boundaryScripts_k24) boundaryScripts_k25) boundaryScripts_k26) boundaryScripts_k27) boundaryScripts_k28) boundaryScripts_k29) boundaryScripts_k30) boundaryScripts_k31)
end Go.Proofs.YtgbmffljpneflaaGreatDoor
