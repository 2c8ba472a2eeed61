import Derived.Test.YtlneiohchomcfaaGreatDoorSH
set_option linter.all false
namespace Go.Proofs.YtlneiohchomcfaaGreatDoor
open Go Go.Sx Go.ChangeShapes Go.WideShapes Go.ChangeAt Go.WideElems Go.RowKit
def and2 {a b : Bool} (h : a = true) (k : b = true) : (a && b) = true := by rw [h, k]; rfl
def boundaryScopes_k0 : (Rows.boundaryScopesRow.wf (OpenSpec.ofChange Rows.boundaryScopesSpec)) = true := by kernel_rfl
def boundaryScopes_k1 : (laidOutB Tryz.prog) = true := by kernel_rfl
def boundaryScopes_k2 : (mapsRowed Tryz.prog) = true := by kernel_rfl
def boundaryScopes_k3 : (Tryz.f5.params.all (Tryz.prog.readableRec ·)) = true := by kernel_rfl
def boundaryScopes_k4 : (namedTie Tryz.prog Rows.boundaryScopesRow.named Rows.boundaryScopesSpec.vars) = true := by kernel_rfl
def boundaryScopes_k5 : ((Rows.boundaryScopesRow.stops == [])) = true := by kernel_rfl
def boundaryScopes_k6 : ((Tryz.prog.stops == [])) = true := by kernel_rfl
def boundaryScopes_k7 : ((Rows.boundaryScopesRow.knobs == [])) = true := by kernel_rfl
def boundaryScopes_k8 : ((Tryz.prog.stopKnobs == [])) = true := by kernel_rfl
def boundaryScopes_k9 : ((Rows.boundaryScopesRow.inPlace == Tryz.prog.inPlace 5)) = true := by kernel_rfl
def boundaryScopes_k10 : ((Rows.boundaryScopesRow.unfollowed == Tryz.prog.unfollowed 5)) = true := by kernel_rfl
def boundaryScopes_k11 : ((Rows.boundaryScopesRow.recurses == Tryz.prog.recurses 5)) = true := by kernel_rfl
def boundaryScopes_k12 : ((Rows.boundaryScopesRow.named == Tryz.prog.varsNamed 5)) = true := by kernel_rfl
def boundaryScopes_k13 : ((Rows.boundaryScopesRow.maps == (Tryz.f5.params.toList ++ Rows.boundaryScopesSpec.plain.varTypes Tryz.prog).any (Tryz.prog.mapsRec ·))) = true := by kernel_rfl
def boundaryScopes_k14 : ((Rows.boundaryScopesRow.ifaces == (Tryz.f5.params.toList ++ Rows.boundaryScopesSpec.plain.varTypes Tryz.prog).any (Tryz.prog.ifacesRec ·))) = true := by kernel_rfl
def boundaryScopes_k15 : ((Rows.boundaryScopesRow.mapsOut == Tryz.prog.mapsAmong Tryz.f5.resultTypes.toList)) = true := by kernel_rfl
def boundaryScopes_k16 : ((Rows.boundaryScopesRow.loops == (Tryz.f5.params.toList ++ Rows.boundaryScopesSpec.plain.varTypes Tryz.prog).any (Tryz.prog.loopsFrom ·))) = true := by kernel_rfl
def boundaryScopes_k17 : ((Rows.boundaryScopesRow.wideKeys == (Tryz.f5.params.toList ++ Rows.boundaryScopesSpec.plain.varTypes Tryz.prog ++ Tryz.f5.resultTypes.toList).any (Tryz.prog.wideKeysFrom ·))) = true := by kernel_rfl
def boundaryScopes_k18 : (Rows.boundaryScopesSpec.vars.all (Tryz.prog.varReadable ·)) = true := by kernel_rfl
def boundaryScopes_k19 : (Tryz.f5.resultTypes.all (fun t => Tryz.prog.readableRec t && decide (t < Tryz.prog.types.size))) = true := by kernel_rfl
def boundaryScopes_k20 : ((Rows.boundaryScopesRow.ifacesOut == Tryz.f5.resultTypes.toList.any (Tryz.prog.ifacesRec ·))) = true := by kernel_rfl
def boundaryScopes_k21 : ((Rows.boundaryScopesRow.loopsOut == Tryz.f5.resultTypes.toList.any (Tryz.prog.loopsFrom ·))) = true := by kernel_rfl
def boundaryScopes_k22 : ((Rows.boundaryScopesRow.plainKeys == Tryz.prog.plainKeys)) = true := by kernel_rfl
def boundaryScopes_k23 : (Rows.boundaryScopesRow.shortTexts.isNone) = true := by kernel_rfl
def boundaryScopes_k24 : (Tryz.prog.stopsHeard) = true := by kernel_rfl
def boundaryScopes_k25 : (Tryz.prog.mayEnter) = true := by kernel_rfl
def boundaryScopes_k26 : ((Rows.boundaryScopesRow.lifted == Tryz.prog.liftsFinal)) = true := by kernel_rfl
def boundaryScopes_k27 : ((Tryz.prog.make == some Rows.boundaryScopesRow.make)) = true := by kernel_rfl
def boundaryScopes_k28 : ((Rows.boundaryScopesRow.kinds == (if Rows.boundaryScopesRow.domain.isEmpty then [] else Tryz.f5.params.toList.map fun t => match Tryz.prog.underlying t with | some (.int k) => some k | _ => none))) = true := by kernel_rfl
def boundaryScopes_k29 : ((Rows.boundaryScopesRow.pinned == Rows.boundaryScopesRow.pinnedBy)) = true := by kernel_rfl
def boundaryScopes_k30 : ((Rows.boundaryScopesRow.veiled == (Tryz.f5.params.toList ++ Rows.boundaryScopesSpec.plain.varTypes Tryz.prog ++ Tryz.f5.resultTypes.toList).any (Tryz.prog.veiledRec ·))) = true := by kernel_rfl
def boundaryScopes_k31 : (Rows.boundaryScopesRow.veiledFits Tryz.prog Tryz.f5.params.toList (Tryz.f5.params.toList ++ Rows.boundaryScopesSpec.plain.varTypes Tryz.prog ++ Tryz.f5.resultTypes.toList)) = true := by kernel_rfl
set_option maxRecDepth 100000 in
def boundaryScopes_closed : joinedFacts Tryz.prog 5 Tryz.f5 Rows.boundaryScopesSpec Rows.boundaryScopesRow = true := by
  unfold joinedFacts
  exact (and2 (and2 (and2 (and2 (and2 (and2 (and2 (and2 (and2 (and2 (and2 (and2 (and2 (and2 (and2 (and2 (and2 (and2 (and2 (and2 (and2 (and2 (and2 (and2 (and2 (and2 (and2 (and2 (and2 (and2 (and2 boundaryScopes_k0 boundaryScopes_k1) boundaryScopes_k2) boundaryScopes_k3) boundaryScopes_k4) boundaryScopes_k5) boundaryScopes_k6) boundaryScopes_k7) boundaryScopes_k8) boundaryScopes_k9) boundaryScopes_k10) boundaryScopes_k11) boundaryScopes_k12) boundaryScopes_k13) boundaryScopes_k14) boundaryScopes_k15) boundaryScopes_k16) boundaryScopes_k17) boundaryScopes_k18) boundaryScopes_k19) boundaryScopes_k20) boundaryScopes_k21) boundaryScopes_k22) boundaryScopes_k23) boundaryScopes_k24) boundaryScopes_k25) boundaryScopes_k26) boundaryScopes_k27) boundaryScopes_k28) boundaryScopes_k29) boundaryScopes_k30) boundaryScopes_k31)
end Go.Proofs.YtlneiohchomcfaaGreatDoor
