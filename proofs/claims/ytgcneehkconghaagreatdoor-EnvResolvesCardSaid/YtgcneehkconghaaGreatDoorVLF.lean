import Derived.Test.YtgcneehkconghaaGreatDoorVH
set_option linter.all false
namespace Go.Proofs.YtgcneehkconghaaGreatDoor
open Go Go.Sx Go.ChangeShapes Go.WideShapes Go.ChangeAt Go.WideElems Go.RowKit
theorem and2 {a b : Bool} (h : a = true) (k : b = true) : (a && b) = true := by rw [h, k]; rfl
theorem envResolves_k0 : (Rows.envResolvesRow.wf (OpenSpec.ofChange Rows.envResolvesSpec)) = true := by kernel_rfl
theorem envResolves_k1 : (laidOutB Tryz.prog) = true := by kernel_rfl
theorem envResolves_k2 : (mapsRowed Tryz.prog) = true := by kernel_rfl
theorem envResolves_k3 : (Tryz.f3.params.all (Tryz.prog.readableRec ·)) = true := by kernel_rfl
theorem envResolves_k4 : (namedTie Tryz.prog Rows.envResolvesRow.named Rows.envResolvesSpec.vars) = true := by kernel_rfl
theorem envResolves_k5 : ((Rows.envResolvesRow.stops == [])) = true := by kernel_rfl
theorem envResolves_k6 : ((Tryz.prog.stops == [])) = true := by kernel_rfl
theorem envResolves_k7 : ((Rows.envResolvesRow.knobs == [])) = true := by kernel_rfl
theorem envResolves_k8 : ((Tryz.prog.stopKnobs == [])) = true := by kernel_rfl
theorem envResolves_k9 : ((Rows.envResolvesRow.inPlace == Tryz.prog.inPlace 3)) = true := by kernel_rfl
theorem envResolves_k10 : ((Rows.envResolvesRow.unfollowed == Tryz.prog.unfollowed 3)) = true := by kernel_rfl
theorem envResolves_k11 : ((Rows.envResolvesRow.recurses == Tryz.prog.recurses 3)) = true := by kernel_rfl
theorem envResolves_k12 : ((Rows.envResolvesRow.named == Tryz.prog.varsNamed 3)) = true := by kernel_rfl
theorem envResolves_k13 : ((Rows.envResolvesRow.maps == (Tryz.f3.params.toList ++ Rows.envResolvesSpec.plain.varTypes Tryz.prog).any (Tryz.prog.mapsRec ·))) = true := by kernel_rfl
theorem envResolves_k14 : ((Rows.envResolvesRow.ifaces == (Tryz.f3.params.toList ++ Rows.envResolvesSpec.plain.varTypes Tryz.prog).any (Tryz.prog.ifacesRec ·))) = true := by kernel_rfl
theorem envResolves_k15 : ((Rows.envResolvesRow.mapsOut == Tryz.prog.mapsAmong Tryz.f3.resultTypes.toList)) = true := by kernel_rfl
theorem envResolves_k16 : ((Rows.envResolvesRow.loops == (Tryz.f3.params.toList ++ Rows.envResolvesSpec.plain.varTypes Tryz.prog).any (Tryz.prog.loopsFrom ·))) = true := by kernel_rfl
theorem envResolves_k17 : ((Rows.envResolvesRow.wideKeys == (Tryz.f3.params.toList ++ Rows.envResolvesSpec.plain.varTypes Tryz.prog ++ Tryz.f3.resultTypes.toList).any (Tryz.prog.wideKeysFrom ·))) = true := by kernel_rfl
theorem envResolves_k18 : (Rows.envResolvesSpec.vars.all (Tryz.prog.varReadable ·)) = true := by kernel_rfl
theorem envResolves_k19 : (Tryz.f3.resultTypes.all (fun t => Tryz.prog.readableRec t && decide (t < Tryz.prog.types.size))) = true := by kernel_rfl
theorem envResolves_k20 : ((Rows.envResolvesRow.ifacesOut == Tryz.f3.resultTypes.toList.any (Tryz.prog.ifacesRec ·))) = true := by kernel_rfl
theorem envResolves_k21 : ((Rows.envResolvesRow.loopsOut == Tryz.f3.resultTypes.toList.any (Tryz.prog.loopsFrom ·))) = true := by kernel_rfl
theorem envResolves_k22 : ((Rows.envResolvesRow.plainKeys == Tryz.prog.plainKeys)) = true := by kernel_rfl
theorem envResolves_k23 : (Rows.envResolvesRow.shortTexts.isNone) = true := by kernel_rfl
theorem envResolves_k24 : (Tryz.prog.stopsHeard) = true := by kernel_rfl
theorem envResolves_k25 : (Tryz.prog.mayEnter) = true := by kernel_rfl
theorem envResolves_k26 : ((Rows.envResolvesRow.lifted == Tryz.prog.liftsFinal)) = true := by kernel_rfl
theorem envResolves_k27 : ((Tryz.prog.make == some Rows.envResolvesRow.make)) = true := by kernel_rfl
theorem envResolves_k28 : ((Rows.envResolvesRow.kinds == (if Rows.envResolvesRow.domain.isEmpty then [] else Tryz.f3.params.toList.map fun t => match Tryz.prog.underlying t with | some (.int k) => some k | _ => none))) = true := by kernel_rfl
theorem envResolves_k29 : ((Rows.envResolvesRow.pinned == Rows.envResolvesRow.pinnedBy)) = true := by kernel_rfl
theorem envResolves_k30 : ((Rows.envResolvesRow.veiled == (Tryz.f3.params.toList ++ Rows.envResolvesSpec.plain.varTypes Tryz.prog ++ Tryz.f3.resultTypes.toList).any (Tryz.prog.veiledRec ·))) = true := by kernel_rfl
theorem envResolves_k31 : (Rows.envResolvesRow.veiledFits Tryz.prog Tryz.f3.params.toList (Tryz.f3.params.toList ++ Rows.envResolvesSpec.plain.varTypes Tryz.prog ++ Tryz.f3.resultTypes.toList)) = true := by kernel_rfl
set_option maxRecDepth 100000 in
theorem envResolves_closed : joinedFacts Tryz.prog 3 Tryz.f3 Rows.envResolvesSpec Rows.envResolvesRow = true := by
  unfold joinedFacts
  exact (and2 (and2 (and2 (and2 (and2 (and2 (and2 (and2 (and2 (and2 (and2 (and2 (and2 (and2 (and2 (and2 (and2 (and2 (and2 (and2 (and2 (and2 (and2 (and2 (and2 (and2 (and2 (and2 (and2 (and2 (and2 envResolves_k0 envResolves_k1) envResolves_k2) envResolves_k3) envResolves_k4) envResolves_k5) envResolves_k6) envResolves_k7) envResolves_k8) envResolves_k9) envResolves_k10) envResolves_k11) envResolves_k12) envResolves_k13) envResolves_k14) envResolves_k15) envResolves_k16) envResolves_k17) envResolves_k18) envResolves_k19) envResolves_k20) envResolves_k21) envResolves_k22) envResolves_k23) envResolves_k24) envResolves_k25) envResolves_k26) envResolves_k27) envResolves_k28) envResolves_k29) envResolves_k30) envResolves_k31)
end Go.Proofs.YtgcneehkconghaaGreatDoor
