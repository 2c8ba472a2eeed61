import Derived.Test.YtgcneehkconghaaGreatDoorBH
set_option linter.all false
namespace Go.Proofs.YtgcneehkconghaaGreatDoor
open Go Go.Sx Go.ChangeShapes Go.WideShapes Go.ChangeAt Go.WideElems Go.RowKit
theorem and2 {a b : Bool} (h : a = true) (k : b = true) : (a && b) = true := by rw [h, k]; rfl
theorem boundaryReads_k0 : (Rows.boundaryReadsRow.wf (OpenSpec.ofChange Rows.boundaryReadsSpec)) = true := by kernel_rfl
theorem boundaryReads_k1 : (laidOutB Tryz.prog) = true := by kernel_rfl
theorem boundaryReads_k2 : (mapsRowed Tryz.prog) = true := by kernel_rfl
theorem boundaryReads_k3 : (Tryz.f4.params.all (Tryz.prog.readableRec ·)) = true := by kernel_rfl
theorem boundaryReads_k4 : (namedTie Tryz.prog Rows.boundaryReadsRow.named Rows.boundaryReadsSpec.vars) = true := by kernel_rfl
theorem boundaryReads_k5 : ((Rows.boundaryReadsRow.stops == [])) = true := by kernel_rfl
theorem boundaryReads_k6 : ((Tryz.prog.stops == [])) = true := by kernel_rfl
theorem boundaryReads_k7 : ((Rows.boundaryReadsRow.knobs == [])) = true := by kernel_rfl
theorem boundaryReads_k8 : ((Tryz.prog.stopKnobs == [])) = true := by kernel_rfl
theorem boundaryReads_k9 : ((Rows.boundaryReadsRow.inPlace == Tryz.prog.inPlace 4)) = true := by kernel_rfl
theorem boundaryReads_k10 : ((Rows.boundaryReadsRow.unfollowed == Tryz.prog.unfollowed 4)) = true := by kernel_rfl
theorem boundaryReads_k11 : ((Rows.boundaryReadsRow.recurses == Tryz.prog.recurses 4)) = true := by kernel_rfl
theorem boundaryReads_k12 : ((Rows.boundaryReadsRow.named == Tryz.prog.varsNamed 4)) = true := by kernel_rfl
theorem boundaryReads_k13 : ((Rows.boundaryReadsRow.maps == (Tryz.f4.params.toList ++ Rows.boundaryReadsSpec.plain.varTypes Tryz.prog).any (Tryz.prog.mapsRec ·))) = true := by kernel_rfl
theorem boundaryReads_k14 : ((Rows.boundaryReadsRow.ifaces == (Tryz.f4.params.toList ++ Rows.boundaryReadsSpec.plain.varTypes Tryz.prog).any (Tryz.prog.ifacesRec ·))) = true := by kernel_rfl
theorem boundaryReads_k15 : ((Rows.boundaryReadsRow.mapsOut == Tryz.prog.mapsAmong Tryz.f4.resultTypes.toList)) = true := by kernel_rfl
theorem boundaryReads_k16 : ((Rows.boundaryReadsRow.loops == (Tryz.f4.params.toList ++ Rows.boundaryReadsSpec.plain.varTypes Tryz.prog).any (Tryz.prog.loopsFrom ·))) = true := by kernel_rfl
theorem boundaryReads_k17 : ((Rows.boundaryReadsRow.wideKeys == (Tryz.f4.params.toList ++ Rows.boundaryReadsSpec.plain.varTypes Tryz.prog ++ Tryz.f4.resultTypes.toList).any (Tryz.prog.wideKeysFrom ·))) = true := by kernel_rfl
theorem boundaryReads_k18 : (Rows.boundaryReadsSpec.vars.all (Tryz.prog.varReadable ·)) = true := by kernel_rfl
theorem boundaryReads_k19 : (Tryz.f4.resultTypes.all (fun t => Tryz.prog.readableRec t && decide (t < Tryz.prog.types.size))) = true := by kernel_rfl
theorem boundaryReads_k20 : ((Rows.boundaryReadsRow.ifacesOut == Tryz.f4.resultTypes.toList.any (Tryz.prog.ifacesRec ·))) = true := by kernel_rfl
theorem boundaryReads_k21 : ((Rows.boundaryReadsRow.loopsOut == Tryz.f4.resultTypes.toList.any (Tryz.prog.loopsFrom ·))) = true := by kernel_rfl
theorem boundaryReads_k22 : ((Rows.boundaryReadsRow.plainKeys == Tryz.prog.plainKeys)) = true := by kernel_rfl
theorem boundaryReads_k23 : (Rows.boundaryReadsRow.shortTexts.isNone) = true := by kernel_rfl
theorem boundaryReads_k24 : (Tryz.prog.stopsHeard) = true := by kernel_rfl
theorem boundaryReads_k25 : (Tryz.prog.mayEnter) = true := by kernel_rfl
theorem boundaryReads_k26 : ((Rows.boundaryReadsRow.lifted == Tryz.prog.liftsFinal)) = true := by kernel_rfl
theorem boundaryReads_k27 : ((Tryz.prog.make == some Rows.boundaryReadsRow.make)) = true := by kernel_rfl
theorem boundaryReads_k28 : ((Rows.boundaryReadsRow.kinds == (if Rows.boundaryReadsRow.domain.isEmpty then [] else Tryz.f4.params.toList.map fun t => match Tryz.prog.underlying t with | some (.int k) => some k | _ => none))) = true := by kernel_rfl
theorem boundaryReads_k29 : ((Rows.boundaryReadsRow.pinned == Rows.boundaryReadsRow.pinnedBy)) = true := by kernel_rfl
theorem boundaryReads_k30 : ((Rows.boundaryReadsRow.veiled == (Tryz.f4.params.toList ++ Rows.boundaryReadsSpec.plain.varTypes Tryz.prog ++ Tryz.f4.resultTypes.toList).any (Tryz.prog.veiledRec ·))) = true := by kernel_rfl
theorem boundaryReads_k31 : (Rows.boundaryReadsRow.veiledFits Tryz.prog Tryz.f4.params.toList (Tryz.f4.params.toList ++ Rows.boundaryReadsSpec.plain.varTypes Tryz.prog ++ Tryz.f4.resultTypes.toList)) = true := by kernel_rfl
set_option maxRecDepth 100000 in
theorem boundaryReads_closed : joinedFacts Tryz.prog 4 Tryz.f4 Rows.boundaryReadsSpec Rows.boundaryReadsRow = true := by
  unfold joinedFacts
  exact (and2 (and2 (and2 (and2 (and2 (and2 (and2 (and2 (and2 (and2 (and2 (and2 (and2 (and2 (and2 (and2 (and2 (and2 (and2 (and2 (and2 (and2 (and2 (and2 (and2 (and2 (and2 (and2 (and2 (and2 (and2 boundaryReads_k0 boundaryReads_k1) boundaryReads_k2) boundaryReads_k3) boundaryReads_k4) boundaryReads_k5) boundaryReads_k6) boundaryReads_k7) boundaryReads_k8) boundaryReads_k9) boundaryReads_k10) boundaryReads_k11) boundaryReads_k12) boundaryReads_k13) boundaryReads_k14) boundaryReads_k15) boundaryReads_k16) boundaryReads_k17) boundaryReads_k18) boundaryReads_k19) boundaryReads_k20) boundaryReads_k21) boundaryReads_k22) boundaryReads_k23) boundaryReads_k24) boundaryReads_k25) boundaryReads_k26) boundaryReads_k27) boundaryReads_k28) boundaryReads_k29) boundaryReads_k30) boundaryReads_k31)
end Go.Proofs.YtgcneehkconghaaGreatDoor
