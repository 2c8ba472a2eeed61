/- Proved: semispacelaw21.ShadowCalls answers true at every input that the given statement lets in, and leaves its arguments as they were.
   Conditions: those of the given statement alone (its arguments are well formed and fit into memory; the listed package-level variable has its initial value). -/
import Derived.Test.YtgdhlnfcogcicaaGreatDoorTH
import Derived.Test.YtgdhlnfcogcicaaGreatDoorTG38
set_option linter.all false
namespace Go.Proofs.YtgdhlnfcogcicaaGreatDoor
open Go Go.Sx Go.ChangeShapes Go.WideShapes Go.ChangeAt Go.WideElems Go.RowKit
theorem args_8 {α : Type} {l : List α} {v0 v1 v2 v3 v4 v5 v6 v7 : α} (hl : l.length = 8) (h0 : l[0]? = some v0) (h1 : l[1]? = some v1) (h2 : l[2]? = some v2) (h3 : l[3]? = some v3) (h4 : l[4]? = some v4) (h5 : l[5]? = some v5) (h6 : l[6]? = some v6) (h7 : l[7]? = some v7) : l = [v0, v1, v2, v3, v4, v5, v6, v7] := by
  match l, hl with
  | [x0, x1, x2, x3, x4, x5, x6, x7], _ =>
    simp at h0 h1 h2 h3 h4 h5 h6 h7
    simp [h0, h1, h2, h3, h4, h5, h6, h7]
theorem len_8 {α : Type} {l : List α} (hl : l.length = 8) : ∃ x0 x1 x2 x3 x4 x5 x6 x7, l = [x0, x1, x2, x3, x4, x5, x6, x7] := by
  match l, hl with
  | [x0, x1, x2, x3, x4, x5, x6, x7], _ => exact ⟨x0, x1, x2, x3, x4, x5, x6, x7, rfl⟩
theorem ok_shadowCalls : ∀ t ∈ [36, 27, 27, 3, 37, 37, 37, 39], okS Tryz.prog 8 t = true := by decide +kernel
theorem read_shadowCalls : ∀ t ∈ Tryz.f3.params.toList, Tryz.prog.readableRec t = true ∧ t < Tryz.prog.types.size := by
  rw [Tryz.params3]
  exact Wu (by kernel_rfl)
set_option maxHeartbeats 8000000 in
set_option maxRecDepth 100000 in
theorem shadowCalls_lifted (os : Os) (started : os.Started) (H : Type) (enc : TypeId × Value → H) :
    ReturnsInHanded {} Tryz.checked os 3 .any (fun w args => (Rows.shadowCallsSpec.pre enc Tryz.prog Tryz.f3 [] false w args ∧ laidMetH Tryz.prog laidL w) ∧ sizedMet enc Tryz.prog Tryz.f3 (OpenSpec.ofChange Rows.shadowCallsSpec) false w args)
      (Rows.shadowCallsSpec.post enc Tryz.prog Tryz.f3 false true false false) := by
  refine returnsInHanded_of_change_and (C := Tryz.checked) (X := fun w _ => laidMetH Tryz.prog laidL w) (fun _ _ _ hh h => h.of_heap hh) own started (by kernel_rfl) Tryz.func3
    (ChangeSpec.witness_shaped (enc := enc) (C := Tryz.checked) (os := os) (X := fun w _ => laidMetH Tryz.prog laidL w) false (World.doorLaid Tryz.prog 400 os) #[.agg #[.int .i64 0, .int .i64 0, .slice none 0 0, .slice none 0 0, .slice none 0 0, .slice none 0 0, .slice none 0 0, .slice none 0 0, .slice none 0 0, .slice none 0 0], .slice none 0 0, .slice none 0 0, .int .i64 0, .int .u64 0, .int .u64 0, .int .u64 0, .agg #[.bool false, .bool false, .int .u64 0]] 8 rfl (World.shaped_of_RefB (by kernel_rfl) (by kernel_rfl)) (by kernel_rfl) (by kernel_rfl) (by kernel_rfl) (Xo6 os _)) ?_
  intro W base args ds gs before hval0 hW _ hz0 hL _
  have hval : ∀ (j : Nat) t v, Tryz.f3.params[j]? = some t → args[j]? = some v → Value.okWide Tryz.prog W .any base t v := hval0
  rw [Tryz.params3] at hval
  have hW2 := hW
  obtain ⟨p, q, hA0, hV, rfl, _, _⟩ := hW
  have hA : DataW.TrodAll enc Tryz.prog W 0 (fun _ => true) true [36, 27, 27, 3, 37, 37, 37, 39] args.toList ds p := hA0
  obtain ⟨rfl, rfl⟩ := trodVars_none hV
  have hts : (Tryz.f3.params.toList ++ DataSpec.varTypes Tryz.checked.prog Rows.shadowCallsSpec.plain) = [36, 27, 27, 3, 37, 37, 37, 39] := by kernel_rfl
  rw [hts, IE] at hz0
  have hz : ∀ x ∈ DataW.weightsEach Tryz.prog [36, 27, 27, 3, 37, 37, 37, 39] ds, x ≤ reachBytes := fun x hx => by simpa using Ur.1 hz0 x hx
  obtain ⟨dss, _, l2, l3⟩ := Xhr (P := Tryz.prog) 8 ok_shadowCalls hA hz
  obtain ⟨d0, v0, _, k0, s0, r0⟩ := l3 0 36 rfl
  obtain ⟨d1, v1, _, k1, s1, r1⟩ := l3 1 27 rfl
  obtain ⟨d2, v2, _, k2, s2, r2⟩ := l3 2 27 rfl
  obtain ⟨d3, v3, _, k3, s3, r3⟩ := l3 3 3 rfl
  obtain ⟨d4, v4, _, k4, s4, r4⟩ := l3 4 37 rfl
  obtain ⟨d5, v5, _, k5, s5, r5⟩ := l3 5 37 rfl
  obtain ⟨d6, v6, _, k6, s6, r6⟩ := l3 6 37 rfl
  obtain ⟨d7, v7, _, k7, s7, r7⟩ := l3 7 39 rfl
  obtain ⟨al⟩ := args
  obtain rfl := args_8 (l := al) l2 k0 k1 k2 k3 k4 k5 k6 k7
  obtain ⟨a0, rfl, t0⟩ := XpO _ _ s0
  have q0 := Xm5 Xoq (hval 0 36 v0 rfl rfl) r0
  obtain ⟨a1, rfl, _, t1⟩ := XoY _ _ s1
  have q1 := XnE Xok (hval 1 27 v1 rfl rfl) r1
  obtain ⟨a2, rfl, _, t2⟩ := XoY _ _ s2
  have q2 := XnE Xok (hval 2 27 v2 rfl rfl) r2
  obtain ⟨a3, rfl, t3⟩ := KT ty3 _ _ s3
  have q3 := Xo7 ty3 (hval 3 3 v3 rfl rfl) r3
  obtain ⟨a4, rfl, t4⟩ := XaD XfS _ _ s4
  have q4 := Xo7 XfS (hval 4 37 v4 rfl rfl) r4
  obtain ⟨a5, rfl, t5⟩ := XaD XfS _ _ s5
  have q5 := Xo7 XfS (hval 5 37 v5 rfl rfl) r5
  obtain ⟨a6, rfl, t6⟩ := XaD XfS _ _ s6
  have q6 := Xo7 XfS (hval 6 37 v6 rfl rfl) r6
  obtain ⟨a7, rfl, t7⟩ := XpP _ _ s7
  have q7 := Xm5 Xor (hval 7 39 v7 rfl rfl) r7
  have hr : RepL Tryz.prog (ZK W) Yg [.agg (e36 a0), .isl 3 1 (a1.map e3), .isl 3 1 (a2.map e3), .v (.int .i64 a3), .v (.int .u64 a4), .v (.int .u64 a5), .v (.int .u64 a6), .agg (e39 a7)] [v0, v1, v2, v3, v4, v5, v6, v7] := by
    simp only [RepL]
    exact ⟨_, _, rfl, q0, ⟨_, _, rfl, q1, ⟨_, _, rfl, q2, ⟨_, _, rfl, q3, ⟨_, _, rfl, q4, ⟨_, _, rfl, q5, ⟨_, _, rfl, q6, ⟨_, _, rfl, q7, rfl⟩⟩⟩⟩⟩⟩⟩⟩
  obtain ⟨N, hN⟩ := XgW a0 a1 a2 a3 a4 a5 a6 a7 hr.wf t0 t4 t5 t6 t7
  refine (XnD (OK.h GG gw _ hN) (Xph hL) hr).mono fun e W2 he => ?_
  obtain ⟨rfl, hB⟩ := he
  have hds : ds.length = 8 := by have := Xef hA; simpa using this
  obtain ⟨x0, x1, x2, x3, x4, x5, x6, x7, rfl⟩ := len_8 hds
  exact ⟨_, rfl, Xn4 (tb := 4) rfl (by kernel_rfl) (XdN ty4) Xpg read_shadowCalls hW2 rfl hB⟩
theorem and2 {a b : Bool} (h : a = true) (k : b = true) : (a && b) = true := by rw [h, k]; rfl
theorem shadowCalls_k0 : (Rows.shadowCallsRow.wf (OpenSpec.ofChange Rows.shadowCallsSpec)) = true := by kernel_rfl
theorem shadowCalls_k1 : (laidOutB Tryz.prog) = true := by kernel_rfl
theorem shadowCalls_k2 : (mapsRowed Tryz.prog) = true := by kernel_rfl
theorem shadowCalls_k3 : (Tryz.f3.params.all (Tryz.prog.readableRec ·)) = true := by kernel_rfl
theorem shadowCalls_k4 : (namedTie Tryz.prog Rows.shadowCallsRow.named Rows.shadowCallsSpec.vars) = true := by kernel_rfl
theorem shadowCalls_k5 : ((Rows.shadowCallsRow.stops == [])) = true := by kernel_rfl
theorem shadowCalls_k6 : ((Tryz.prog.stops == [])) = true := by kernel_rfl
theorem shadowCalls_k7 : ((Rows.shadowCallsRow.knobs == [])) = true := by kernel_rfl
theorem shadowCalls_k8 : ((Tryz.prog.stopKnobs == [])) = true := by kernel_rfl
theorem shadowCalls_k9 : ((Rows.shadowCallsRow.inPlace == Tryz.prog.inPlace 3)) = true := by kernel_rfl
theorem shadowCalls_k10 : ((Rows.shadowCallsRow.unfollowed == Tryz.prog.unfollowed 3)) = true := by kernel_rfl
theorem shadowCalls_k11 : ((Rows.shadowCallsRow.recurses == Tryz.prog.recurses 3)) = true := by kernel_rfl
theorem shadowCalls_k12 : ((Rows.shadowCallsRow.named == Tryz.prog.varsNamed 3)) = true := by kernel_rfl
theorem shadowCalls_k13 : ((Rows.shadowCallsRow.maps == (Tryz.f3.params.toList ++ Rows.shadowCallsSpec.plain.varTypes Tryz.prog).any (Tryz.prog.mapsRec ·))) = true := by kernel_rfl
theorem shadowCalls_k14 : ((Rows.shadowCallsRow.ifaces == (Tryz.f3.params.toList ++ Rows.shadowCallsSpec.plain.varTypes Tryz.prog).any (Tryz.prog.ifacesRec ·))) = true := by kernel_rfl
theorem shadowCalls_k15 : ((Rows.shadowCallsRow.mapsOut == Tryz.prog.mapsAmong Tryz.f3.resultTypes.toList)) = true := by kernel_rfl
theorem shadowCalls_k16 : ((Rows.shadowCallsRow.loops == (Tryz.f3.params.toList ++ Rows.shadowCallsSpec.plain.varTypes Tryz.prog).any (Tryz.prog.loopsFrom ·))) = true := by kernel_rfl
theorem shadowCalls_k17 : ((Rows.shadowCallsRow.wideKeys == (Tryz.f3.params.toList ++ Rows.shadowCallsSpec.plain.varTypes Tryz.prog ++ Tryz.f3.resultTypes.toList).any (Tryz.prog.wideKeysFrom ·))) = true := by kernel_rfl
theorem shadowCalls_k18 : (Rows.shadowCallsSpec.vars.all (Tryz.prog.varReadable ·)) = true := by kernel_rfl
theorem shadowCalls_k19 : (Tryz.f3.resultTypes.all (fun t => Tryz.prog.readableRec t && decide (t < Tryz.prog.types.size))) = true := by kernel_rfl
theorem shadowCalls_k20 : ((Rows.shadowCallsRow.ifacesOut == Tryz.f3.resultTypes.toList.any (Tryz.prog.ifacesRec ·))) = true := by kernel_rfl
theorem shadowCalls_k21 : ((Rows.shadowCallsRow.loopsOut == Tryz.f3.resultTypes.toList.any (Tryz.prog.loopsFrom ·))) = true := by kernel_rfl
theorem shadowCalls_k22 : ((Rows.shadowCallsRow.plainKeys == Tryz.prog.plainKeys)) = true := by kernel_rfl
theorem shadowCalls_k23 : (Rows.shadowCallsRow.shortTexts.isNone) = true := by kernel_rfl
theorem shadowCalls_k24 : (Tryz.prog.stopsHeard) = true := by kernel_rfl
theorem shadowCalls_k25 : (Tryz.prog.mayEnter) = true := by kernel_rfl
theorem shadowCalls_k26 : ((Rows.shadowCallsRow.lifted == Tryz.prog.liftsFinal)) = true := by kernel_rfl
theorem shadowCalls_k27 : ((Tryz.prog.make == some Rows.shadowCallsRow.make)) = true := by kernel_rfl
theorem shadowCalls_k28 : ((Rows.shadowCallsRow.kinds == (if Rows.shadowCallsRow.domain.isEmpty then [] else Tryz.f3.params.toList.map fun t => match Tryz.prog.underlying t with | some (.int k) => some k | _ => none))) = true := by kernel_rfl
theorem shadowCalls_k29 : ((Rows.shadowCallsRow.pinned == Rows.shadowCallsRow.pinnedBy)) = true := by kernel_rfl
theorem shadowCalls_k30 : ((Rows.shadowCallsRow.veiled == (Tryz.f3.params.toList ++ Rows.shadowCallsSpec.plain.varTypes Tryz.prog ++ Tryz.f3.resultTypes.toList).any (Tryz.prog.veiledRec ·))) = true := by kernel_rfl
theorem shadowCalls_k31 : (Rows.shadowCallsRow.veiledFits Tryz.prog Tryz.f3.params.toList (Tryz.f3.params.toList ++ Rows.shadowCallsSpec.plain.varTypes Tryz.prog ++ Tryz.f3.resultTypes.toList)) = true := by kernel_rfl
set_option maxRecDepth 100000 in
theorem shadowCalls_closed : joinedFacts Tryz.prog 3 Tryz.f3 Rows.shadowCallsSpec Rows.shadowCallsRow = true := by
  unfold joinedFacts
  exact (and2 (and2 (and2 (and2 (and2 (and2 (and2 (and2 (and2 (and2 (and2 (and2 (and2 (and2 (and2 (and2 (and2 (and2 (and2 (and2 (and2 (and2 (and2 (and2 (and2 (and2 (and2 (and2 (and2 (and2 (and2 shadowCalls_k0 shadowCalls_k1) shadowCalls_k2) shadowCalls_k3) shadowCalls_k4) shadowCalls_k5) shadowCalls_k6) shadowCalls_k7) shadowCalls_k8) shadowCalls_k9) shadowCalls_k10) shadowCalls_k11) shadowCalls_k12) shadowCalls_k13) shadowCalls_k14) shadowCalls_k15) shadowCalls_k16) shadowCalls_k17) shadowCalls_k18) shadowCalls_k19) shadowCalls_k20) shadowCalls_k21) shadowCalls_k22) shadowCalls_k23) shadowCalls_k24) shadowCalls_k25) shadowCalls_k26) shadowCalls_k27) shadowCalls_k28) shadowCalls_k29) shadowCalls_k30) shadowCalls_k31)
theorem shadowCalls_row : Rows.ShadowCallsSaid :=
  OpenClaim.holds_of_wide 3 Tryz.f3 rfl rfl rfl rfl rfl rfl rfl ⟨rfl, rfl, rfl, rfl, rfl⟩ rfl rfl rfl rfl rfl (by kernel_rfl) Tryz.func3 shadowCalls_closed
    (Wu (by kernel_rfl)) (by unfold Func.isWrapper; first | (rw [Wn (by decide +kernel)]; kernel_rfl) | (rw [Wh (by decide +kernel)]; exact ⟨rfl, rfl⟩))
    (fun os started H enc _ => shadowCalls_lifted os started H enc)
theorem shadowCalls_holds : Rows.ShadowCallsCardSaid :=
  Claim7.holds_tied_plain_at .later [] [.widerDeep] true Rows.shadowCallsCard.stood.harness false
    shadowCalls_row (fun _ h => by cases h) (by kernel_rfl) (fun _ h => by cases h) shadowCalls_row_tie rfl ⟨rfl, rfl⟩ (by kernel_rfl) rfl
    (fun f fn hf hfn => by
      obtain rfl : f = 3 := Ww ((show Tryz.prog.funcNamed Rows.shadowCallsRow.func = some 3 by kernel_rfl).symm.trans hf) |>.symm
      obtain rfl : fn = Tryz.f3 := (Ww (Tryz.func3.symm.trans hfn)).symm
      exact ⟨by kernel_rfl, fun j t ht => by
        rw [Tryz.params3] at ht
        have hm : t ∈ [36, 27, 27, 3, 37, 37, 37, 39] := by simpa using Array.mem_of_getElem? ht
        have hall : ([36, 27, 27, 3, 37, 37, 37, 39].all fun u => !Tryz.prog.wantsStandIn u) = true := by kernel_rfl
        exact (show Tryz.prog.wantsStandIn t = false by simpa using Ur.1 hall t hm)⟩)
    (by kernel_rfl)
#print axioms shadowCalls_holds
end Go.Proofs.YtgdhlnfcogcicaaGreatDoor
