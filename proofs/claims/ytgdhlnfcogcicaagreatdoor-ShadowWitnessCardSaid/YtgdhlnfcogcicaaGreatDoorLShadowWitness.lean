/- Proved: semispacelaw21.ShadowWitness answers true at every input that the given statement lets in, and leaves its arguments as they were.
   Conditions: those of the given statement alone (its arguments are well formed and fit into memory; the listed package-level variable has its initial value). -/
import Derived.Test.YtgdhlnfcogcicaaGreatDoorH
import Derived.Test.YtgdhlnfcogcicaaGreatDoorG13
set_option linter.all false
namespace Go.Proofs.YtgdhlnfcogcicaaGreatDoor
open Go Go.Sx Go.ChangeShapes Go.WideShapes Go.ChangeAt Go.WideElems Go.RowKit
theorem args_5 {α : Type} {l : List α} {v0 v1 v2 v3 v4 : α} (hl : l.length = 5) (h0 : l[0]? = some v0) (h1 : l[1]? = some v1) (h2 : l[2]? = some v2) (h3 : l[3]? = some v3) (h4 : l[4]? = some v4) : l = [v0, v1, v2, v3, v4] := by
  match l, hl with
  | [x0, x1, x2, x3, x4], _ =>
    simp at h0 h1 h2 h3 h4
    simp [h0, h1, h2, h3, h4]
theorem len_5 {α : Type} {l : List α} (hl : l.length = 5) : ∃ x0 x1 x2 x3 x4, l = [x0, x1, x2, x3, x4] := by
  match l, hl with
  | [x0, x1, x2, x3, x4], _ => exact ⟨x0, x1, x2, x3, x4, rfl⟩
theorem ok_shadowWitness : ∀ t ∈ [45, 45, 3, 37, 3], okS Tryz.prog 8 t = true := by decide +kernel
theorem read_shadowWitness : ∀ t ∈ Tryz.f6.params.toList, Tryz.prog.readableRec t = true ∧ t < Tryz.prog.types.size := by
  rw [Tryz.params6]
  exact of_decide_eq_true (by kernel_rfl)
set_option maxHeartbeats 8000000 in
set_option maxRecDepth 100000 in
theorem shadowWitness_lifted (os : Os) (started : os.Started) (H : Type) (enc : TypeId × Value → H) :
    ReturnsInHanded {} Tryz.checked os 6 .any (fun w args => (Rows.shadowWitnessSpec.pre enc Tryz.prog Tryz.f6 [] false w args ∧ laidMetH Tryz.prog laidL w) ∧ sizedMet enc Tryz.prog Tryz.f6 (OpenSpec.ofChange Rows.shadowWitnessSpec) false w args)
      (Rows.shadowWitnessSpec.post enc Tryz.prog Tryz.f6 false true false false) := by
  refine returnsInHanded_of_change_and (C := Tryz.checked) (X := fun w _ => laidMetH Tryz.prog laidL w) (fun _ _ _ hh h => h.of_heap hh) own started (by kernel_rfl) Tryz.func6
    (ChangeSpec.witness_shaped (enc := enc) (C := Tryz.checked) (os := os) (X := fun w _ => laidMetH Tryz.prog laidL w) false (World.doorLaid Tryz.prog 400 os) #[.agg #[.int .i64 0, .int .i64 0, .slice none 0 0, .slice none 0 0, .int .i64 0, .int .i64 0, .slice none 0 0, .slice none 0 0, .slice none 0 0, .slice none 0 0, .slice none 0 0, .slice none 0 0, .slice none 0 0], .agg #[.int .i64 0, .int .i64 0, .slice none 0 0, .slice none 0 0, .int .i64 0, .int .i64 0, .slice none 0 0, .slice none 0 0, .slice none 0 0, .slice none 0 0, .slice none 0 0, .slice none 0 0, .slice none 0 0], .int .i64 0, .int .u64 0, .int .i64 0] 8 rfl (World.shaped_of_RefB (by kernel_rfl) (by kernel_rfl)) (by kernel_rfl) (by kernel_rfl) (by kernel_rfl) (door_met os _)) ?_
  intro W base args ds gs before hval0 hW _ hz0 hL _
  have hval : ∀ (j : Nat) t v, Tryz.f6.params[j]? = some t → args[j]? = some v → Value.okWide Tryz.prog W .any base t v := hval0
  rw [Tryz.params6] at hval
  have hW2 := hW
  obtain ⟨p, q, hA0, hV, rfl, _, _⟩ := hW
  have hA : DataW.TrodAll enc Tryz.prog W 0 (fun _ => true) true [45, 45, 3, 37, 3] args.toList ds p := hA0
  obtain ⟨rfl, rfl⟩ := trodVars_none hV
  have hts : (Tryz.f6.params.toList ++ DataSpec.varTypes Tryz.checked.prog Rows.shadowWitnessSpec.plain) = [45, 45, 3, 37, 3] := by kernel_rfl
  rw [hts, List.append_nil] at hz0
  have hz : ∀ x ∈ DataW.weightsEach Tryz.prog [45, 45, 3, 37, 3] ds, x ≤ reachBytes := fun x hx => by simpa using List.all_eq_true.1 hz0 x hx
  obtain ⟨dss, _, l2, l3⟩ := open_args (P := Tryz.prog) 8 ok_shadowWitness hA hz
  obtain ⟨d0, v0, _, k0, s0, r0⟩ := l3 0 45 rfl
  obtain ⟨d1, v1, _, k1, s1, r1⟩ := l3 1 45 rfl
  obtain ⟨d2, v2, _, k2, s2, r2⟩ := l3 2 3 rfl
  obtain ⟨d3, v3, _, k3, s3, r3⟩ := l3 3 37 rfl
  obtain ⟨d4, v4, _, k4, s4, r4⟩ := l3 4 3 rfl
  obtain ⟨al⟩ := args
  obtain rfl := args_5 (l := al) l2 k0 k1 k2 k3 k4
  obtain ⟨a0, rfl, t0⟩ := sh_45 _ _ s0
  have q0 := arg_struct ty45 (hval 0 45 v0 rfl rfl) r0
  obtain ⟨a1, rfl, t1⟩ := sh_45 _ _ s1
  have q1 := arg_struct ty45 (hval 1 45 v1 rfl rfl) r1
  obtain ⟨a2, rfl, t2⟩ := sh_i64 ty3 _ _ s2
  have q2 := arg_int ty3 (hval 2 3 v2 rfl rfl) r2
  obtain ⟨a3, rfl, t3⟩ := sh_u64 ty37 _ _ s3
  have q3 := arg_int ty37 (hval 3 37 v3 rfl rfl) r3
  obtain ⟨a4, rfl, t4⟩ := sh_i64 ty3 _ _ s4
  have q4 := arg_int ty3 (hval 4 3 v4 rfl rfl) r4
  have hr : RepL Tryz.prog (memAll W) loc0 [.agg (e45 a0), .agg (e45 a1), .v (.int .i64 a2), .v (.int .u64 a3), .v (.int .i64 a4)] [v0, v1, v2, v3, v4] := by
    simp only [RepL]
    exact ⟨_, _, rfl, q0, ⟨_, _, rfl, q1, ⟨_, _, rfl, q2, ⟨_, _, rfl, q3, ⟨_, _, rfl, q4, rfl⟩⟩⟩⟩⟩
  obtain ⟨N, hN⟩ := shadowWitness_plain a0 a1 a2 a3 a4 hr.wf 
  refine (calls_law (OK.h GG gw _ hN) (of_laid hL) hr).mono fun e W2 he => ?_
  obtain ⟨rfl, hB⟩ := he
  have hds : ds.length = 5 := by have := trodAll_len hA; simpa using this
  obtain ⟨x0, x1, x2, x3, x4, rfl⟩ := len_5 hds
  exact ⟨_, rfl, law_post (tb := 4) rfl (by kernel_rfl) (und_bool ty4) laidOut read_shadowWitness hW2 rfl hB⟩
theorem and2 {a b : Bool} (h : a = true) (k : b = true) : (a && b) = true := by rw [h, k]; rfl
theorem shadowWitness_k0 : (Rows.shadowWitnessRow.wf (OpenSpec.ofChange Rows.shadowWitnessSpec)) = true := by kernel_rfl
theorem shadowWitness_k1 : (laidOutB Tryz.prog) = true := by kernel_rfl
theorem shadowWitness_k2 : (mapsRowed Tryz.prog) = true := by kernel_rfl
theorem shadowWitness_k3 : (Tryz.f6.params.all (Tryz.prog.readableRec ·)) = true := by kernel_rfl
theorem shadowWitness_k4 : (namedTie Tryz.prog Rows.shadowWitnessRow.named Rows.shadowWitnessSpec.vars) = true := by kernel_rfl
theorem shadowWitness_k5 : ((Rows.shadowWitnessRow.stops == [])) = true := by kernel_rfl
theorem shadowWitness_k6 : ((Tryz.prog.stops == [])) = true := by kernel_rfl
theorem shadowWitness_k7 : ((Rows.shadowWitnessRow.knobs == [])) = true := by kernel_rfl
theorem shadowWitness_k8 : ((Tryz.prog.stopKnobs == [])) = true := by kernel_rfl
theorem shadowWitness_k9 : ((Rows.shadowWitnessRow.inPlace == Tryz.prog.inPlace 6)) = true := by kernel_rfl
theorem shadowWitness_k10 : ((Rows.shadowWitnessRow.unfollowed == Tryz.prog.unfollowed 6)) = true := by kernel_rfl
theorem shadowWitness_k11 : ((Rows.shadowWitnessRow.recurses == Tryz.prog.recurses 6)) = true := by kernel_rfl
theorem shadowWitness_k12 : ((Rows.shadowWitnessRow.named == Tryz.prog.varsNamed 6)) = true := by kernel_rfl
theorem shadowWitness_k13 : ((Rows.shadowWitnessRow.maps == (Tryz.f6.params.toList ++ Rows.shadowWitnessSpec.plain.varTypes Tryz.prog).any (Tryz.prog.mapsRec ·))) = true := by kernel_rfl
theorem shadowWitness_k14 : ((Rows.shadowWitnessRow.ifaces == (Tryz.f6.params.toList ++ Rows.shadowWitnessSpec.plain.varTypes Tryz.prog).any (Tryz.prog.ifacesRec ·))) = true := by kernel_rfl
theorem shadowWitness_k15 : ((Rows.shadowWitnessRow.mapsOut == Tryz.prog.mapsAmong Tryz.f6.resultTypes.toList)) = true := by kernel_rfl
theorem shadowWitness_k16 : ((Rows.shadowWitnessRow.loops == (Tryz.f6.params.toList ++ Rows.shadowWitnessSpec.plain.varTypes Tryz.prog).any (Tryz.prog.loopsFrom ·))) = true := by kernel_rfl
theorem shadowWitness_k17 : ((Rows.shadowWitnessRow.wideKeys == (Tryz.f6.params.toList ++ Rows.shadowWitnessSpec.plain.varTypes Tryz.prog ++ Tryz.f6.resultTypes.toList).any (Tryz.prog.wideKeysFrom ·))) = true := by kernel_rfl
theorem shadowWitness_k18 : (Rows.shadowWitnessSpec.vars.all (Tryz.prog.varReadable ·)) = true := by kernel_rfl
theorem shadowWitness_k19 : (Tryz.f6.resultTypes.all (fun t => Tryz.prog.readableRec t && decide (t < Tryz.prog.types.size))) = true := by kernel_rfl
theorem shadowWitness_k20 : ((Rows.shadowWitnessRow.ifacesOut == Tryz.f6.resultTypes.toList.any (Tryz.prog.ifacesRec ·))) = true := by kernel_rfl
theorem shadowWitness_k21 : ((Rows.shadowWitnessRow.loopsOut == Tryz.f6.resultTypes.toList.any (Tryz.prog.loopsFrom ·))) = true := by kernel_rfl
theorem shadowWitness_k22 : ((Rows.shadowWitnessRow.plainKeys == Tryz.prog.plainKeys)) = true := by kernel_rfl
theorem shadowWitness_k23 : (Rows.shadowWitnessRow.shortTexts.isNone) = true := by kernel_rfl
theorem shadowWitness_k24 : (Tryz.prog.stopsHeard) = true := by kernel_rfl
theorem shadowWitness_k25 : (Tryz.prog.mayEnter) = true := by kernel_rfl
theorem shadowWitness_k26 : ((Rows.shadowWitnessRow.lifted == Tryz.prog.liftsFinal)) = true := by kernel_rfl
theorem shadowWitness_k27 : ((Tryz.prog.make == some Rows.shadowWitnessRow.make)) = true := by kernel_rfl
theorem shadowWitness_k28 : ((Rows.shadowWitnessRow.kinds == (if Rows.shadowWitnessRow.domain.isEmpty then [] else Tryz.f6.params.toList.map fun t => match Tryz.prog.underlying t with | some (.int k) => some k | _ => none))) = true := by kernel_rfl
theorem shadowWitness_k29 : ((Rows.shadowWitnessRow.pinned == Rows.shadowWitnessRow.pinnedBy)) = true := by kernel_rfl
theorem shadowWitness_k30 : ((Rows.shadowWitnessRow.veiled == (Tryz.f6.params.toList ++ Rows.shadowWitnessSpec.plain.varTypes Tryz.prog ++ Tryz.f6.resultTypes.toList).any (Tryz.prog.veiledRec ·))) = true := by kernel_rfl
theorem shadowWitness_k31 : (Rows.shadowWitnessRow.veiledFits Tryz.prog Tryz.f6.params.toList (Tryz.f6.params.toList ++ Rows.shadowWitnessSpec.plain.varTypes Tryz.prog ++ Tryz.f6.resultTypes.toList)) = true := by kernel_rfl
set_option maxRecDepth 100000 in
theorem shadowWitness_closed : joinedFacts Tryz.prog 6 Tryz.f6 Rows.shadowWitnessSpec Rows.shadowWitnessRow = true := by
  unfold joinedFacts
  exact (and2 (and2 (and2 (and2 (and2 (and2 (and2 (and2 (and2 (and2 (and2 (and2 (and2 (and2 (and2 (and2 (and2 (and2 (and2 (and2 (and2 (and2 (and2 (and2 (and2 (and2 (and2 (and2 (and2 (and2 (and2 shadowWitness_k0 shadowWitness_k1) shadowWitness_k2) shadowWitness_k3) shadowWitness_k4) shadowWitness_k5) shadowWitness_k6) shadowWitness_k7) shadowWitness_k8) shadowWitness_k9) shadowWitness_k10) shadowWitness_k11) shadowWitness_k12) shadowWitness_k13) shadowWitness_k14) shadowWitness_k15) shadowWitness_k16) shadowWitness_k17) shadowWitness_k18) shadowWitness_k19) shadowWitness_k20) shadowWitness_k21) shadowWitness_k22) shadowWitness_k23) shadowWitness_k24) shadowWitness_k25) shadowWitness_k26) shadowWitness_k27) shadowWitness_k28) shadowWitness_k29) shadowWitness_k30) shadowWitness_k31)
theorem shadowWitness_row : Rows.ShadowWitnessSaid :=
  OpenClaim.holds_of_wide 6 Tryz.f6 rfl rfl rfl rfl rfl rfl rfl ⟨rfl, rfl, rfl, rfl, rfl⟩ rfl rfl rfl rfl rfl (by kernel_rfl) Tryz.func6 shadowWitness_closed
    (of_decide_eq_true (by kernel_rfl)) (by unfold Func.isWrapper; first | (rw [if_pos (by decide +kernel)]; kernel_rfl) | (rw [if_neg (by decide +kernel)]; exact ⟨rfl, rfl⟩))
    (fun os started H enc _ => shadowWitness_lifted os started H enc)
theorem shadowWitness_holds : Rows.ShadowWitnessCardSaid :=
  Claim7.holds_tied_plain_at .later [] [.widerDeep] true Rows.shadowWitnessCard.stood.harness false
    shadowWitness_row (fun _ h => by cases h) (by kernel_rfl) (fun _ h => by cases h) shadowWitness_row_tie rfl ⟨rfl, rfl⟩ (by kernel_rfl) rfl
    (fun f fn hf hfn => by
      obtain rfl : f = 6 := Option.some.inj ((show Tryz.prog.funcNamed Rows.shadowWitnessRow.func = some 6 by kernel_rfl).symm.trans hf) |>.symm
      obtain rfl : fn = Tryz.f6 := (Option.some.inj (Tryz.func6.symm.trans hfn)).symm
      exact ⟨by kernel_rfl, fun j t ht => by
        rw [Tryz.params6] at ht
        have hm : t ∈ [45, 45, 3, 37, 3] := by simpa using Array.mem_of_getElem? ht
        have hall : ([45, 45, 3, 37, 3].all fun u => !Tryz.prog.wantsStandIn u) = true := by kernel_rfl
        exact (show Tryz.prog.wantsStandIn t = false by simpa using List.all_eq_true.1 hall t hm)⟩)
    (by kernel_rfl)
#print axioms shadowWitness_holds
end Go.Proofs.YtgdhlnfcogcicaaGreatDoor
