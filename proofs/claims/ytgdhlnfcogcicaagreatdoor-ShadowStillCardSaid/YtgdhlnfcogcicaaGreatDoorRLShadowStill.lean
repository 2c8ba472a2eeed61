/- Proved: semispacelaw21.ShadowStill answers true at every input that the given statement lets in, and leaves its arguments as they were.
   Conditions: those of the given statement alone (its arguments are well formed and fit into memory; the listed package-level variable has its initial value). -/
import Derived.Test.YtgdhlnfcogcicaaGreatDoorRH
import Derived.Test.YtgdhlnfcogcicaaGreatDoorRG32
set_option linter.all false
namespace Go.Proofs.YtgdhlnfcogcicaaGreatDoor
open Go Go.Sx Go.ChangeShapes Go.WideShapes Go.ChangeAt Go.WideElems Go.RowKit
theorem args_2 {α : Type} {l : List α} {v0 v1 : α} (hl : l.length = 2) (h0 : l[0]? = some v0) (h1 : l[1]? = some v1) : l = [v0, v1] := by
  match l, hl with
  | [x0, x1], _ =>
    simp at h0 h1
    simp [h0, h1]
theorem len_2 {α : Type} {l : List α} (hl : l.length = 2) : ∃ x0 x1, l = [x0, x1] := by
  match l, hl with
  | [x0, x1], _ => exact ⟨x0, x1, rfl⟩
theorem ok_shadowStill : ∀ t ∈ [27, 27], okS Tryz.prog 8 t = true := by decide +kernel
theorem read_shadowStill : ∀ t ∈ Tryz.f4.params.toList, Tryz.prog.readableRec t = true ∧ t < Tryz.prog.types.size := by
  rw [Tryz.params4]
  exact of_decide_eq_true (by kernel_rfl)
set_option maxHeartbeats 8000000 in
set_option maxRecDepth 100000 in
theorem shadowStill_lifted (os : Os) (started : os.Started) (H : Type) (enc : TypeId × Value → H) :
    ReturnsInHanded {} Tryz.checked os 4 .any (fun w args => (Rows.shadowStillSpec.pre enc Tryz.prog Tryz.f4 [] false w args ∧ laidMetH Tryz.prog laidL w) ∧ sizedMet enc Tryz.prog Tryz.f4 (OpenSpec.ofChange Rows.shadowStillSpec) false w args)
      (Rows.shadowStillSpec.post enc Tryz.prog Tryz.f4 false true false false) := by
  refine returnsInHanded_of_change_and (C := Tryz.checked) (X := fun w _ => laidMetH Tryz.prog laidL w) (fun _ _ _ hh h => h.of_heap hh) own started (by kernel_rfl) Tryz.func4
    (ChangeSpec.witness_shaped (enc := enc) (C := Tryz.checked) (os := os) (X := fun w _ => laidMetH Tryz.prog laidL w) false (World.doorLaid Tryz.prog 400 os) #[.slice none 0 0, .slice none 0 0] 8 rfl (World.shaped_of_RefB (by kernel_rfl) (by kernel_rfl)) (by kernel_rfl) (by kernel_rfl) (by kernel_rfl) (door_met os _)) ?_
  intro W base args ds gs before hval0 hW _ hz0 hL _
  have hval : ∀ (j : Nat) t v, Tryz.f4.params[j]? = some t → args[j]? = some v → Value.okWide Tryz.prog W .any base t v := hval0
  rw [Tryz.params4] at hval
  have hW2 := hW
  obtain ⟨p, q, hA0, hV, rfl, _, _⟩ := hW
  have hA : DataW.TrodAll enc Tryz.prog W 0 (fun _ => true) true [27, 27] args.toList ds p := hA0
  obtain ⟨rfl, rfl⟩ := trodVars_none hV
  have hts : (Tryz.f4.params.toList ++ DataSpec.varTypes Tryz.checked.prog Rows.shadowStillSpec.plain) = [27, 27] := by kernel_rfl
  rw [hts, List.append_nil] at hz0
  have hz : ∀ x ∈ DataW.weightsEach Tryz.prog [27, 27] ds, x ≤ reachBytes := fun x hx => by simpa using List.all_eq_true.1 hz0 x hx
  obtain ⟨dss, _, l2, l3⟩ := open_args (P := Tryz.prog) 8 ok_shadowStill hA hz
  obtain ⟨d0, v0, _, k0, s0, r0⟩ := l3 0 27 rfl
  obtain ⟨d1, v1, _, k1, s1, r1⟩ := l3 1 27 rfl
  obtain ⟨al⟩ := args
  obtain rfl := args_2 (l := al) l2 k0 k1
  obtain ⟨a0, rfl, _, t0⟩ := sh_27 _ _ s0
  have q0 := arg_slice ty27 (hval 0 27 v0 rfl rfl) r0
  obtain ⟨a1, rfl, _, t1⟩ := sh_27 _ _ s1
  have q1 := arg_slice ty27 (hval 1 27 v1 rfl rfl) r1
  have hr : RepL Tryz.prog (memAll W) loc0 [.isl 3 1 (a0.map e3), .isl 3 1 (a1.map e3)] [v0, v1] := by
    simp only [RepL]
    exact ⟨_, _, rfl, q0, ⟨_, _, rfl, q1, rfl⟩⟩
  obtain ⟨N, hN⟩ := shadowStill_plain a0 a1 hr.wf 
  refine (calls_law (OK.h GG gw _ hN) (of_laid hL) hr).mono fun e W2 he => ?_
  obtain ⟨rfl, hB⟩ := he
  have hds : ds.length = 2 := by have := trodAll_len hA; simpa using this
  obtain ⟨x0, x1, rfl⟩ := len_2 hds
  exact ⟨_, rfl, law_post (tb := 4) rfl (by kernel_rfl) (und_bool ty4) laidOut read_shadowStill hW2 rfl hB⟩
theorem and2 {a b : Bool} (h : a = true) (k : b = true) : (a && b) = true := by rw [h, k]; rfl
theorem shadowStill_k0 : (Rows.shadowStillRow.wf (OpenSpec.ofChange Rows.shadowStillSpec)) = true := by kernel_rfl
theorem shadowStill_k1 : (laidOutB Tryz.prog) = true := by kernel_rfl
theorem shadowStill_k2 : (mapsRowed Tryz.prog) = true := by kernel_rfl
theorem shadowStill_k3 : (Tryz.f4.params.all (Tryz.prog.readableRec ·)) = true := by kernel_rfl
theorem shadowStill_k4 : (namedTie Tryz.prog Rows.shadowStillRow.named Rows.shadowStillSpec.vars) = true := by kernel_rfl
theorem shadowStill_k5 : ((Rows.shadowStillRow.stops == [])) = true := by kernel_rfl
theorem shadowStill_k6 : ((Tryz.prog.stops == [])) = true := by kernel_rfl
theorem shadowStill_k7 : ((Rows.shadowStillRow.knobs == [])) = true := by kernel_rfl
theorem shadowStill_k8 : ((Tryz.prog.stopKnobs == [])) = true := by kernel_rfl
theorem shadowStill_k9 : ((Rows.shadowStillRow.inPlace == Tryz.prog.inPlace 4)) = true := by kernel_rfl
theorem shadowStill_k10 : ((Rows.shadowStillRow.unfollowed == Tryz.prog.unfollowed 4)) = true := by kernel_rfl
theorem shadowStill_k11 : ((Rows.shadowStillRow.recurses == Tryz.prog.recurses 4)) = true := by kernel_rfl
theorem shadowStill_k12 : ((Rows.shadowStillRow.named == Tryz.prog.varsNamed 4)) = true := by kernel_rfl
theorem shadowStill_k13 : ((Rows.shadowStillRow.maps == (Tryz.f4.params.toList ++ Rows.shadowStillSpec.plain.varTypes Tryz.prog).any (Tryz.prog.mapsRec ·))) = true := by kernel_rfl
theorem shadowStill_k14 : ((Rows.shadowStillRow.ifaces == (Tryz.f4.params.toList ++ Rows.shadowStillSpec.plain.varTypes Tryz.prog).any (Tryz.prog.ifacesRec ·))) = true := by kernel_rfl
theorem shadowStill_k15 : ((Rows.shadowStillRow.mapsOut == Tryz.prog.mapsAmong Tryz.f4.resultTypes.toList)) = true := by kernel_rfl
theorem shadowStill_k16 : ((Rows.shadowStillRow.loops == (Tryz.f4.params.toList ++ Rows.shadowStillSpec.plain.varTypes Tryz.prog).any (Tryz.prog.loopsFrom ·))) = true := by kernel_rfl
theorem shadowStill_k17 : ((Rows.shadowStillRow.wideKeys == (Tryz.f4.params.toList ++ Rows.shadowStillSpec.plain.varTypes Tryz.prog ++ Tryz.f4.resultTypes.toList).any (Tryz.prog.wideKeysFrom ·))) = true := by kernel_rfl
theorem shadowStill_k18 : (Rows.shadowStillSpec.vars.all (Tryz.prog.varReadable ·)) = true := by kernel_rfl
theorem shadowStill_k19 : (Tryz.f4.resultTypes.all (fun t => Tryz.prog.readableRec t && decide (t < Tryz.prog.types.size))) = true := by kernel_rfl
theorem shadowStill_k20 : ((Rows.shadowStillRow.ifacesOut == Tryz.f4.resultTypes.toList.any (Tryz.prog.ifacesRec ·))) = true := by kernel_rfl
theorem shadowStill_k21 : ((Rows.shadowStillRow.loopsOut == Tryz.f4.resultTypes.toList.any (Tryz.prog.loopsFrom ·))) = true := by kernel_rfl
theorem shadowStill_k22 : ((Rows.shadowStillRow.plainKeys == Tryz.prog.plainKeys)) = true := by kernel_rfl
theorem shadowStill_k23 : (Rows.shadowStillRow.shortTexts.isNone) = true := by kernel_rfl
theorem shadowStill_k24 : (Tryz.prog.stopsHeard) = true := by kernel_rfl
theorem shadowStill_k25 : (Tryz.prog.mayEnter) = true := by kernel_rfl
theorem shadowStill_k26 : ((Rows.shadowStillRow.lifted == Tryz.prog.liftsFinal)) = true := by kernel_rfl
theorem shadowStill_k27 : ((Tryz.prog.make == some Rows.shadowStillRow.make)) = true := by kernel_rfl
theorem shadowStill_k28 : ((Rows.shadowStillRow.kinds == (if Rows.shadowStillRow.domain.isEmpty then [] else Tryz.f4.params.toList.map fun t => match Tryz.prog.underlying t with | some (.int k) => some k | _ => none))) = true := by kernel_rfl
theorem shadowStill_k29 : ((Rows.shadowStillRow.pinned == Rows.shadowStillRow.pinnedBy)) = true := by kernel_rfl
theorem shadowStill_k30 : ((Rows.shadowStillRow.veiled == (Tryz.f4.params.toList ++ Rows.shadowStillSpec.plain.varTypes Tryz.prog ++ Tryz.f4.resultTypes.toList).any (Tryz.prog.veiledRec ·))) = true := by kernel_rfl
theorem shadowStill_k31 : (Rows.shadowStillRow.veiledFits Tryz.prog Tryz.f4.params.toList (Tryz.f4.params.toList ++ Rows.shadowStillSpec.plain.varTypes Tryz.prog ++ Tryz.f4.resultTypes.toList)) = true := by kernel_rfl
set_option maxRecDepth 100000 in
theorem shadowStill_closed : joinedFacts Tryz.prog 4 Tryz.f4 Rows.shadowStillSpec Rows.shadowStillRow = true := by
  unfold joinedFacts
  exact (and2 (and2 (and2 (and2 (and2 (and2 (and2 (and2 (and2 (and2 (and2 (and2 (and2 (and2 (and2 (and2 (and2 (and2 (and2 (and2 (and2 (and2 (and2 (and2 (and2 (and2 (and2 (and2 (and2 (and2 (and2 shadowStill_k0 shadowStill_k1) shadowStill_k2) shadowStill_k3) shadowStill_k4) shadowStill_k5) shadowStill_k6) shadowStill_k7) shadowStill_k8) shadowStill_k9) shadowStill_k10) shadowStill_k11) shadowStill_k12) shadowStill_k13) shadowStill_k14) shadowStill_k15) shadowStill_k16) shadowStill_k17) shadowStill_k18) shadowStill_k19) shadowStill_k20) shadowStill_k21) shadowStill_k22) shadowStill_k23) shadowStill_k24) shadowStill_k25) shadowStill_k26) shadowStill_k27) shadowStill_k28) shadowStill_k29) shadowStill_k30) shadowStill_k31)
theorem shadowStill_row : Rows.ShadowStillSaid :=
  OpenClaim.holds_of_wide 4 Tryz.f4 rfl rfl rfl rfl rfl rfl rfl ⟨rfl, rfl, rfl, rfl, rfl⟩ rfl rfl rfl rfl rfl (by kernel_rfl) Tryz.func4 shadowStill_closed
    (of_decide_eq_true (by kernel_rfl)) (by unfold Func.isWrapper; first | (rw [if_pos (by decide +kernel)]; kernel_rfl) | (rw [if_neg (by decide +kernel)]; exact ⟨rfl, rfl⟩))
    (fun os started H enc _ => shadowStill_lifted os started H enc)
theorem shadowStill_holds : Rows.ShadowStillCardSaid :=
  Claim7.holds_tied_plain_at .later [] [.widerDeep] true Rows.shadowStillCard.stood.harness false
    shadowStill_row (fun _ h => by cases h) (by kernel_rfl) (fun _ h => by cases h) shadowStill_row_tie rfl ⟨rfl, rfl⟩ (by kernel_rfl) rfl
    (fun f fn hf hfn => by
      obtain rfl : f = 4 := Option.some.inj ((show Tryz.prog.funcNamed Rows.shadowStillRow.func = some 4 by kernel_rfl).symm.trans hf) |>.symm
      obtain rfl : fn = Tryz.f4 := (Option.some.inj (Tryz.func4.symm.trans hfn)).symm
      exact ⟨by kernel_rfl, fun j t ht => by
        rw [Tryz.params4] at ht
        have hm : t ∈ [27, 27] := by simpa using Array.mem_of_getElem? ht
        have hall : ([27, 27].all fun u => !Tryz.prog.wantsStandIn u) = true := by kernel_rfl
        exact (show Tryz.prog.wantsStandIn t = false by simpa using List.all_eq_true.1 hall t hm)⟩)
    (by kernel_rfl)
#print axioms shadowStill_holds
end Go.Proofs.YtgdhlnfcogcicaaGreatDoor
