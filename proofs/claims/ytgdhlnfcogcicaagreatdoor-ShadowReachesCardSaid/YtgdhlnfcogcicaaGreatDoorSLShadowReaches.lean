/- Proved: semispacelaw21.ShadowReaches answers true at every input that the given statement lets in, and leaves its arguments as they were.
   Conditions: those of the given statement alone (its arguments are well formed and fit into memory; the listed package-level variable has its initial value). -/
import Derived.Test.YtgdhlnfcogcicaaGreatDoorSH
import Derived.Test.YtgdhlnfcogcicaaGreatDoorSG31
set_option linter.all false
namespace Go.Proofs.YtgdhlnfcogcicaaGreatDoor
open Go Go.Sx Go.ChangeShapes Go.WideShapes Go.ChangeAt Go.WideElems Go.RowKit
theorem args_4 {α : Type} {l : List α} {v0 v1 v2 v3 : α} (hl : l.length = 4) (h0 : l[0]? = some v0) (h1 : l[1]? = some v1) (h2 : l[2]? = some v2) (h3 : l[3]? = some v3) : l = [v0, v1, v2, v3] := by
  match l, hl with
  | [x0, x1, x2, x3], _ =>
    simp at h0 h1 h2 h3
    simp [h0, h1, h2, h3]
theorem len_4 {α : Type} {l : List α} (hl : l.length = 4) : ∃ x0 x1 x2 x3, l = [x0, x1, x2, x3] := by
  match l, hl with
  | [x0, x1, x2, x3], _ => exact ⟨x0, x1, x2, x3, rfl⟩
theorem ok_shadowReaches : ∀ t ∈ [36, 27, 27, 23], okS Tryz.prog 8 t = true := by decide +kernel
theorem read_shadowReaches : ∀ t ∈ Tryz.f5.params.toList, Tryz.prog.readableRec t = true ∧ t < Tryz.prog.types.size := by
  rw [Tryz.params5]
  exact of_decide_eq_true (by kernel_rfl)
set_option maxHeartbeats 8000000 in
set_option maxRecDepth 100000 in
theorem shadowReaches_lifted (os : Os) (started : os.Started) (H : Type) (enc : TypeId × Value → H) :
    ReturnsInHanded {} Tryz.checked os 5 .any (fun w args => (Rows.shadowReachesSpec.pre enc Tryz.prog Tryz.f5 [] false w args ∧ laidMetH Tryz.prog laidL w) ∧ sizedMet enc Tryz.prog Tryz.f5 (OpenSpec.ofChange Rows.shadowReachesSpec) false w args)
      (Rows.shadowReachesSpec.post enc Tryz.prog Tryz.f5 false true false false) := by
  refine returnsInHanded_of_change_and (C := Tryz.checked) (X := fun w _ => laidMetH Tryz.prog laidL w) (fun _ _ _ hh h => h.of_heap hh) own started (by kernel_rfl) Tryz.func5
    (ChangeSpec.witness_shaped (enc := enc) (C := Tryz.checked) (os := os) (X := fun w _ => laidMetH Tryz.prog laidL w) false (World.doorLaid Tryz.prog 400 os) #[.agg #[.int .i64 0, .int .i64 0, .slice none 0 0, .slice none 0 0, .slice none 0 0, .slice none 0 0, .slice none 0 0, .slice none 0 0, .slice none 0 0, .slice none 0 0], .slice none 0 0, .slice none 0 0, .agg #[.int .i64 0, .int .i64 0]] 8 rfl (World.shaped_of_RefB (by kernel_rfl) (by kernel_rfl)) (by kernel_rfl) (by kernel_rfl) (by kernel_rfl) (door_met os _)) ?_
  intro W base args ds gs before hval0 hW _ hz0 hL _
  have hval : ∀ (j : Nat) t v, Tryz.f5.params[j]? = some t → args[j]? = some v → Value.okWide Tryz.prog W .any base t v := hval0
  rw [Tryz.params5] at hval
  have hW2 := hW
  obtain ⟨p, q, hA0, hV, rfl, _, _⟩ := hW
  have hA : DataW.TrodAll enc Tryz.prog W 0 (fun _ => true) true [36, 27, 27, 23] args.toList ds p := hA0
  obtain ⟨rfl, rfl⟩ := trodVars_none hV
  have hts : (Tryz.f5.params.toList ++ DataSpec.varTypes Tryz.checked.prog Rows.shadowReachesSpec.plain) = [36, 27, 27, 23] := by kernel_rfl
  rw [hts, List.append_nil] at hz0
  have hz : ∀ x ∈ DataW.weightsEach Tryz.prog [36, 27, 27, 23] ds, x ≤ reachBytes := fun x hx => by simpa using List.all_eq_true.1 hz0 x hx
  obtain ⟨dss, _, l2, l3⟩ := open_args (P := Tryz.prog) 8 ok_shadowReaches hA hz
  obtain ⟨d0, v0, _, k0, s0, r0⟩ := l3 0 36 rfl
  obtain ⟨d1, v1, _, k1, s1, r1⟩ := l3 1 27 rfl
  obtain ⟨d2, v2, _, k2, s2, r2⟩ := l3 2 27 rfl
  obtain ⟨d3, v3, _, k3, s3, r3⟩ := l3 3 23 rfl
  obtain ⟨al⟩ := args
  obtain rfl := args_4 (l := al) l2 k0 k1 k2 k3
  obtain ⟨a0, rfl, t0⟩ := sh_36 _ _ s0
  have q0 := arg_struct ty36 (hval 0 36 v0 rfl rfl) r0
  obtain ⟨a1, rfl, _, t1⟩ := sh_27 _ _ s1
  have q1 := arg_slice ty27 (hval 1 27 v1 rfl rfl) r1
  obtain ⟨a2, rfl, _, t2⟩ := sh_27 _ _ s2
  have q2 := arg_slice ty27 (hval 2 27 v2 rfl rfl) r2
  obtain ⟨a3, rfl, t3⟩ := sh_23 _ _ s3
  have q3 := arg_struct ty23 (hval 3 23 v3 rfl rfl) r3
  have hr : RepL Tryz.prog (memAll W) loc0 [.agg (e36 a0), .isl 3 1 (a1.map e3), .isl 3 1 (a2.map e3), .agg (e23 a3)] [v0, v1, v2, v3] := by
    simp only [RepL]
    exact ⟨_, _, rfl, q0, ⟨_, _, rfl, q1, ⟨_, _, rfl, q2, ⟨_, _, rfl, q3, rfl⟩⟩⟩⟩
  obtain ⟨N, hN⟩ := shadowReaches_plain a0 a1 a2 a3 hr.wf t0
  refine (calls_law (OK.h GG gw _ hN) (of_laid hL) hr).mono fun e W2 he => ?_
  obtain ⟨rfl, hB⟩ := he
  have hds : ds.length = 4 := by have := trodAll_len hA; simpa using this
  obtain ⟨x0, x1, x2, x3, rfl⟩ := len_4 hds
  exact ⟨_, rfl, law_post (tb := 4) rfl (by kernel_rfl) (und_bool ty4) laidOut read_shadowReaches hW2 rfl hB⟩
theorem and2 {a b : Bool} (h : a = true) (k : b = true) : (a && b) = true := by rw [h, k]; rfl
theorem shadowReaches_k0 : (Rows.shadowReachesRow.wf (OpenSpec.ofChange Rows.shadowReachesSpec)) = true := by kernel_rfl
theorem shadowReaches_k1 : (laidOutB Tryz.prog) = true := by kernel_rfl
theorem shadowReaches_k2 : (mapsRowed Tryz.prog) = true := by kernel_rfl
theorem shadowReaches_k3 : (Tryz.f5.params.all (Tryz.prog.readableRec ·)) = true := by kernel_rfl
theorem shadowReaches_k4 : (namedTie Tryz.prog Rows.shadowReachesRow.named Rows.shadowReachesSpec.vars) = true := by kernel_rfl
theorem shadowReaches_k5 : ((Rows.shadowReachesRow.stops == [])) = true := by kernel_rfl
theorem shadowReaches_k6 : ((Tryz.prog.stops == [])) = true := by kernel_rfl
theorem shadowReaches_k7 : ((Rows.shadowReachesRow.knobs == [])) = true := by kernel_rfl
theorem shadowReaches_k8 : ((Tryz.prog.stopKnobs == [])) = true := by kernel_rfl
theorem shadowReaches_k9 : ((Rows.shadowReachesRow.inPlace == Tryz.prog.inPlace 5)) = true := by kernel_rfl
theorem shadowReaches_k10 : ((Rows.shadowReachesRow.unfollowed == Tryz.prog.unfollowed 5)) = true := by kernel_rfl
theorem shadowReaches_k11 : ((Rows.shadowReachesRow.recurses == Tryz.prog.recurses 5)) = true := by kernel_rfl
theorem shadowReaches_k12 : ((Rows.shadowReachesRow.named == Tryz.prog.varsNamed 5)) = true := by kernel_rfl
theorem shadowReaches_k13 : ((Rows.shadowReachesRow.maps == (Tryz.f5.params.toList ++ Rows.shadowReachesSpec.plain.varTypes Tryz.prog).any (Tryz.prog.mapsRec ·))) = true := by kernel_rfl
theorem shadowReaches_k14 : ((Rows.shadowReachesRow.ifaces == (Tryz.f5.params.toList ++ Rows.shadowReachesSpec.plain.varTypes Tryz.prog).any (Tryz.prog.ifacesRec ·))) = true := by kernel_rfl
theorem shadowReaches_k15 : ((Rows.shadowReachesRow.mapsOut == Tryz.prog.mapsAmong Tryz.f5.resultTypes.toList)) = true := by kernel_rfl
theorem shadowReaches_k16 : ((Rows.shadowReachesRow.loops == (Tryz.f5.params.toList ++ Rows.shadowReachesSpec.plain.varTypes Tryz.prog).any (Tryz.prog.loopsFrom ·))) = true := by kernel_rfl
theorem shadowReaches_k17 : ((Rows.shadowReachesRow.wideKeys == (Tryz.f5.params.toList ++ Rows.shadowReachesSpec.plain.varTypes Tryz.prog ++ Tryz.f5.resultTypes.toList).any (Tryz.prog.wideKeysFrom ·))) = true := by kernel_rfl
theorem shadowReaches_k18 : (Rows.shadowReachesSpec.vars.all (Tryz.prog.varReadable ·)) = true := by kernel_rfl
theorem shadowReaches_k19 : (Tryz.f5.resultTypes.all (fun t => Tryz.prog.readableRec t && decide (t < Tryz.prog.types.size))) = true := by kernel_rfl
theorem shadowReaches_k20 : ((Rows.shadowReachesRow.ifacesOut == Tryz.f5.resultTypes.toList.any (Tryz.prog.ifacesRec ·))) = true := by kernel_rfl
theorem shadowReaches_k21 : ((Rows.shadowReachesRow.loopsOut == Tryz.f5.resultTypes.toList.any (Tryz.prog.loopsFrom ·))) = true := by kernel_rfl
theorem shadowReaches_k22 : ((Rows.shadowReachesRow.plainKeys == Tryz.prog.plainKeys)) = true := by kernel_rfl
theorem shadowReaches_k23 : (Rows.shadowReachesRow.shortTexts.isNone) = true := by kernel_rfl
theorem shadowReaches_k24 : (Tryz.prog.stopsHeard) = true := by kernel_rfl
theorem shadowReaches_k25 : (Tryz.prog.mayEnter) = true := by kernel_rfl
theorem shadowReaches_k26 : ((Rows.shadowReachesRow.lifted == Tryz.prog.liftsFinal)) = true := by kernel_rfl
theorem shadowReaches_k27 : ((Tryz.prog.make == some Rows.shadowReachesRow.make)) = true := by kernel_rfl
theorem shadowReaches_k28 : ((Rows.shadowReachesRow.kinds == (if Rows.shadowReachesRow.domain.isEmpty then [] else Tryz.f5.params.toList.map fun t => match Tryz.prog.underlying t with | some (.int k) => some k | _ => none))) = true := by kernel_rfl
theorem shadowReaches_k29 : ((Rows.shadowReachesRow.pinned == Rows.shadowReachesRow.pinnedBy)) = true := by kernel_rfl
theorem shadowReaches_k30 : ((Rows.shadowReachesRow.veiled == (Tryz.f5.params.toList ++ Rows.shadowReachesSpec.plain.varTypes Tryz.prog ++ Tryz.f5.resultTypes.toList).any (Tryz.prog.veiledRec ·))) = true := by kernel_rfl
theorem shadowReaches_k31 : (Rows.shadowReachesRow.veiledFits Tryz.prog Tryz.f5.params.toList (Tryz.f5.params.toList ++ Rows.shadowReachesSpec.plain.varTypes Tryz.prog ++ Tryz.f5.resultTypes.toList)) = true := by kernel_rfl
set_option maxRecDepth 100000 in
theorem shadowReaches_closed : joinedFacts Tryz.prog 5 Tryz.f5 Rows.shadowReachesSpec Rows.shadowReachesRow = true := by
  unfold joinedFacts
  exact (and2 (and2 (and2 (and2 (and2 (and2 (and2 (and2 (and2 (and2 (and2 (and2 (and2 (and2 (and2 (and2 (and2 (and2 (and2 (and2 (and2 (and2 (and2 (and2 (and2 (and2 (and2 (and2 (and2 (and2 (and2 shadowReaches_k0 shadowReaches_k1) shadowReaches_k2) shadowReaches_k3) shadowReaches_k4) shadowReaches_k5) shadowReaches_k6) shadowReaches_k7) shadowReaches_k8) shadowReaches_k9) shadowReaches_k10) shadowReaches_k11) shadowReaches_k12) shadowReaches_k13) shadowReaches_k14) shadowReaches_k15) shadowReaches_k16) shadowReaches_k17) shadowReaches_k18) shadowReaches_k19) shadowReaches_k20) shadowReaches_k21) shadowReaches_k22) shadowReaches_k23) shadowReaches_k24) shadowReaches_k25) shadowReaches_k26) shadowReaches_k27) shadowReaches_k28) shadowReaches_k29) shadowReaches_k30) shadowReaches_k31)
theorem shadowReaches_row : Rows.ShadowReachesSaid :=
  OpenClaim.holds_of_wide 5 Tryz.f5 rfl rfl rfl rfl rfl rfl rfl ⟨rfl, rfl, rfl, rfl, rfl⟩ rfl rfl rfl rfl rfl (by kernel_rfl) Tryz.func5 shadowReaches_closed
    (of_decide_eq_true (by kernel_rfl)) (by unfold Func.isWrapper; first | (rw [if_pos (by decide +kernel)]; kernel_rfl) | (rw [if_neg (by decide +kernel)]; exact ⟨rfl, rfl⟩))
    (fun os started H enc _ => shadowReaches_lifted os started H enc)
theorem shadowReaches_holds : Rows.ShadowReachesCardSaid :=
  Claim7.holds_tied_plain_at .later [] [.widerDeep] true Rows.shadowReachesCard.stood.harness false
    shadowReaches_row (fun _ h => by cases h) (by kernel_rfl) (fun _ h => by cases h) shadowReaches_row_tie rfl ⟨rfl, rfl⟩ (by kernel_rfl) rfl
    (fun f fn hf hfn => by
      obtain rfl : f = 5 := Option.some.inj ((show Tryz.prog.funcNamed Rows.shadowReachesRow.func = some 5 by kernel_rfl).symm.trans hf) |>.symm
      obtain rfl : fn = Tryz.f5 := (Option.some.inj (Tryz.func5.symm.trans hfn)).symm
      exact ⟨by kernel_rfl, fun j t ht => by
        rw [Tryz.params5] at ht
        have hm : t ∈ [36, 27, 27, 23] := by simpa using Array.mem_of_getElem? ht
        have hall : ([36, 27, 27, 23].all fun u => !Tryz.prog.wantsStandIn u) = true := by kernel_rfl
        exact (show Tryz.prog.wantsStandIn t = false by simpa using List.all_eq_true.1 hall t hm)⟩)
    (by kernel_rfl)
#print axioms shadowReaches_holds
end Go.Proofs.YtgdhlnfcogcicaaGreatDoor
