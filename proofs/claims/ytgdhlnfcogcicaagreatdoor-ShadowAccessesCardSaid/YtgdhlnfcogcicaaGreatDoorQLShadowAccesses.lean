/- Proved: semispacelaw21.ShadowAccesses answers true at every input that the given statement lets in, and leaves its arguments as they were.
   Conditions: those of the given statement alone (its arguments are well formed and fit into memory; the listed package-level variable has its initial value). -/
import Derived.Test.YtgdhlnfcogcicaaGreatDoorQH
import Derived.Test.YtgdhlnfcogcicaaGreatDoorQG30
set_option linter.all false
namespace Go.Proofs.YtgdhlnfcogcicaaGreatDoor
open Go Go.Sx Go.ChangeShapes Go.WideShapes Go.ChangeAt Go.WideElems Go.RowKit
theorem args_5 {α : Type} {l : List α} {v0 v1 v2 v3 v4 : α} (hl : l.length = 5) (h0 : l[0]? = some v0) (h1 : l[1]? = some v1) (h2 : l[2]? = some v2) (h3 : l[3]? = some v3) (h4 : l[4]? = some v4) : l = [v0, v1, v2, v3, v4] := by
  match l, hl with
  | [x0, x1, x2, x3, x4], _ =>
    simp at h0 h1 h2 h3 h4
    simp [h0, h1, h2, h3, h4]
theorem len_5 {α : Type} {l : List α} (hl : l.length = 5) : ∃ x0 x1 x2 x3 x4, l = [x0, x1, x2, x3, x4] := by
  match l, hl with
  | [x0, x1, x2, x3, x4], _ => exact ⟨x0, x1, x2, x3, x4, rfl⟩
theorem ok_shadowAccesses : ∀ t ∈ [36, 27, 27, 37, 37], okS Tryz.prog 8 t = true := by decide +kernel
theorem read_shadowAccesses : ∀ t ∈ Tryz.f7.params.toList, Tryz.prog.readableRec t = true ∧ t < Tryz.prog.types.size := by
  rw [Tryz.params7]
  exact of_decide_eq_true (by kernel_rfl)
set_option maxHeartbeats 8000000 in
set_option maxRecDepth 100000 in
theorem shadowAccesses_lifted (os : Os) (started : os.Started) (H : Type) (enc : TypeId × Value → H) :
    ReturnsInHanded {} Tryz.checked os 7 .any (fun w args => (Rows.shadowAccessesSpec.pre enc Tryz.prog Tryz.f7 [] false w args ∧ laidMetH Tryz.prog laidL w) ∧ sizedMet enc Tryz.prog Tryz.f7 (OpenSpec.ofChange Rows.shadowAccessesSpec) false w args)
      (Rows.shadowAccessesSpec.post enc Tryz.prog Tryz.f7 false true false false) := by
  refine returnsInHanded_of_change_and (C := Tryz.checked) (X := fun w _ => laidMetH Tryz.prog laidL w) (fun _ _ _ hh h => h.of_heap hh) own started (by kernel_rfl) Tryz.func7
    (ChangeSpec.witness_shaped (enc := enc) (C := Tryz.checked) (os := os) (X := fun w _ => laidMetH Tryz.prog laidL w) false (World.doorLaid Tryz.prog 400 os) #[.agg #[.int .i64 0, .int .i64 0, .slice none 0 0, .slice none 0 0, .slice none 0 0, .slice none 0 0, .slice none 0 0, .slice none 0 0, .slice none 0 0, .slice none 0 0], .slice none 0 0, .slice none 0 0, .int .u64 0, .int .u64 0] 8 rfl (World.shaped_of_RefB (by kernel_rfl) (by kernel_rfl)) (by kernel_rfl) (by kernel_rfl) (by kernel_rfl) (door_met os _)) ?_
  intro W base args ds gs before hval0 hW _ hz0 hL _
  have hval : ∀ (j : Nat) t v, Tryz.f7.params[j]? = some t → args[j]? = some v → Value.okWide Tryz.prog W .any base t v := hval0
  rw [Tryz.params7] at hval
  have hW2 := hW
  obtain ⟨p, q, hA0, hV, rfl, _, _⟩ := hW
  have hA : DataW.TrodAll enc Tryz.prog W 0 (fun _ => true) true [36, 27, 27, 37, 37] args.toList ds p := hA0
  obtain ⟨rfl, rfl⟩ := trodVars_none hV
  have hts : (Tryz.f7.params.toList ++ DataSpec.varTypes Tryz.checked.prog Rows.shadowAccessesSpec.plain) = [36, 27, 27, 37, 37] := by kernel_rfl
  rw [hts, List.append_nil] at hz0
  have hz : ∀ x ∈ DataW.weightsEach Tryz.prog [36, 27, 27, 37, 37] ds, x ≤ reachBytes := fun x hx => by simpa using List.all_eq_true.1 hz0 x hx
  obtain ⟨dss, _, l2, l3⟩ := open_args (P := Tryz.prog) 8 ok_shadowAccesses hA hz
  obtain ⟨d0, v0, _, k0, s0, r0⟩ := l3 0 36 rfl
  obtain ⟨d1, v1, _, k1, s1, r1⟩ := l3 1 27 rfl
  obtain ⟨d2, v2, _, k2, s2, r2⟩ := l3 2 27 rfl
  obtain ⟨d3, v3, _, k3, s3, r3⟩ := l3 3 37 rfl
  obtain ⟨d4, v4, _, k4, s4, r4⟩ := l3 4 37 rfl
  obtain ⟨al⟩ := args
  obtain rfl := args_5 (l := al) l2 k0 k1 k2 k3 k4
  obtain ⟨a0, rfl, t0⟩ := sh_36 _ _ s0
  have q0 := arg_struct ty36 (hval 0 36 v0 rfl rfl) r0
  obtain ⟨a1, rfl, _, t1⟩ := sh_27 _ _ s1
  have q1 := arg_slice ty27 (hval 1 27 v1 rfl rfl) r1
  obtain ⟨a2, rfl, _, t2⟩ := sh_27 _ _ s2
  have q2 := arg_slice ty27 (hval 2 27 v2 rfl rfl) r2
  obtain ⟨a3, rfl, t3⟩ := sh_u64 ty37 _ _ s3
  have q3 := arg_int ty37 (hval 3 37 v3 rfl rfl) r3
  obtain ⟨a4, rfl, t4⟩ := sh_u64 ty37 _ _ s4
  have q4 := arg_int ty37 (hval 4 37 v4 rfl rfl) r4
  have hr : RepL Tryz.prog (memAll W) loc0 [.agg (e36 a0), .isl 3 1 (a1.map e3), .isl 3 1 (a2.map e3), .v (.int .u64 a3), .v (.int .u64 a4)] [v0, v1, v2, v3, v4] := by
    simp only [RepL]
    exact ⟨_, _, rfl, q0, ⟨_, _, rfl, q1, ⟨_, _, rfl, q2, ⟨_, _, rfl, q3, ⟨_, _, rfl, q4, rfl⟩⟩⟩⟩⟩
  obtain ⟨N, hN⟩ := shadowAccesses_plain a0 a1 a2 a3 a4 hr.wf t0 t3 t4
  refine (calls_law (OK.h GG gw _ hN) (of_laid hL) hr).mono fun e W2 he => ?_
  obtain ⟨rfl, hB⟩ := he
  have hds : ds.length = 5 := by have := trodAll_len hA; simpa using this
  obtain ⟨x0, x1, x2, x3, x4, rfl⟩ := len_5 hds
  exact ⟨_, rfl, law_post (tb := 4) rfl (by kernel_rfl) (und_bool ty4) laidOut read_shadowAccesses hW2 rfl hB⟩
theorem and2 {a b : Bool} (h : a = true) (k : b = true) : (a && b) = true := by rw [h, k]; rfl
theorem shadowAccesses_k0 : (Rows.shadowAccessesRow.wf (OpenSpec.ofChange Rows.shadowAccessesSpec)) = true := by kernel_rfl
theorem shadowAccesses_k1 : (laidOutB Tryz.prog) = true := by kernel_rfl
theorem shadowAccesses_k2 : (mapsRowed Tryz.prog) = true := by kernel_rfl
theorem shadowAccesses_k3 : (Tryz.f7.params.all (Tryz.prog.readableRec ·)) = true := by kernel_rfl
theorem shadowAccesses_k4 : (namedTie Tryz.prog Rows.shadowAccessesRow.named Rows.shadowAccessesSpec.vars) = true := by kernel_rfl
theorem shadowAccesses_k5 : ((Rows.shadowAccessesRow.stops == [])) = true := by kernel_rfl
theorem shadowAccesses_k6 : ((Tryz.prog.stops == [])) = true := by kernel_rfl
theorem shadowAccesses_k7 : ((Rows.shadowAccessesRow.knobs == [])) = true := by kernel_rfl
theorem shadowAccesses_k8 : ((Tryz.prog.stopKnobs == [])) = true := by kernel_rfl
theorem shadowAccesses_k9 : ((Rows.shadowAccessesRow.inPlace == Tryz.prog.inPlace 7)) = true := by kernel_rfl
theorem shadowAccesses_k10 : ((Rows.shadowAccessesRow.unfollowed == Tryz.prog.unfollowed 7)) = true := by kernel_rfl
theorem shadowAccesses_k11 : ((Rows.shadowAccessesRow.recurses == Tryz.prog.recurses 7)) = true := by kernel_rfl
theorem shadowAccesses_k12 : ((Rows.shadowAccessesRow.named == Tryz.prog.varsNamed 7)) = true := by kernel_rfl
theorem shadowAccesses_k13 : ((Rows.shadowAccessesRow.maps == (Tryz.f7.params.toList ++ Rows.shadowAccessesSpec.plain.varTypes Tryz.prog).any (Tryz.prog.mapsRec ·))) = true := by kernel_rfl
theorem shadowAccesses_k14 : ((Rows.shadowAccessesRow.ifaces == (Tryz.f7.params.toList ++ Rows.shadowAccessesSpec.plain.varTypes Tryz.prog).any (Tryz.prog.ifacesRec ·))) = true := by kernel_rfl
theorem shadowAccesses_k15 : ((Rows.shadowAccessesRow.mapsOut == Tryz.prog.mapsAmong Tryz.f7.resultTypes.toList)) = true := by kernel_rfl
theorem shadowAccesses_k16 : ((Rows.shadowAccessesRow.loops == (Tryz.f7.params.toList ++ Rows.shadowAccessesSpec.plain.varTypes Tryz.prog).any (Tryz.prog.loopsFrom ·))) = true := by kernel_rfl
theorem shadowAccesses_k17 : ((Rows.shadowAccessesRow.wideKeys == (Tryz.f7.params.toList ++ Rows.shadowAccessesSpec.plain.varTypes Tryz.prog ++ Tryz.f7.resultTypes.toList).any (Tryz.prog.wideKeysFrom ·))) = true := by kernel_rfl
theorem shadowAccesses_k18 : (Rows.shadowAccessesSpec.vars.all (Tryz.prog.varReadable ·)) = true := by kernel_rfl
theorem shadowAccesses_k19 : (Tryz.f7.resultTypes.all (fun t => Tryz.prog.readableRec t && decide (t < Tryz.prog.types.size))) = true := by kernel_rfl
theorem shadowAccesses_k20 : ((Rows.shadowAccessesRow.ifacesOut == Tryz.f7.resultTypes.toList.any (Tryz.prog.ifacesRec ·))) = true := by kernel_rfl
theorem shadowAccesses_k21 : ((Rows.shadowAccessesRow.loopsOut == Tryz.f7.resultTypes.toList.any (Tryz.prog.loopsFrom ·))) = true := by kernel_rfl
theorem shadowAccesses_k22 : ((Rows.shadowAccessesRow.plainKeys == Tryz.prog.plainKeys)) = true := by kernel_rfl
theorem shadowAccesses_k23 : (Rows.shadowAccessesRow.shortTexts.isNone) = true := by kernel_rfl
theorem shadowAccesses_k24 : (Tryz.prog.stopsHeard) = true := by kernel_rfl
theorem shadowAccesses_k25 : (Tryz.prog.mayEnter) = true := by kernel_rfl
theorem shadowAccesses_k26 : ((Rows.shadowAccessesRow.lifted == Tryz.prog.liftsFinal)) = true := by kernel_rfl
theorem shadowAccesses_k27 : ((Tryz.prog.make == some Rows.shadowAccessesRow.make)) = true := by kernel_rfl
theorem shadowAccesses_k28 : ((Rows.shadowAccessesRow.kinds == (if Rows.shadowAccessesRow.domain.isEmpty then [] else Tryz.f7.params.toList.map fun t => match Tryz.prog.underlying t with | some (.int k) => some k | _ => none))) = true := by kernel_rfl
theorem shadowAccesses_k29 : ((Rows.shadowAccessesRow.pinned == Rows.shadowAccessesRow.pinnedBy)) = true := by kernel_rfl
theorem shadowAccesses_k30 : ((Rows.shadowAccessesRow.veiled == (Tryz.f7.params.toList ++ Rows.shadowAccessesSpec.plain.varTypes Tryz.prog ++ Tryz.f7.resultTypes.toList).any (Tryz.prog.veiledRec ·))) = true := by kernel_rfl
theorem shadowAccesses_k31 : (Rows.shadowAccessesRow.veiledFits Tryz.prog Tryz.f7.params.toList (Tryz.f7.params.toList ++ Rows.shadowAccessesSpec.plain.varTypes Tryz.prog ++ Tryz.f7.resultTypes.toList)) = true := by kernel_rfl
set_option maxRecDepth 100000 in
theorem shadowAccesses_closed : joinedFacts Tryz.prog 7 Tryz.f7 Rows.shadowAccessesSpec Rows.shadowAccessesRow = true := by
  unfold joinedFacts
  exact (and2 (and2 (and2 (and2 (and2 (and2 (and2 (and2 (and2 (and2 (and2 (and2 (and2 (and2 (and2 (and2 (and2 (and2 (and2 (and2 (and2 (and2 (and2 (and2 (and2 (and2 (and2 (and2 (and2 (and2 (and2 shadowAccesses_k0 shadowAccesses_k1) shadowAccesses_k2) shadowAccesses_k3) shadowAccesses_k4) shadowAccesses_k5) shadowAccesses_k6) shadowAccesses_k7) shadowAccesses_k8) shadowAccesses_k9) shadowAccesses_k10) shadowAccesses_k11) shadowAccesses_k12) shadowAccesses_k13) shadowAccesses_k14) shadowAccesses_k15) shadowAccesses_k16) shadowAccesses_k17) shadowAccesses_k18) shadowAccesses_k19) shadowAccesses_k20) shadowAccesses_k21) shadowAccesses_k22) shadowAccesses_k23) shadowAccesses_k24) shadowAccesses_k25) shadowAccesses_k26) shadowAccesses_k27) shadowAccesses_k28) shadowAccesses_k29) shadowAccesses_k30) shadowAccesses_k31)
theorem shadowAccesses_row : Rows.ShadowAccessesSaid :=
  OpenClaim.holds_of_wide 7 Tryz.f7 rfl rfl rfl rfl rfl rfl rfl ⟨rfl, rfl, rfl, rfl, rfl⟩ rfl rfl rfl rfl rfl (by kernel_rfl) Tryz.func7 shadowAccesses_closed
    (of_decide_eq_true (by kernel_rfl)) (by unfold Func.isWrapper; first | (rw [if_pos (by decide +kernel)]; kernel_rfl) | (rw [if_neg (by decide +kernel)]; exact ⟨rfl, rfl⟩))
    (fun os started H enc _ => shadowAccesses_lifted os started H enc)
theorem shadowAccesses_holds : Rows.ShadowAccessesCardSaid :=
  Claim7.holds_tied_plain_at .later [] [.widerDeep] true Rows.shadowAccessesCard.stood.harness false
    shadowAccesses_row (fun _ h => by cases h) (by kernel_rfl) (fun _ h => by cases h) shadowAccesses_row_tie rfl ⟨rfl, rfl⟩ (by kernel_rfl) rfl
    (fun f fn hf hfn => by
      obtain rfl : f = 7 := Option.some.inj ((show Tryz.prog.funcNamed Rows.shadowAccessesRow.func = some 7 by kernel_rfl).symm.trans hf) |>.symm
      obtain rfl : fn = Tryz.f7 := (Option.some.inj (Tryz.func7.symm.trans hfn)).symm
      exact ⟨by kernel_rfl, fun j t ht => by
        rw [Tryz.params7] at ht
        have hm : t ∈ [36, 27, 27, 37, 37] := by simpa using Array.mem_of_getElem? ht
        have hall : ([36, 27, 27, 37, 37].all fun u => !Tryz.prog.wantsStandIn u) = true := by kernel_rfl
        exact (show Tryz.prog.wantsStandIn t = false by simpa using List.all_eq_true.1 hall t hm)⟩)
    (by kernel_rfl)
#print axioms shadowAccesses_holds
end Go.Proofs.YtgdhlnfcogcicaaGreatDoor
