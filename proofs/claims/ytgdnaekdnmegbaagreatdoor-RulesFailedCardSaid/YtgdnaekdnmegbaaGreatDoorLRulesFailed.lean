/- Proved: semispacelaw20.RulesFailed answers true at every input that the given statement lets in, and leaves its arguments as they were.
   Conditions: those of the given statement alone (its arguments are well formed and fit into memory; the listed package-level variable has its initial value). -/
import Derived.Test.YtgdnaekdnmegbaaGreatDoorH
import Derived.Test.YtgdnaekdnmegbaaGreatDoorG29
set_option linter.all false
namespace Go.Proofs.YtgdnaekdnmegbaaGreatDoor
open Go Go.Sx Go.ChangeShapes Go.WideShapes Go.ChangeAt Go.WideElems Go.RowKit
theorem ok_rulesFailed : ∀ t ∈ [27, 27], okS Tryz.prog 8 t = true := by decide +kernel
theorem read_rulesFailed : ∀ t ∈ Tryz.f4.params.toList, Tryz.prog.readableRec t = true ∧ t < Tryz.prog.types.size := by
  rw [Tryz.params4]
  exact of_decide_eq_true (by kernel_rfl)
set_option maxHeartbeats 8000000 in
set_option maxRecDepth 100000 in
theorem rulesFailed_lifted (os : Os) (started : os.Started) (H : Type) (enc : TypeId × Value → H) :
    ReturnsInHanded {} Tryz.checked os 4 .any (fun w args => (Rows.rulesFailedSpec.pre enc Tryz.prog Tryz.f4 [] false w args ∧ laidMetH Tryz.prog laidL w) ∧ sizedMet enc Tryz.prog Tryz.f4 (OpenSpec.ofChange Rows.rulesFailedSpec) false w args)
      (Rows.rulesFailedSpec.post enc Tryz.prog Tryz.f4 false true false false) := by
  refine returnsInHanded_of_change_and (C := Tryz.checked) (X := fun w _ => laidMetH Tryz.prog laidL w) (fun _ _ _ hh h => h.of_heap hh) own started (by kernel_rfl) Tryz.func4
    (ChangeSpec.witness_shaped (enc := enc) (C := Tryz.checked) (os := os) (X := fun w _ => laidMetH Tryz.prog laidL w) false (World.doorLaid Tryz.prog 400 os) #[.slice none 0 0, .slice none 0 0] 8 rfl (World.shaped_of_RefB (by kernel_rfl) (by kernel_rfl)) (by kernel_rfl) (by kernel_rfl) (by kernel_rfl) (door_met os _)) ?_
  intro W base args ds gs before hval0 hW _ hz0 hL _
  have hval : ∀ (j : Nat) t v, Tryz.f4.params[j]? = some t → args[j]? = some v → Value.okWide Tryz.prog W .any base t v := hval0
  rw [Tryz.params4] at hval
  have hW2 := hW
  obtain ⟨p, q, hA0, hV, rfl, _, _⟩ := hW
  have hA : DataW.TrodAll enc Tryz.prog W 0 (fun _ => true) true [27, 27] args.toList ds p := hA0
  obtain ⟨rfl, rfl⟩ := trodVars_none hV
  have hts : (Tryz.f4.params.toList ++ DataSpec.varTypes Tryz.checked.prog Rows.rulesFailedSpec.plain) = [27, 27] := by kernel_rfl
  rw [hts, List.append_nil] at hz0
  have hz : ∀ x ∈ DataW.weightsEach Tryz.prog [27, 27] ds, x ≤ reachBytes := fun x hx => by simpa using List.all_eq_true.1 hz0 x hx
  obtain ⟨dss, _, l2, l3⟩ := open_args (P := Tryz.prog) 8 ok_rulesFailed hA hz
  obtain ⟨d0, v0, _, k0, s0, r0⟩ := l3 0 27 rfl
  obtain ⟨d1, v1, _, k1, s1, r1⟩ := l3 1 27 rfl
  obtain ⟨al⟩ := args
  obtain rfl := args_2 (l := al) l2 k0 k1
  obtain ⟨a0, rfl, _, t0⟩ := sh_27 _ _ s0
  have q0 := arg_slice ty27 (hval 0 27 v0 rfl rfl) r0
  obtain ⟨a1, rfl, _, t1⟩ := sh_27 _ _ s1
  have q1 := arg_slice ty27 (hval 1 27 v1 rfl rfl) r1
  have hr : RepL Tryz.prog (memAll W) loc0 [.isl 3 1 (a0.map e3), .isl 3 1 (a1.map e3)] [v0, v1] := by
    simp only [RepL]
    exact ⟨_, _, rfl, q0, ⟨_, _, rfl, q1, rfl⟩⟩
  obtain ⟨N, hN⟩ := rulesFailed_plain a0 a1 hr.wf 
  refine (calls_law (OK.h GG gw _ hN) (of_laid hL) hr).mono fun e W2 he => ?_
  obtain ⟨rfl, hB⟩ := he
  have hds : ds.length = 2 := by have := trodAll_len hA; simpa using this
  obtain ⟨x0, x1, rfl⟩ := len_2 hds
  exact ⟨_, rfl, law_post (tb := 4) rfl (by kernel_rfl) (und_bool ty4) laidOut read_rulesFailed hW2 rfl hB⟩
theorem rulesFailed_row : Rows.RulesFailedSaid :=
  OpenClaim.holds_of_wide 4 Tryz.f4 rfl rfl rfl rfl rfl rfl rfl ⟨rfl, rfl, rfl, rfl, rfl⟩ rfl rfl rfl rfl rfl (by kernel_rfl) Tryz.func4 (by kernel_rfl)
    (of_decide_eq_true (by kernel_rfl)) (by unfold Func.isWrapper; first | (rw [if_pos (by decide +kernel)]; kernel_rfl) | (rw [if_neg (by decide +kernel)]; exact ⟨rfl, rfl⟩))
    (fun os started H enc _ => rulesFailed_lifted os started H enc)
theorem rulesFailed_holds : Rows.RulesFailedCardSaid :=
  Claim7.holds_tied_plain_at .later [] [.widerDeep] true Rows.rulesFailedCard.stood.harness false
    rulesFailed_row (fun _ h => by cases h) (by kernel_rfl) (fun _ h => by cases h) rulesFailed_row_tie rfl ⟨rfl, rfl⟩ (by kernel_rfl) rfl
    (fun f fn hf hfn => by
      obtain rfl : f = 4 := Option.some.inj ((show Tryz.prog.funcNamed Rows.rulesFailedRow.func = some 4 by kernel_rfl).symm.trans hf) |>.symm
      obtain rfl : fn = Tryz.f4 := (Option.some.inj (Tryz.func4.symm.trans hfn)).symm
      exact ⟨by kernel_rfl, fun j t ht => by
        rw [Tryz.params4] at ht
        have hm : t ∈ [27, 27] := by simpa using Array.mem_of_getElem? ht
        have hall : ([27, 27].all fun u => !Tryz.prog.wantsStandIn u) = true := by kernel_rfl
        exact (show Tryz.prog.wantsStandIn t = false by simpa using List.all_eq_true.1 hall t hm)⟩)
    (by kernel_rfl)
#print axioms rulesFailed_holds
end Go.Proofs.YtgdnaekdnmegbaaGreatDoor
