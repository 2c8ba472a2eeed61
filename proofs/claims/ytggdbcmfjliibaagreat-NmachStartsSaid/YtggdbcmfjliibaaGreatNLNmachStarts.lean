/- Proved: semispacelaw23.NmachStarts answers true at every input that the given statement lets in, and leaves its arguments as they were.
   Conditions: those of the given statement alone (its arguments are well formed and fit into memory). -/
import Derived.Test.YtggdbcmfjliibaaGreatNH
import Derived.Test.YtggdbcmfjliibaaGreatNG19
set_option linter.all false
namespace Go.Proofs.YtggdbcmfjliibaaGreat
open Go Go.Sx Go.ChangeShapes Go.WideShapes Go.ChangeAt Go.WideElems Go.RowKit
theorem pre6_and {H : Type} {enc : TypeId × Value → H} {P : Program} {f : Func} {s : ChangeSpec} {c : List PathCond} {b : Bool} : s.pre6 enc P f c b = fun w args => (s.pre enc P f c b w args ∧ True) ∧ sizedMet enc P f (OpenSpec.ofChange s) b w args := by
  funext w args
  simp only [ChangeSpec.pre6, and_true]
theorem args_3 {α : Type} {l : List α} {v0 v1 v2 : α} (hl : l.length = 3) (h0 : l[0]? = some v0) (h1 : l[1]? = some v1) (h2 : l[2]? = some v2) : l = [v0, v1, v2] := by
  match l, hl with
  | [x0, x1, x2], _ =>
    simp at h0 h1 h2
    simp [h0, h1, h2]
theorem len_3 {α : Type} {l : List α} (hl : l.length = 3) : ∃ x0 x1 x2, l = [x0, x1, x2] := by
  match l, hl with
  | [x0, x1, x2], _ => exact ⟨x0, x1, x2, rfl⟩
theorem ok_nmachStarts : ∀ t ∈ [24, 25, 28], okS Tryz.prog 8 t = true := by decide +kernel
theorem read_nmachStarts : ∀ t ∈ Tryz.f3.params.toList, Tryz.prog.readableRec t = true ∧ t < Tryz.prog.types.size := by
  rw [Tryz.params3]
  exact of_decide_eq_true (by kernel_rfl)
set_option maxHeartbeats 8000000 in
set_option maxRecDepth 100000 in
theorem nmachStarts_lifted (os : Os) (started : os.Started) (H : Type) (enc : TypeId × Value → H) :
    ReturnsInHanded {} Tryz.checked os 3 .any (Rows.nmachStartsSpec.pre6 enc Tryz.prog Tryz.f3 [] false)
      (Rows.nmachStartsSpec.post enc Tryz.prog Tryz.f3 false true false false) := by
  rw [pre6_and]
  refine returnsInHanded_of_change_and (C := Tryz.checked) (X := fun _ _ => True) (fun _ _ _ _ _ => trivial) own started (by kernel_rfl) Tryz.func3
    (ChangeSpec.witness_shaped (enc := enc) (C := Tryz.checked) (os := os) (X := fun _ _ => True) false (World.doorLaid Tryz.prog 400 os) #[.agg #[.int .i64 0, .slice none 0 0], .slice none 0 0, .agg #[.int .i64 0, .slice none 0 0, .int .i64 0]] 8 rfl (World.shaped_of_RefB (by kernel_rfl) (by kernel_rfl)) (by kernel_rfl) (by kernel_rfl) (by kernel_rfl) trivial) ?_
  intro W base args ds gs before hval0 hW _ hz0 hL _
  have hval : ∀ (j : Nat) t v, Tryz.f3.params[j]? = some t → args[j]? = some v → Value.okWide Tryz.prog W .any base t v := hval0
  rw [Tryz.params3] at hval
  have hW2 := hW
  obtain ⟨p, q, hA0, hV, rfl, _, _⟩ := hW
  have hA : DataW.TrodAll enc Tryz.prog W 0 (fun _ => true) true [24, 25, 28] args.toList ds p := hA0
  obtain ⟨rfl, rfl⟩ := trodVars_none hV
  have hts : (Tryz.f3.params.toList ++ DataSpec.varTypes Tryz.checked.prog Rows.nmachStartsSpec.plain) = [24, 25, 28] := by kernel_rfl
  rw [hts, List.append_nil] at hz0
  have hz : ∀ x ∈ DataW.weightsEach Tryz.prog [24, 25, 28] ds, x ≤ reachBytes := fun x hx => by simpa using List.all_eq_true.1 hz0 x hx
  obtain ⟨dss, _, l2, l3⟩ := open_args (P := Tryz.prog) 8 ok_nmachStarts hA hz
  obtain ⟨d0, v0, _, k0, s0, r0⟩ := l3 0 24 rfl
  obtain ⟨d1, v1, _, k1, s1, r1⟩ := l3 1 25 rfl
  obtain ⟨d2, v2, _, k2, s2, r2⟩ := l3 2 28 rfl
  obtain ⟨al⟩ := args
  obtain rfl := args_3 (l := al) l2 k0 k1 k2
  obtain ⟨a0, rfl, t0⟩ := sh_24 _ _ s0
  have q0 := arg_struct ty24 (hval 0 24 v0 rfl rfl) r0
  obtain ⟨a1, rfl, _, t1⟩ := sh_25 _ _ s1
  have q1 := arg_slice ty25 (hval 1 25 v1 rfl rfl) r1
  obtain ⟨a2, rfl, t2⟩ := sh_28 _ _ s2
  have q2 := arg_struct ty28 (hval 2 28 v2 rfl rfl) r2
  have hr : RepL Tryz.prog (memAll W) loc0 [.agg (e24 a0), .isl 38 1 (a1.map e38), .agg (e28 a2)] [v0, v1, v2] := by
    simp only [RepL]
    exact ⟨_, _, rfl, q0, ⟨_, _, rfl, q1, ⟨_, _, rfl, q2, rfl⟩⟩⟩
  obtain ⟨N, hN⟩ := nmachStarts_plain a0 a1 a2 hr.wf 
  refine (calls_law (OK.h GG gw _ hN) (fun g cs h => by cases h) hr).mono fun e W2 he => ?_
  obtain ⟨rfl, hB⟩ := he
  have hds : ds.length = 3 := by have := trodAll_len hA; simpa using this
  obtain ⟨x0, x1, x2, rfl⟩ := len_3 hds
  exact ⟨_, rfl, law_post (tb := 4) rfl (by kernel_rfl) (und_bool ty4) laidOut read_nmachStarts hW2 rfl hB⟩
theorem and2 {a b : Bool} (h : a = true) (k : b = true) : (a && b) = true := by rw [h, k]; rfl
theorem nmachStarts_k0 : (Rows.nmachStartsRow.wf (OpenSpec.ofChange Rows.nmachStartsSpec)) = true := by kernel_rfl
theorem nmachStarts_k1 : (laidOutB Tryz.prog) = true := by kernel_rfl
theorem nmachStarts_k2 : (mapsRowed Tryz.prog) = true := by kernel_rfl
theorem nmachStarts_k3 : (Tryz.f3.params.all (Tryz.prog.readableRec ·)) = true := by kernel_rfl
theorem nmachStarts_k4 : (namedTie Tryz.prog Rows.nmachStartsRow.named Rows.nmachStartsSpec.vars) = true := by kernel_rfl
theorem nmachStarts_k5 : ((Rows.nmachStartsRow.stops == [])) = true := by kernel_rfl
theorem nmachStarts_k6 : ((Tryz.prog.stops == [])) = true := by kernel_rfl
theorem nmachStarts_k7 : ((Rows.nmachStartsRow.knobs == [])) = true := by kernel_rfl
theorem nmachStarts_k8 : ((Tryz.prog.stopKnobs == [])) = true := by kernel_rfl
theorem nmachStarts_k9 : ((Rows.nmachStartsRow.inPlace == Tryz.prog.inPlace 3)) = true := by kernel_rfl
theorem nmachStarts_k10 : ((Rows.nmachStartsRow.unfollowed == Tryz.prog.unfollowed 3)) = true := by kernel_rfl
theorem nmachStarts_k11 : ((Rows.nmachStartsRow.recurses == Tryz.prog.recurses 3)) = true := by kernel_rfl
theorem nmachStarts_k12 : ((Rows.nmachStartsRow.named == Tryz.prog.varsNamed 3)) = true := by kernel_rfl
theorem nmachStarts_k13 : ((Rows.nmachStartsRow.maps == (Tryz.f3.params.toList ++ Rows.nmachStartsSpec.plain.varTypes Tryz.prog).any (Tryz.prog.mapsRec ·))) = true := by kernel_rfl
theorem nmachStarts_k14 : ((Rows.nmachStartsRow.ifaces == (Tryz.f3.params.toList ++ Rows.nmachStartsSpec.plain.varTypes Tryz.prog).any (Tryz.prog.ifacesRec ·))) = true := by kernel_rfl
theorem nmachStarts_k15 : ((Rows.nmachStartsRow.mapsOut == Tryz.prog.mapsAmong Tryz.f3.resultTypes.toList)) = true := by kernel_rfl
theorem nmachStarts_k16 : ((Rows.nmachStartsRow.loops == (Tryz.f3.params.toList ++ Rows.nmachStartsSpec.plain.varTypes Tryz.prog).any (Tryz.prog.loopsFrom ·))) = true := by kernel_rfl
theorem nmachStarts_k17 : ((Rows.nmachStartsRow.wideKeys == (Tryz.f3.params.toList ++ Rows.nmachStartsSpec.plain.varTypes Tryz.prog ++ Tryz.f3.resultTypes.toList).any (Tryz.prog.wideKeysFrom ·))) = true := by kernel_rfl
theorem nmachStarts_k18 : (Rows.nmachStartsSpec.vars.all (Tryz.prog.varReadable ·)) = true := by kernel_rfl
theorem nmachStarts_k19 : (Tryz.f3.resultTypes.all (fun t => Tryz.prog.readableRec t && decide (t < Tryz.prog.types.size))) = true := by kernel_rfl
theorem nmachStarts_k20 : ((Rows.nmachStartsRow.ifacesOut == Tryz.f3.resultTypes.toList.any (Tryz.prog.ifacesRec ·))) = true := by kernel_rfl
theorem nmachStarts_k21 : ((Rows.nmachStartsRow.loopsOut == Tryz.f3.resultTypes.toList.any (Tryz.prog.loopsFrom ·))) = true := by kernel_rfl
theorem nmachStarts_k22 : ((Rows.nmachStartsRow.plainKeys == Tryz.prog.plainKeys)) = true := by kernel_rfl
theorem nmachStarts_k23 : (Rows.nmachStartsRow.shortTexts.isNone) = true := by kernel_rfl
theorem nmachStarts_k24 : (Tryz.prog.stopsHeard) = true := by kernel_rfl
theorem nmachStarts_k25 : (Tryz.prog.mayEnter) = true := by kernel_rfl
theorem nmachStarts_k26 : ((Rows.nmachStartsRow.lifted == Tryz.prog.liftsFinal)) = true := by kernel_rfl
theorem nmachStarts_k27 : ((Tryz.prog.make == some Rows.nmachStartsRow.make)) = true := by kernel_rfl
theorem nmachStarts_k28 : ((Rows.nmachStartsRow.kinds == (if Rows.nmachStartsRow.domain.isEmpty then [] else Tryz.f3.params.toList.map fun t => match Tryz.prog.underlying t with | some (.int k) => some k | _ => none))) = true := by kernel_rfl
theorem nmachStarts_k29 : ((Rows.nmachStartsRow.pinned == Rows.nmachStartsRow.pinnedBy)) = true := by kernel_rfl
theorem nmachStarts_k30 : ((Rows.nmachStartsRow.veiled == (Tryz.f3.params.toList ++ Rows.nmachStartsSpec.plain.varTypes Tryz.prog ++ Tryz.f3.resultTypes.toList).any (Tryz.prog.veiledRec ·))) = true := by kernel_rfl
theorem nmachStarts_k31 : (Rows.nmachStartsRow.veiledFits Tryz.prog Tryz.f3.params.toList (Tryz.f3.params.toList ++ Rows.nmachStartsSpec.plain.varTypes Tryz.prog ++ Tryz.f3.resultTypes.toList)) = true := by kernel_rfl
set_option maxRecDepth 100000 in
theorem nmachStarts_closed : joinedFacts Tryz.prog 3 Tryz.f3 Rows.nmachStartsSpec Rows.nmachStartsRow = true := by
  unfold joinedFacts
  exact (and2 (and2 (and2 (and2 (and2 (and2 (and2 (and2 (and2 (and2 (and2 (and2 (and2 (and2 (and2 (and2 (and2 (and2 (and2 (and2 (and2 (and2 (and2 (and2 (and2 (and2 (and2 (and2 (and2 (and2 (and2 nmachStarts_k0 nmachStarts_k1) nmachStarts_k2) nmachStarts_k3) nmachStarts_k4) nmachStarts_k5) nmachStarts_k6) nmachStarts_k7) nmachStarts_k8) nmachStarts_k9) nmachStarts_k10) nmachStarts_k11) nmachStarts_k12) nmachStarts_k13) nmachStarts_k14) nmachStarts_k15) nmachStarts_k16) nmachStarts_k17) nmachStarts_k18) nmachStarts_k19) nmachStarts_k20) nmachStarts_k21) nmachStarts_k22) nmachStarts_k23) nmachStarts_k24) nmachStarts_k25) nmachStarts_k26) nmachStarts_k27) nmachStarts_k28) nmachStarts_k29) nmachStarts_k30) nmachStarts_k31)
theorem nmachStarts_row : Rows.NmachStartsSaid :=
  OpenClaim.holds_of_wide 3 Tryz.f3 rfl rfl rfl rfl rfl rfl rfl ⟨rfl, rfl, rfl, rfl, rfl⟩ rfl rfl rfl rfl rfl (by kernel_rfl) Tryz.func3 nmachStarts_closed
    (of_decide_eq_true (by kernel_rfl)) (by unfold Func.isWrapper; first | (rw [if_pos (by decide +kernel)]; kernel_rfl) | (rw [if_neg (by decide +kernel)]; exact ⟨rfl, rfl⟩))
    (fun os started H enc _ => nmachStarts_lifted os started H enc)
theorem nmachStarts_holds : Rows.NmachStartsSaid := nmachStarts_row
#print axioms nmachStarts_holds
end Go.Proofs.YtggdbcmfjliibaaGreat
