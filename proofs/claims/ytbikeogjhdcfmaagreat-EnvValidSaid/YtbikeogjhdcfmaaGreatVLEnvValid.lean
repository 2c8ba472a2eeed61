/- Proved: semispacelaw18.EnvValid answers true at every input that the given statement lets in, and leaves its arguments as they were.
   Conditions: those of the given statement alone (its arguments are well formed and fit into memory; the listed package-level variable has its initial value). -/
import Derived.Test.YtbikeogjhdcfmaaGreatVH
import Derived.Test.YtbikeogjhdcfmaaGreatVG31
set_option linter.all false
namespace Go.Proofs.YtbikeogjhdcfmaaGreat
open Go Go.Sx Go.ChangeShapes Go.WideShapes Go.ChangeAt Go.WideElems Go.RowKit
theorem pre6_and {H : Type} {enc : TypeId × Value → H} {P : Program} {f : Func} {s : ChangeSpec} {c : List PathCond} {b : Bool} : s.pre6 enc P f c b = fun w args => (s.pre enc P f c b w args ∧ True) ∧ sizedMet enc P f (OpenSpec.ofChange s) b w args := by
  funext w args
  simp only [ChangeSpec.pre6, and_true]
theorem args_4 {α : Type} {l : List α} {v0 v1 v2 v3 : α} (hl : l.length = 4) (h0 : l[0]? = some v0) (h1 : l[1]? = some v1) (h2 : l[2]? = some v2) (h3 : l[3]? = some v3) : l = [v0, v1, v2, v3] := by
  match l, hl with
  | [x0, x1, x2, x3], _ =>
    simp at h0 h1 h2 h3
    simp [h0, h1, h2, h3]
theorem len_4 {α : Type} {l : List α} (hl : l.length = 4) : ∃ x0 x1 x2 x3, l = [x0, x1, x2, x3] := by
  match l, hl with
  | [x0, x1, x2, x3], _ => exact ⟨x0, x1, x2, x3, rfl⟩
theorem ok_envValid : ∀ t ∈ [38, 30, 30, 23], okS Tryz.prog 8 t = true := by decide +kernel
theorem read_envValid : ∀ t ∈ Tryz.f3.params.toList, Tryz.prog.readableRec t = true ∧ t < Tryz.prog.types.size := by
  rw [Tryz.params3]
  exact Wr (by kernel_rfl)
set_option maxHeartbeats 8000000 in
set_option maxRecDepth 100000 in
theorem envValid_lifted (os : Os) (started : os.Started) (H : Type) (enc : TypeId × Value → H) :
    ReturnsInHanded {} Tryz.checked os 3 .any (Rows.envValidSpec.pre6 enc Tryz.prog Tryz.f3 [] false)
      (Rows.envValidSpec.post enc Tryz.prog Tryz.f3 false true false false) := by
  rw [pre6_and]
  refine returnsInHanded_of_change_and (C := Tryz.checked) (X := fun _ _ => True) (fun _ _ _ _ _ => trivial) own started (by kernel_rfl) Tryz.func3
    (ChangeSpec.witness_shaped (enc := enc) (C := Tryz.checked) (os := os) (X := fun _ _ => True) false (World.doorLaid Tryz.prog 400 os) #[.agg #[.int .i64 0, .int .i64 0, .slice none 0 0, .slice none 0 0, .int .i64 0, .int .i64 0, .slice none 0 0, .slice none 0 0, .slice none 0 0, .slice none 0 0, .slice none 0 0, .slice none 0 0, .slice none 0 0], .slice none 0 0, .slice none 0 0, .agg #[.int .i64 0, .int .i64 0]] 8 rfl (World.shaped_of_RefB (by kernel_rfl) (by kernel_rfl)) (by kernel_rfl) (by kernel_rfl) (by kernel_rfl) trivial) ?_
  intro W base args ds gs before hval0 hW _ hz0 hL _
  have hval : ∀ (j : Nat) t v, Tryz.f3.params[j]? = some t → args[j]? = some v → Value.okWide Tryz.prog W .any base t v := hval0
  rw [Tryz.params3] at hval
  have hW2 := hW
  obtain ⟨p, q, hA0, hV, rfl, _, _⟩ := hW
  have hA : DataW.TrodAll enc Tryz.prog W 0 (fun _ => true) true [38, 30, 30, 23] args.toList ds p := hA0
  obtain ⟨rfl, rfl⟩ := trodVars_none hV
  have hts : (Tryz.f3.params.toList ++ DataSpec.varTypes Tryz.checked.prog Rows.envValidSpec.plain) = [38, 30, 30, 23] := by kernel_rfl
  rw [hts, IR] at hz0
  have hz : ∀ x ∈ DataW.weightsEach Tryz.prog [38, 30, 30, 23] ds, x ≤ reachBytes := fun x hx => by simpa using Ue.1 hz0 x hx
  obtain ⟨dss, _, l2, l3⟩ := XhS (P := Tryz.prog) 8 ok_envValid hA hz
  obtain ⟨d0, v0, _, k0, s0, r0⟩ := l3 0 38 rfl
  obtain ⟨d1, v1, _, k1, s1, r1⟩ := l3 1 30 rfl
  obtain ⟨d2, v2, _, k2, s2, r2⟩ := l3 2 30 rfl
  obtain ⟨d3, v3, _, k3, s3, r3⟩ := l3 3 23 rfl
  obtain ⟨al⟩ := args
  obtain rfl := args_4 (l := al) l2 k0 k1 k2 k3
  obtain ⟨a0, rfl, t0⟩ := XqX _ _ s0
  have q0 := XnY Xpp (hval 0 38 v0 rfl rfl) r0
  obtain ⟨a1, rfl, _, t1⟩ := Xqa _ _ s1
  have q1 := XoA Xpk (hval 1 30 v1 rfl rfl) r1
  obtain ⟨a2, rfl, _, t2⟩ := Xqa _ _ s2
  have q2 := XoA Xpk (hval 2 30 v2 rfl rfl) r2
  obtain ⟨a3, rfl, t3⟩ := Xp2 _ _ s3
  have q3 := XnY Xpe (hval 3 23 v3 rfl rfl) r3
  have hr : RepL Tryz.prog (Z2 W) Yb [.agg (e38 a0), .isl 3 1 (a1.map e3), .isl 3 1 (a2.map e3), .agg (e23 a3)] [v0, v1, v2, v3] := by
    simp only [RepL]
    exact ⟨_, _, rfl, q0, ⟨_, _, rfl, q1, ⟨_, _, rfl, q2, ⟨_, _, rfl, q3, rfl⟩⟩⟩⟩
  obtain ⟨N, hN⟩ := Xk8 a0 a1 a2 a3 hr.wf t0
  refine (Xoz (OK.h GG gw _ hN) (fun g cs h => by cases h) hr).mono fun e W2 he => ?_
  obtain ⟨rfl, hB⟩ := he
  have hds : ds.length = 4 := by have := XeD hA; simpa using this
  obtain ⟨x0, x1, x2, x3, rfl⟩ := len_4 hds
  exact ⟨_, rfl, XoY (tb := 4) rfl (by kernel_rfl) (Xd8 ty4) Xqq read_envValid hW2 rfl hB⟩
theorem and2 {a b : Bool} (h : a = true) (k : b = true) : (a && b) = true := by rw [h, k]; rfl
theorem envValid_k0 : (Rows.envValidRow.wf (OpenSpec.ofChange Rows.envValidSpec)) = true := by kernel_rfl
theorem envValid_k1 : (laidOutB Tryz.prog) = true := by kernel_rfl
theorem envValid_k2 : (mapsRowed Tryz.prog) = true := by kernel_rfl
theorem envValid_k3 : (Tryz.f3.params.all (Tryz.prog.readableRec ·)) = true := by kernel_rfl
theorem envValid_k4 : (namedTie Tryz.prog Rows.envValidRow.named Rows.envValidSpec.vars) = true := by kernel_rfl
theorem envValid_k5 : ((Rows.envValidRow.stops == [])) = true := by kernel_rfl
theorem envValid_k6 : ((Tryz.prog.stops == [])) = true := by kernel_rfl
theorem envValid_k7 : ((Rows.envValidRow.knobs == [])) = true := by kernel_rfl
theorem envValid_k8 : ((Tryz.prog.stopKnobs == [])) = true := by kernel_rfl
theorem envValid_k9 : ((Rows.envValidRow.inPlace == Tryz.prog.inPlace 3)) = true := by kernel_rfl
theorem envValid_k10 : ((Rows.envValidRow.unfollowed == Tryz.prog.unfollowed 3)) = true := by kernel_rfl
theorem envValid_k11 : ((Rows.envValidRow.recurses == Tryz.prog.recurses 3)) = true := by kernel_rfl
theorem envValid_k12 : ((Rows.envValidRow.named == Tryz.prog.varsNamed 3)) = true := by kernel_rfl
theorem envValid_k13 : ((Rows.envValidRow.maps == (Tryz.f3.params.toList ++ Rows.envValidSpec.plain.varTypes Tryz.prog).any (Tryz.prog.mapsRec ·))) = true := by kernel_rfl
theorem envValid_k14 : ((Rows.envValidRow.ifaces == (Tryz.f3.params.toList ++ Rows.envValidSpec.plain.varTypes Tryz.prog).any (Tryz.prog.ifacesRec ·))) = true := by kernel_rfl
theorem envValid_k15 : ((Rows.envValidRow.mapsOut == Tryz.prog.mapsAmong Tryz.f3.resultTypes.toList)) = true := by kernel_rfl
theorem envValid_k16 : ((Rows.envValidRow.loops == (Tryz.f3.params.toList ++ Rows.envValidSpec.plain.varTypes Tryz.prog).any (Tryz.prog.loopsFrom ·))) = true := by kernel_rfl
theorem envValid_k17 : ((Rows.envValidRow.wideKeys == (Tryz.f3.params.toList ++ Rows.envValidSpec.plain.varTypes Tryz.prog ++ Tryz.f3.resultTypes.toList).any (Tryz.prog.wideKeysFrom ·))) = true := by kernel_rfl
theorem envValid_k18 : (Rows.envValidSpec.vars.all (Tryz.prog.varReadable ·)) = true := by kernel_rfl
theorem envValid_k19 : (Tryz.f3.resultTypes.all (fun t => Tryz.prog.readableRec t && decide (t < Tryz.prog.types.size))) = true := by kernel_rfl
theorem envValid_k20 : ((Rows.envValidRow.ifacesOut == Tryz.f3.resultTypes.toList.any (Tryz.prog.ifacesRec ·))) = true := by kernel_rfl
theorem envValid_k21 : ((Rows.envValidRow.loopsOut == Tryz.f3.resultTypes.toList.any (Tryz.prog.loopsFrom ·))) = true := by kernel_rfl
theorem envValid_k22 : ((Rows.envValidRow.plainKeys == Tryz.prog.plainKeys)) = true := by kernel_rfl
theorem envValid_k23 : (Rows.envValidRow.shortTexts.isNone) = true := by kernel_rfl
theorem envValid_k24 : (Tryz.prog.stopsHeard) = true := by kernel_rfl
theorem envValid_k25 : (Tryz.prog.mayEnter) = true := by kernel_rfl
theorem envValid_k26 : ((Rows.envValidRow.lifted == Tryz.prog.liftsFinal)) = true := by kernel_rfl
theorem envValid_k27 : ((Tryz.prog.make == some Rows.envValidRow.make)) = true := by kernel_rfl
theorem envValid_k28 : ((Rows.envValidRow.kinds == (if Rows.envValidRow.domain.isEmpty then [] else Tryz.f3.params.toList.map fun t => match Tryz.prog.underlying t with | some (.int k) => some k | _ => none))) = true := by kernel_rfl
theorem envValid_k29 : ((Rows.envValidRow.pinned == Rows.envValidRow.pinnedBy)) = true := by kernel_rfl
theorem envValid_k30 : ((Rows.envValidRow.veiled == (Tryz.f3.params.toList ++ Rows.envValidSpec.plain.varTypes Tryz.prog ++ Tryz.f3.resultTypes.toList).any (Tryz.prog.veiledRec ·))) = true := by kernel_rfl
theorem envValid_k31 : (Rows.envValidRow.veiledFits Tryz.prog Tryz.f3.params.toList (Tryz.f3.params.toList ++ Rows.envValidSpec.plain.varTypes Tryz.prog ++ Tryz.f3.resultTypes.toList)) = true := by kernel_rfl
set_option maxRecDepth 100000 in
theorem envValid_closed : joinedFacts Tryz.prog 3 Tryz.f3 Rows.envValidSpec Rows.envValidRow = true := by
  unfold joinedFacts
  exact (and2 (and2 (and2 (and2 (and2 (and2 (and2 (and2 (and2 (and2 (and2 (and2 (and2 (and2 (and2 (and2 (and2 (and2 (and2 (and2 (and2 (and2 (and2 (and2 (and2 (and2 (and2 (and2 (and2 (and2 (and2 envValid_k0 envValid_k1) envValid_k2) envValid_k3) envValid_k4) envValid_k5) envValid_k6) envValid_k7) envValid_k8) envValid_k9) envValid_k10) envValid_k11) envValid_k12) envValid_k13) envValid_k14) envValid_k15) envValid_k16) envValid_k17) envValid_k18) envValid_k19) envValid_k20) envValid_k21) envValid_k22) envValid_k23) envValid_k24) envValid_k25) envValid_k26) envValid_k27) envValid_k28) envValid_k29) envValid_k30) envValid_k31)
theorem envValid_row : Rows.EnvValidSaid :=
  OpenClaim.holds_of_wide 3 Tryz.f3 rfl rfl rfl rfl rfl rfl rfl ⟨rfl, rfl, rfl, rfl, rfl⟩ rfl rfl rfl rfl rfl (by kernel_rfl) Tryz.func3 envValid_closed
    (Wr (by kernel_rfl)) (by unfold Func.isWrapper; first | (rw [Wm (by decide +kernel)]; kernel_rfl) | (rw [Wk (by decide +kernel)]; exact ⟨rfl, rfl⟩))
    (fun os started H enc _ => envValid_lifted os started H enc)
theorem envValid_holds : Rows.EnvValidSaid := envValid_row
#print axioms envValid_holds
end Go.Proofs.YtbikeogjhdcfmaaGreat
