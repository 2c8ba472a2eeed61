/- Proved: 3 answers true at every input that the given statement lets in, and leaves its arguments as they were.
   Conditions: those of the given statement alone (its arguments are well formed and fit into memory; the listed package-level variable has its initial value). -/
import Derived.Test.YtjmgebidnekjdaaGreatLH
import Derived.Test.YtjmgebidnekjdaaGreatLG31
set_option linter.all false
namespace Go.Proofs.YtjmgebidnekjdaaGreat
open Go Go.Sx Go.ChangeShapes Go.WideShapes Go.ChangeAt Go.WideElems Go.RowKit
def pre6_and {H : Type} {enc : TypeId × Value → H} {P : Program} {f : Func} {s : ChangeSpec} {c : List PathCond} {b : Bool} : s.pre6 enc P f c b = fun w args => (s.pre enc P f c b w args ∧ True) ∧ sizedMet enc P f (OpenSpec.ofChange s) b w args := by
  funext w args
  simp only [ChangeSpec.pre6, and_true]
def args_4 {α : Type} {l : List α} {v0 v1 v2 v3 : α} (hl : l.length = 4) (h0 : l[0]? = some v0) (h1 : l[1]? = some v1) (h2 : l[2]? = some v2) (h3 : l[3]? = some v3) : l = [v0, v1, v2, v3] := by
  match l, hl with
  | [x0, x1, x2, x3], _ =>
    simp at h0 h1 h2 h3
    simp [h0, h1, h2, h3]
def len_4 {α : Type} {l : List α} (hl : l.length = 4) : ∃ x0 x1 x2 x3, l = [x0, x1, x2, x3] := by
  match l, hl with
  | [x0, x1, x2, x3], _ => exact ⟨x0, x1, x2, x3, rfl⟩
def ok_lockstepMatches : ∀ t ∈ [38, 42, 30, 30], okS Tryz.prog 8 t = true := by decide +kernel
def read_lockstepMatches : ∀ t ∈ Tryz.f3.params.toList, Tryz.prog.readableRec t = true ∧ t < Tryz.prog.types.size := by
  rw [Tryz.params3]
  exact Wq (by kernel_rfl)
set_option maxHeartbeats 8000000 in
set_option maxRecDepth 100000 in
def lockstepMatches_lifted (os : Os) (started : os.Started) (H : Type) (enc : TypeId × Value → H) :
    ReturnsInHanded {} Tryz.checked os 3 .any (Rows.lockstepMatchesSpec.pre6 enc Tryz.prog Tryz.f3 [] false)
      (Rows.lockstepMatchesSpec.post enc Tryz.prog Tryz.f3 false true false false) := by
  rw [pre6_and]
  refine returnsInHanded_of_change_and (C := Tryz.checked) (X := fun _ _ => True) (fun _ _ _ _ _ => trivial) own started (by kernel_rfl) Tryz.func3
    (ChangeSpec.witness_shaped (enc := enc) (C := Tryz.checked) (os := os) (X := fun _ _ => True) false (World.doorLaid Tryz.prog 400 os) #[.agg #[.int .i64 0, .int .i64 0, .slice none 0 0, .slice none 0 0, .int .i64 0, .int .i64 0, .slice none 0 0, .slice none 0 0, .slice none 0 0, .slice none 0 0, .slice none 0 0, .slice none 0 0, .slice none 0 0], .agg #[.int .i64 0, .int .i64 0, .slice none 0 0, .slice none 0 0, .slice none 0 0, .slice none 0 0, .slice none 0 0, .slice none 0 0, .slice none 0 0, .slice none 0 0], .slice none 0 0, .slice none 0 0] 8 rfl (World.shaped_of_RefB (by kernel_rfl) (by kernel_rfl)) (by kernel_rfl) (by kernel_rfl) (by kernel_rfl) trivial) ?_
  intro W base args ds gs before hval0 hW _ hz0 hL _
  have hval : ∀ (j : Nat) t v, Tryz.f3.params[j]? = some t → args[j]? = some v → Value.okWide Tryz.prog W .any base t v := hval0
  rw [Tryz.params3] at hval
  have hW2 := hW
  obtain ⟨p, q, hA0, hV, rfl, _, _⟩ := hW
  have hA : DataW.TrodAll enc Tryz.prog W 0 (fun _ => true) true [38, 42, 30, 30] args.toList ds p := hA0
  obtain ⟨rfl, rfl⟩ := trodVars_none hV
  have hts : (Tryz.f3.params.toList ++ DataSpec.varTypes Tryz.checked.prog Rows.lockstepMatchesSpec.plain) = [38, 42, 30, 30] := by kernel_rfl
  rw [hts, Iw] at hz0
  have hz : ∀ x ∈ DataW.weightsEach Tryz.prog [38, 42, 30, 30] ds, x ≤ reachBytes := fun x hx => by simpa using W3.1 hz0 x hx
  obtain ⟨dss, _, l2, l3⟩ := XiV (P := Tryz.prog) 8 ok_lockstepMatches hA hz
  obtain ⟨d0, v0, _, k0, s0, r0⟩ := l3 0 38 rfl
  obtain ⟨d1, v1, _, k1, s1, r1⟩ := l3 1 42 rfl
  obtain ⟨d2, v2, _, k2, s2, r2⟩ := l3 2 30 rfl
  obtain ⟨d3, v3, _, k3, s3, r3⟩ := l3 3 30 rfl
  obtain ⟨al⟩ := args
  obtain rfl := args_4 (l := al) l2 k0 k1 k2 k3
  obtain ⟨a0, rfl, t0⟩ := Xti _ _ s0
  have q0 := XpK Xrz (hval 0 38 v0 rfl rfl) r0
  obtain ⟨a1, rfl, t1⟩ := Xtj _ _ s1
  have q1 := XpK XrC (hval 1 42 v1 rfl rfl) r1
  obtain ⟨a2, rfl, _, t2⟩ := Xso _ _ s2
  have q2 := XqA Xru (hval 2 30 v2 rfl rfl) r2
  obtain ⟨a3, rfl, _, t3⟩ := Xso _ _ s3
  have q3 := XqA Xru (hval 3 30 v3 rfl rfl) r3
  have hr : RepL Tryz.prog (Ke W) Yj [.agg (e38 a0), .agg (e42 a1), .isl 3 1 (a2.map e3), .isl 3 1 (a3.map e3)] [v0, v1, v2, v3] := by
    simp only [RepL]
    exact ⟨_, _, rfl, q0, ⟨_, _, rfl, q1, ⟨_, _, rfl, q2, ⟨_, _, rfl, q3, rfl⟩⟩⟩⟩
  obtain ⟨N, hN⟩ := XeJ a0 a1 a2 a3 hr.wf t0 t1
  refine (Xqz (OK.h GG gw _ hN) (fun g cs h => by cases h) hr).mono fun e W2 he => ?_
  obtain ⟨rfl, hB⟩ := he
  have hds : ds.length = 4 := by have := Xfj hA; simpa using this
  obtain ⟨x0, x1, x2, x3, rfl⟩ := len_4 hds
  exact ⟨_, rfl, Xq0 (tb := 4) rfl (by kernel_rfl) (XeN ty4) XsI read_lockstepMatches hW2 rfl hB⟩
def and2 {a b : Bool} (h : a = true) (k : b = true) : (a && b) = true := by rw [h, k]; rfl
def lockstepMatches_k0 : (Rows.lockstepMatchesRow.wf (OpenSpec.ofChange Rows.lockstepMatchesSpec)) = true := by kernel_rfl
def lockstepMatches_k1 : (laidOutB Tryz.prog) = true := by kernel_rfl
def lockstepMatches_k2 : (mapsRowed Tryz.prog) = true := by kernel_rfl
def lockstepMatches_k3 : (Tryz.f3.params.all (Tryz.prog.readableRec ·)) = true := by kernel_rfl
def lockstepMatches_k4 : (namedTie Tryz.prog Rows.lockstepMatchesRow.named Rows.lockstepMatchesSpec.vars) = true := by kernel_rfl
def lockstepMatches_k5 : ((Rows.lockstepMatchesRow.stops == [])) = true := by kernel_rfl
def lockstepMatches_k6 : ((Tryz.prog.stops == [])) = true := by kernel_rfl
def lockstepMatches_k7 : ((Rows.lockstepMatchesRow.knobs == [])) = true := by kernel_rfl
def lockstepMatches_k8 : ((Tryz.prog.stopKnobs == [])) = true := by kernel_rfl
def lockstepMatches_k9 : ((Rows.lockstepMatchesRow.inPlace == Tryz.prog.inPlace 3)) = true := by kernel_rfl
def lockstepMatches_k10 : ((Rows.lockstepMatchesRow.unfollowed == Tryz.prog.unfollowed 3)) = true := by kernel_rfl
def lockstepMatches_k11 : ((Rows.lockstepMatchesRow.recurses == Tryz.prog.recurses 3)) = true := by kernel_rfl
def lockstepMatches_k12 : ((Rows.lockstepMatchesRow.named == Tryz.prog.varsNamed 3)) = true := by kernel_rfl
def lockstepMatches_k13 : ((Rows.lockstepMatchesRow.maps == (Tryz.f3.params.toList ++ Rows.lockstepMatchesSpec.plain.varTypes Tryz.prog).any (Tryz.prog.mapsRec ·))) = true := by kernel_rfl
def lockstepMatches_k14 : ((Rows.lockstepMatchesRow.ifaces == (Tryz.f3.params.toList ++ Rows.lockstepMatchesSpec.plain.varTypes Tryz.prog).any (Tryz.prog.ifacesRec ·))) = true := by kernel_rfl
def lockstepMatches_k15 : ((Rows.lockstepMatchesRow.mapsOut == Tryz.prog.mapsAmong Tryz.f3.resultTypes.toList)) = true := by kernel_rfl
def lockstepMatches_k16 : ((Rows.lockstepMatchesRow.loops == (Tryz.f3.params.toList ++ Rows.lockstepMatchesSpec.plain.varTypes Tryz.prog).any (Tryz.prog.loopsFrom ·))) = true := by kernel_rfl
def lockstepMatches_k17 : ((Rows.lockstepMatchesRow.wideKeys == (Tryz.f3.params.toList ++ Rows.lockstepMatchesSpec.plain.varTypes Tryz.prog ++ Tryz.f3.resultTypes.toList).any (Tryz.prog.wideKeysFrom ·))) = true := by kernel_rfl
def lockstepMatches_k18 : (Rows.lockstepMatchesSpec.vars.all (Tryz.prog.varReadable ·)) = true := by kernel_rfl
def lockstepMatches_k19 : (Tryz.f3.resultTypes.all (fun t => Tryz.prog.readableRec t && decide (t < Tryz.prog.types.size))) = true := by kernel_rfl
def lockstepMatches_k20 : ((Rows.lockstepMatchesRow.ifacesOut == Tryz.f3.resultTypes.toList.any (Tryz.prog.ifacesRec ·))) = true := by kernel_rfl
def lockstepMatches_k21 : ((Rows.lockstepMatchesRow.loopsOut == Tryz.f3.resultTypes.toList.any (Tryz.prog.loopsFrom ·))) = true := by kernel_rfl
def lockstepMatches_k22 : ((Rows.lockstepMatchesRow.plainKeys == Tryz.prog.plainKeys)) = true := by kernel_rfl
def lockstepMatches_k23 : (Rows.lockstepMatchesRow.shortTexts.isNone) = true := by kernel_rfl
def lockstepMatches_k24 : (Tryz.prog.stopsHeard) = true := by kernel_rfl
def lockstepMatches_k25 : (Tryz.prog.mayEnter) = true := by kernel_rfl
def lockstepMatches_k26 : ((Rows.lockstepMatchesRow.lifted == Tryz.prog.liftsFinal)) = true := by kernel_rfl
def lockstepMatches_k27 : ((Tryz.prog.make == some Rows.lockstepMatchesRow.make)) = true := by kernel_rfl
def lockstepMatches_k28 : ((Rows.lockstepMatchesRow.kinds == (if Rows.lockstepMatchesRow.domain.isEmpty then [] else Tryz.f3.params.toList.map fun t => match Tryz.prog.underlying t with | some (.int k) => some k | _ => none))) = true := by kernel_rfl
def lockstepMatches_k29 : ((Rows.lockstepMatchesRow.pinned == Rows.lockstepMatchesRow.pinnedBy)) = true := by kernel_rfl
def lockstepMatches_k30 : ((Rows.lockstepMatchesRow.veiled == (Tryz.f3.params.toList ++ Rows.lockstepMatchesSpec.plain.varTypes Tryz.prog ++ Tryz.f3.resultTypes.toList).any (Tryz.prog.veiledRec ·))) = true := by kernel_rfl
def lockstepMatches_k31 : (Rows.lockstepMatchesRow.veiledFits Tryz.prog Tryz.f3.params.toList (Tryz.f3.params.toList ++ Rows.lockstepMatchesSpec.plain.varTypes Tryz.prog ++ Tryz.f3.resultTypes.toList)) = true := by kernel_rfl
set_option maxRecDepth 100000 in
def lockstepMatches_closed : joinedFacts Tryz.prog 3 Tryz.f3 Rows.lockstepMatchesSpec Rows.lockstepMatchesRow = true := by
  unfold joinedFacts
  exact (and2 (and2 (and2 (and2 (and2 (and2 (and2 (and2 (and2 (and2 (and2 (and2 (and2 (and2 (and2 (and2 (and2 (and2 (and2 (and2 (and2 (and2 (and2 (and2 (and2 (and2 (and2 (and2 (and2 (and2 (and2 lockstepMatches_k0 lockstepMatches_k1) lockstepMatches_k2) lockstepMatches_k3) lockstepMatches_k4) lockstepMatches_k5) lockstepMatches_k6) lockstepMatches_k7) lockstepMatches_k8) lockstepMatches_k9) lockstepMatches_k10) lockstepMatches_k11) lockstepMatches_k12) lockstepMatches_k13) lockstepMatches_k14) lockstepMatches_k15) lockstepMatches_k16) lockstepMatches_k17) lockstepMatches_k18) lockstepMatches_k19) lockstepMatches_k20) lockstepMatches_k21) lockstepMatches_k22) lockstepMatches_k23) lockstepMatches_k24) lockstepMatches_k25) lockstepMatches_k26) lockstepMatches_k27) lockstepMatches_k28) lockstepMatches_k29) lockstepMatches_k30) lockstepMatches_k31)
def lockstepMatches_row : Rows.LockstepMatchesSaid :=
  OpenClaim.holds_of_wide 3 Tryz.f3 rfl rfl rfl rfl rfl rfl rfl ⟨rfl, rfl, rfl, rfl, rfl⟩ rfl rfl rfl rfl rfl (by kernel_rfl) Tryz.func3 lockstepMatches_closed
    (Wq (by kernel_rfl)) (by unfold Func.isWrapper; first | (rw [Wn (by decide +kernel)]; kernel_rfl) | (rw [Wm (by decide +kernel)]; exact ⟨rfl, rfl⟩))
    (fun os started H enc _ => lockstepMatches_lifted os started H enc)
def lockstepMatches_holds : Rows.LockstepMatchesSaid := lockstepMatches_row
#print axioms lockstepMatches_holds
end Go.Proofs.YtjmgebidnekjdaaGreat
