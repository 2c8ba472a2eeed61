/- Proved: semispacelaw18.EnvCollects answers true at every input that the given statement lets in, and leaves its arguments as they were.
   Conditions: those of the given statement alone (its arguments are well formed and fit into memory; the listed package-level variable has its initial value). -/
import Derived.Test.YtmpbhfnjjaocoaaGreatCH
import Derived.Test.YtmpbhfnjjaocoaaGreatCG32
set_option linter.all false
namespace Go.Proofs.YtmpbhfnjjaocoaaGreat
open Go Go.Sx Go.ChangeShapes Go.WideShapes Go.ChangeAt Go.WideElems Go.RowKit
def pre6_and {H : Type} {enc : TypeId × Value → H} {P : Program} {f : Func} {s : ChangeSpec} {c : List PathCond} {b : Bool} : s.pre6 enc P f c b = fun w args => (s.pre enc P f c b w args ∧ True) ∧ sizedMet enc P f (OpenSpec.ofChange s) b w args := by
  funext w args
  simp only [ChangeSpec.pre6, and_true]
def args_3 {α : Type} {l : List α} {v0 v1 v2 : α} (hl : l.length = 3) (h0 : l[0]? = some v0) (h1 : l[1]? = some v1) (h2 : l[2]? = some v2) : l = [v0, v1, v2] := by
  match l, hl with
  | [x0, x1, x2], _ =>
    simp at h0 h1 h2
    simp [h0, h1, h2]
def len_3 {α : Type} {l : List α} (hl : l.length = 3) : ∃ x0 x1 x2, l = [x0, x1, x2] := by
  match l, hl with
  | [x0, x1, x2], _ => exact ⟨x0, x1, x2, rfl⟩
def ok_envCollects : ∀ t ∈ [38, 30, 30], okS Tryz.prog 8 t = true := by decide +kernel
def read_envCollects : ∀ t ∈ Tryz.f3.params.toList, Tryz.prog.readableRec t = true ∧ t < Tryz.prog.types.size := by
  rw [Tryz.params3]
  exact Wu (by kernel_rfl)
set_option maxHeartbeats 8000000 in
set_option maxRecDepth 100000 in
def envCollects_lifted (os : Os) (started : os.Started) (H : Type) (enc : TypeId × Value → H) :
    ReturnsInHanded {} Tryz.checked os 3 .any (Rows.envCollectsSpec.pre6 enc Tryz.prog Tryz.f3 [] false)
      (Rows.envCollectsSpec.post enc Tryz.prog Tryz.f3 false true false false) := by
  rw [pre6_and]
  refine returnsInHanded_of_change_and (C := Tryz.checked) (X := fun _ _ => True) (fun _ _ _ _ _ => trivial) own started (by kernel_rfl) Tryz.func3
    (ChangeSpec.witness_shaped (enc := enc) (C := Tryz.checked) (os := os) (X := fun _ _ => True) false (World.doorLaid Tryz.prog 400 os) #[.agg #[.int .i64 0, .int .i64 0, .slice none 0 0, .slice none 0 0, .int .i64 0, .int .i64 0, .slice none 0 0, .slice none 0 0, .slice none 0 0, .slice none 0 0, .slice none 0 0, .slice none 0 0, .slice none 0 0], .slice none 0 0, .slice none 0 0] 8 rfl (World.shaped_of_RefB (by kernel_rfl) (by kernel_rfl)) (by kernel_rfl) (by kernel_rfl) (by kernel_rfl) trivial) ?_
  intro W base args ds gs before hval0 hW _ hz0 hL _
  have hval : ∀ (j : Nat) t v, Tryz.f3.params[j]? = some t → args[j]? = some v → Value.okWide Tryz.prog W .any base t v := hval0
  rw [Tryz.params3] at hval
  have hW2 := hW
  obtain ⟨p, q, hA0, hV, rfl, _, _⟩ := hW
  have hA : DataW.TrodAll enc Tryz.prog W 0 (fun _ => true) true [38, 30, 30] args.toList ds p := hA0
  obtain ⟨rfl, rfl⟩ := trodVars_none hV
  have hts : (Tryz.f3.params.toList ++ DataSpec.varTypes Tryz.checked.prog Rows.envCollectsSpec.plain) = [38, 30, 30] := by kernel_rfl
  rw [hts, U1] at hz0
  have hz : ∀ x ∈ DataW.weightsEach Tryz.prog [38, 30, 30] ds, x ≤ reachBytes := fun x hx => by simpa using Ud.1 hz0 x hx
  obtain ⟨dss, _, l2, l3⟩ := XiY (P := Tryz.prog) 8 ok_envCollects hA hz
  obtain ⟨d0, v0, _, k0, s0, r0⟩ := l3 0 38 rfl
  obtain ⟨d1, v1, _, k1, s1, r1⟩ := l3 1 30 rfl
  obtain ⟨d2, v2, _, k2, s2, r2⟩ := l3 2 30 rfl
  obtain ⟨al⟩ := args
  obtain rfl := args_3 (l := al) l2 k0 k1 k2
  obtain ⟨a0, rfl, t0⟩ := Xtn _ _ s0
  have q0 := XpP XrK (hval 0 38 v0 rfl rfl) r0
  obtain ⟨a1, rfl, _, t1⟩ := Xsu _ _ s1
  have q1 := XqL XrF (hval 1 30 v1 rfl rfl) r1
  obtain ⟨a2, rfl, _, t2⟩ := Xsu _ _ s2
  have q2 := XqL XrF (hval 2 30 v2 rfl rfl) r2
  have hr : RepL Tryz.prog (Ko W) Yt [.agg (e38 a0), .isl 3 1 (a1.map e3), .isl 3 1 (a2.map e3)] [v0, v1, v2] := by
    simp only [RepL]
    exact ⟨_, _, rfl, q0, ⟨_, _, rfl, q1, ⟨_, _, rfl, q2, rfl⟩⟩⟩
  obtain ⟨N, hN⟩ := Xit a0 a1 a2 hr.wf t0
  refine (XqK (OK.h GG gw _ hN) (fun g cs h => gg0 h) hr).mono fun e W2 he => ?_
  obtain ⟨rfl, hB⟩ := he
  have hds : ds.length = 3 := by have := Xfy hA; simpa using this
  obtain ⟨x0, x1, x2, rfl⟩ := len_3 hds
  exact ⟨_, rfl, Xra (tb := 4) rfl (by kernel_rfl) (Xe2 ty4) XsM read_envCollects hW2 rfl hB⟩
def and2 {a b : Bool} (h : a = true) (k : b = true) : (a && b) = true := by rw [h, k]; rfl
def envCollects_k0 : (Rows.envCollectsRow.wf (OpenSpec.ofChange Rows.envCollectsSpec)) = true := by kernel_rfl
def envCollects_k1 : (laidOutB Tryz.prog) = true := by kernel_rfl
def envCollects_k2 : (mapsRowed Tryz.prog) = true := by kernel_rfl
def envCollects_k3 : (Tryz.f3.params.all (Tryz.prog.readableRec ·)) = true := by kernel_rfl
def envCollects_k4 : (namedTie Tryz.prog Rows.envCollectsRow.named Rows.envCollectsSpec.vars) = true := by kernel_rfl
def envCollects_k5 : ((Rows.envCollectsRow.stops == [])) = true := by kernel_rfl
def envCollects_k6 : ((Tryz.prog.stops == [])) = true := by kernel_rfl
def envCollects_k7 : ((Rows.envCollectsRow.knobs == [])) = true := by kernel_rfl
def envCollects_k8 : ((Tryz.prog.stopKnobs == [])) = true := by kernel_rfl
def envCollects_k9 : ((Rows.envCollectsRow.inPlace == Tryz.prog.inPlace 3)) = true := by kernel_rfl
def envCollects_k10 : ((Rows.envCollectsRow.unfollowed == Tryz.prog.unfollowed 3)) = true := by kernel_rfl
def envCollects_k11 : ((Rows.envCollectsRow.recurses == Tryz.prog.recurses 3)) = true := by kernel_rfl
def envCollects_k12 : ((Rows.envCollectsRow.named == Tryz.prog.varsNamed 3)) = true := by kernel_rfl
def envCollects_k13 : ((Rows.envCollectsRow.maps == (Tryz.f3.params.toList ++ Rows.envCollectsSpec.plain.varTypes Tryz.prog).any (Tryz.prog.mapsRec ·))) = true := by kernel_rfl
def envCollects_k14 : ((Rows.envCollectsRow.ifaces == (Tryz.f3.params.toList ++ Rows.envCollectsSpec.plain.varTypes Tryz.prog).any (Tryz.prog.ifacesRec ·))) = true := by kernel_rfl
def envCollects_k15 : ((Rows.envCollectsRow.mapsOut == Tryz.prog.mapsAmong Tryz.f3.resultTypes.toList)) = true := by kernel_rfl
def envCollects_k16 : ((Rows.envCollectsRow.loops == (Tryz.f3.params.toList ++ Rows.envCollectsSpec.plain.varTypes Tryz.prog).any (Tryz.prog.loopsFrom ·))) = true := by kernel_rfl
def envCollects_k17 : ((Rows.envCollectsRow.wideKeys == (Tryz.f3.params.toList ++ Rows.envCollectsSpec.plain.varTypes Tryz.prog ++ Tryz.f3.resultTypes.toList).any (Tryz.prog.wideKeysFrom ·))) = true := by kernel_rfl
def envCollects_k18 : (Rows.envCollectsSpec.vars.all (Tryz.prog.varReadable ·)) = true := by kernel_rfl
def envCollects_k19 : (Tryz.f3.resultTypes.all (fun t => Tryz.prog.readableRec t && decide (t < Tryz.prog.types.size))) = true := by kernel_rfl
def envCollects_k20 : ((Rows.envCollectsRow.ifacesOut == Tryz.f3.resultTypes.toList.any (Tryz.prog.ifacesRec ·))) = true := by kernel_rfl
def envCollects_k21 : ((Rows.envCollectsRow.loopsOut == Tryz.f3.resultTypes.toList.any (Tryz.prog.loopsFrom ·))) = true := by kernel_rfl
def envCollects_k22 : ((Rows.envCollectsRow.plainKeys == Tryz.prog.plainKeys)) = true := by kernel_rfl
def envCollects_k23 : (Rows.envCollectsRow.shortTexts.isNone) = true := by kernel_rfl
def envCollects_k24 : (Tryz.prog.stopsHeard) = true := by kernel_rfl
def envCollects_k25 : (Tryz.prog.mayEnter) = true := by kernel_rfl
def envCollects_k26 : ((Rows.envCollectsRow.lifted == Tryz.prog.liftsFinal)) = true := by kernel_rfl
def envCollects_k27 : ((Tryz.prog.make == some Rows.envCollectsRow.make)) = true := by kernel_rfl
def envCollects_k28 : ((Rows.envCollectsRow.kinds == (if Rows.envCollectsRow.domain.isEmpty then [] else Tryz.f3.params.toList.map fun t => match Tryz.prog.underlying t with | some (.int k) => some k | _ => none))) = true := by kernel_rfl
def envCollects_k29 : ((Rows.envCollectsRow.pinned == Rows.envCollectsRow.pinnedBy)) = true := by kernel_rfl
def envCollects_k30 : ((Rows.envCollectsRow.veiled == (Tryz.f3.params.toList ++ Rows.envCollectsSpec.plain.varTypes Tryz.prog ++ Tryz.f3.resultTypes.toList).any (Tryz.prog.veiledRec ·))) = true := by kernel_rfl
def envCollects_k31 : (Rows.envCollectsRow.veiledFits Tryz.prog Tryz.f3.params.toList (Tryz.f3.params.toList ++ Rows.envCollectsSpec.plain.varTypes Tryz.prog ++ Tryz.f3.resultTypes.toList)) = true := by kernel_rfl
set_option maxRecDepth 100000 in
def envCollects_closed : joinedFacts Tryz.prog 3 Tryz.f3 Rows.envCollectsSpec Rows.envCollectsRow = true := by
  unfold joinedFacts
  exact (and2 (and2 (and2 (and2 (and2 (and2 (and2 (and2 (and2 (and2 (and2 (and2 (and2 (and2 (and2 (and2 (and2 (and2 (and2 (and2 (and2 (and2 (and2 (and2 (and2 (and2 (and2 (and2 (and2 (and2 (and2 envCollects_k0 envCollects_k1) envCollects_k2) envCollects_k3) envCollects_k4) envCollects_k5) envCollects_k6) envCollects_k7) envCollects_k8) envCollects_k9) envCollects_k10) envCollects_k11) envCollects_k12) envCollects_k13) envCollects_k14) envCollects_k15) envCollects_k16) envCollects_k17) envCollects_k18) envCollects_k19) envCollects_k20) envCollects_k21) envCollects_k22) envCollects_k23) envCollects_k24) envCollects_k25) envCollects_k26) envCollects_k27) envCollects_k28) envCollects_k29) envCollects_k30) envCollects_k31)
def envCollects_row : Rows.EnvCollectsSaid :=
  OpenClaim.holds_of_wide 3 Tryz.f3 rfl rfl rfl rfl rfl rfl rfl ⟨rfl, rfl, rfl, rfl, rfl⟩ rfl rfl rfl rfl rfl (by kernel_rfl) Tryz.func3 envCollects_closed
    (Wu (by kernel_rfl)) (by unfold Func.isWrapper; first | (rw [Wp (by decide +kernel)]; kernel_rfl) | (rw [Wn (by decide +kernel)]; exact ⟨rfl, rfl⟩))
    (fun os started H enc _ => envCollects_lifted os started H enc)
def envCollects_holds : Rows.EnvCollectsSaid := envCollects_row
#print axioms envCollects_holds
end Go.Proofs.YtmpbhfnjjaocoaaGreat
