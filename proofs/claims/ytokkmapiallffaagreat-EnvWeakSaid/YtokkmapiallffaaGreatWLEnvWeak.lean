/- Proved: semispacelaw18.EnvWeak answers true at every input that the given statement lets in, and leaves its arguments as they were.
   Conditions: those of the given statement alone (its arguments are well formed and fit into memory; the listed package-level variable has its initial value). -/
import Derived.Test.YtokkmapiallffaaGreatWH
import Derived.Test.YtokkmapiallffaaGreatWG18
set_option linter.all false
namespace Go.Proofs.YtokkmapiallffaaGreat
open Go Go.Sx Go.ChangeShapes Go.WideShapes Go.ChangeAt Go.WideElems Go.RowKit
def pre6_and {H : Type} {enc : TypeId × Value → H} {P : Program} {f : Func} {s : ChangeSpec} {c : List PathCond} {b : Bool} : s.pre6 enc P f c b = fun w args => (s.pre enc P f c b w args ∧ True) ∧ sizedMet enc P f (OpenSpec.ofChange s) b w args := by
  funext w args
  simp only [ChangeSpec.pre6, and_true]
def args_1 {α : Type} {l : List α} {v0 : α} (hl : l.length = 1) (h0 : l[0]? = some v0) : l = [v0] := by
  match l, hl with
  | [x0], _ =>
    simp at h0
    simp [h0]
def len_1 {α : Type} {l : List α} (hl : l.length = 1) : ∃ x0, l = [x0] := by
  match l, hl with
  | [x0], _ => exact ⟨x0, rfl⟩
def ok_envWeak : ∀ t ∈ [22], okS Tryz.prog 8 t = true := by decide +kernel
def read_envWeak : ∀ t ∈ Tryz.f3.params.toList, Tryz.prog.readableRec t = true ∧ t < Tryz.prog.types.size := by
  rw [Tryz.params3]
  exact Wv (by kernel_rfl)
set_option maxHeartbeats 8000000 in
set_option maxRecDepth 100000 in
def envWeak_lifted (os : Os) (started : os.Started) (H : Type) (enc : TypeId × Value → H) :
    ReturnsInHanded {} Tryz.checked os 3 .any (Rows.envWeakSpec.pre6 enc Tryz.prog Tryz.f3 [] false)
      (Rows.envWeakSpec.post enc Tryz.prog Tryz.f3 false true false false) := by
  rw [pre6_and]
  refine returnsInHanded_of_change_and (C := Tryz.checked) (X := fun _ _ => True) (fun _ _ _ _ _ => trivial) own started (by kernel_rfl) Tryz.func3
    (ChangeSpec.witness_shaped (enc := enc) (C := Tryz.checked) (os := os) (X := fun _ _ => True) false (World.doorLaid Tryz.prog 400 os) #[.slice none 0 0] 8 rfl (World.shaped_of_RefB (by kernel_rfl) (by kernel_rfl)) (by kernel_rfl) (by kernel_rfl) (by kernel_rfl) trivial) ?_
  intro W base args ds gs before hval0 hW _ hz0 hL _
  have hval : ∀ (j : Nat) t v, Tryz.f3.params[j]? = some t → args[j]? = some v → Value.okWide Tryz.prog W .any base t v := hval0
  rw [Tryz.params3] at hval
  have hW2 := hW
  obtain ⟨p, q, hA0, hV, rfl, _, _⟩ := hW
  have hA : DataW.TrodAll enc Tryz.prog W 0 (fun _ => true) true [22] args.toList ds p := hA0
  obtain ⟨rfl, rfl⟩ := trodVars_none hV
  have hts : (Tryz.f3.params.toList ++ DataSpec.varTypes Tryz.checked.prog Rows.envWeakSpec.plain) = [22] := by kernel_rfl
  rw [hts, Ib] at hz0
  have hz : ∀ x ∈ DataW.weightsEach Tryz.prog [22] ds, x ≤ reachBytes := fun x hx => by simpa using W0.1 hz0 x hx
  obtain ⟨dss, _, l2, l3⟩ := XkV (P := Tryz.prog) 8 ok_envWeak hA hz
  obtain ⟨d0, v0, _, k0, s0, r0⟩ := l3 0 22 rfl
  obtain ⟨al⟩ := args
  obtain rfl := args_1 (l := al) l2 k0
  obtain ⟨a0, rfl, _, t0⟩ := XuS _ _ s0
  have q0 := Xsn Xtb (hval 0 22 v0 rfl rfl) r0
  have hr : RepL Tryz.prog (KR W) YK [.isl 3 1 (a0.map e3)] [v0] := by
    simp only [RepL]
    exact ⟨_, _, rfl, q0, rfl⟩
  obtain ⟨N, hN⟩ := XoG a0 hr.wf 
  refine (Xsm (OK.h GG gw _ hN) (fun g cs h => gg0 h) hr).mono fun e W2 he => ?_
  obtain ⟨rfl, hB⟩ := he
  have hds : ds.length = 1 := by have := XgS hA; simpa using this
  obtain ⟨x0, rfl⟩ := len_1 hds
  exact ⟨_, rfl, XsM (tb := 4) rfl (by kernel_rfl) (XlD ty4) Xt2 read_envWeak hW2 rfl hB⟩
def and2 {a b : Bool} (h : a = true) (k : b = true) : (a && b) = true := by rw [h, k]; rfl
def envWeak_k0 : (Rows.envWeakRow.wf (OpenSpec.ofChange Rows.envWeakSpec)) = true := by kernel_rfl
def envWeak_k1 : (laidOutB Tryz.prog) = true := by kernel_rfl
def envWeak_k2 : (mapsRowed Tryz.prog) = true := by kernel_rfl
def envWeak_k3 : (Tryz.f3.params.all (Tryz.prog.readableRec ·)) = true := by kernel_rfl
def envWeak_k4 : (namedTie Tryz.prog Rows.envWeakRow.named Rows.envWeakSpec.vars) = true := by kernel_rfl
def envWeak_k5 : ((Rows.envWeakRow.stops == [])) = true := by kernel_rfl
def envWeak_k6 : ((Tryz.prog.stops == [])) = true := by kernel_rfl
def envWeak_k7 : ((Rows.envWeakRow.knobs == [])) = true := by kernel_rfl
def envWeak_k8 : ((Tryz.prog.stopKnobs == [])) = true := by kernel_rfl
def envWeak_k9 : ((Rows.envWeakRow.inPlace == Tryz.prog.inPlace 3)) = true := by kernel_rfl
def envWeak_k10 : ((Rows.envWeakRow.unfollowed == Tryz.prog.unfollowed 3)) = true := by kernel_rfl
def envWeak_k11 : ((Rows.envWeakRow.recurses == Tryz.prog.recurses 3)) = true := by kernel_rfl
def envWeak_k12 : ((Rows.envWeakRow.named == Tryz.prog.varsNamed 3)) = true := by kernel_rfl
def envWeak_k13 : ((Rows.envWeakRow.maps == (Tryz.f3.params.toList ++ Rows.envWeakSpec.plain.varTypes Tryz.prog).any (Tryz.prog.mapsRec ·))) = true := by kernel_rfl
def envWeak_k14 : ((Rows.envWeakRow.ifaces == (Tryz.f3.params.toList ++ Rows.envWeakSpec.plain.varTypes Tryz.prog).any (Tryz.prog.ifacesRec ·))) = true := by kernel_rfl
def envWeak_k15 : ((Rows.envWeakRow.mapsOut == Tryz.prog.mapsAmong Tryz.f3.resultTypes.toList)) = true := by kernel_rfl
def envWeak_k16 : ((Rows.envWeakRow.loops == (Tryz.f3.params.toList ++ Rows.envWeakSpec.plain.varTypes Tryz.prog).any (Tryz.prog.loopsFrom ·))) = true := by kernel_rfl
def envWeak_k17 : ((Rows.envWeakRow.wideKeys == (Tryz.f3.params.toList ++ Rows.envWeakSpec.plain.varTypes Tryz.prog ++ Tryz.f3.resultTypes.toList).any (Tryz.prog.wideKeysFrom ·))) = true := by kernel_rfl
def envWeak_k18 : (Rows.envWeakSpec.vars.all (Tryz.prog.varReadable ·)) = true := by kernel_rfl
def envWeak_k19 : (Tryz.f3.resultTypes.all (fun t => Tryz.prog.readableRec t && decide (t < Tryz.prog.types.size))) = true := by kernel_rfl
def envWeak_k20 : ((Rows.envWeakRow.ifacesOut == Tryz.f3.resultTypes.toList.any (Tryz.prog.ifacesRec ·))) = true := by kernel_rfl
def envWeak_k21 : ((Rows.envWeakRow.loopsOut == Tryz.f3.resultTypes.toList.any (Tryz.prog.loopsFrom ·))) = true := by kernel_rfl
def envWeak_k22 : ((Rows.envWeakRow.plainKeys == Tryz.prog.plainKeys)) = true := by kernel_rfl
def envWeak_k23 : (Rows.envWeakRow.shortTexts.isNone) = true := by kernel_rfl
def envWeak_k24 : (Tryz.prog.stopsHeard) = true := by kernel_rfl
def envWeak_k25 : (Tryz.prog.mayEnter) = true := by kernel_rfl
def envWeak_k26 : ((Rows.envWeakRow.lifted == Tryz.prog.liftsFinal)) = true := by kernel_rfl
def envWeak_k27 : ((Tryz.prog.make == some Rows.envWeakRow.make)) = true := by kernel_rfl
def envWeak_k28 : ((Rows.envWeakRow.kinds == (if Rows.envWeakRow.domain.isEmpty then [] else Tryz.f3.params.toList.map fun t => match Tryz.prog.underlying t with | some (.int k) => some k | _ => none))) = true := by kernel_rfl
def envWeak_k29 : ((Rows.envWeakRow.pinned == Rows.envWeakRow.pinnedBy)) = true := by kernel_rfl
def envWeak_k30 : ((Rows.envWeakRow.veiled == (Tryz.f3.params.toList ++ Rows.envWeakSpec.plain.varTypes Tryz.prog ++ Tryz.f3.resultTypes.toList).any (Tryz.prog.veiledRec ·))) = true := by kernel_rfl
def envWeak_k31 : (Rows.envWeakRow.veiledFits Tryz.prog Tryz.f3.params.toList (Tryz.f3.params.toList ++ Rows.envWeakSpec.plain.varTypes Tryz.prog ++ Tryz.f3.resultTypes.toList)) = true := by kernel_rfl
set_option maxRecDepth 100000 in
def envWeak_closed : joinedFacts Tryz.prog 3 Tryz.f3 Rows.envWeakSpec Rows.envWeakRow = true := by
  unfold joinedFacts
  exact (and2 (and2 (and2 (and2 (and2 (and2 (and2 (and2 (and2 (and2 (and2 (and2 (and2 (and2 (and2 (and2 (and2 (and2 (and2 (and2 (and2 (and2 (and2 (and2 (and2 (and2 (and2 (and2 (and2 (and2 (and2 envWeak_k0 envWeak_k1) envWeak_k2) envWeak_k3) envWeak_k4) envWeak_k5) envWeak_k6) envWeak_k7) envWeak_k8) envWeak_k9) envWeak_k10) envWeak_k11) envWeak_k12) envWeak_k13) envWeak_k14) envWeak_k15) envWeak_k16) envWeak_k17) envWeak_k18) envWeak_k19) envWeak_k20) envWeak_k21) envWeak_k22) envWeak_k23) envWeak_k24) envWeak_k25) envWeak_k26) envWeak_k27) envWeak_k28) envWeak_k29) envWeak_k30) envWeak_k31)
def envWeak_row : Rows.EnvWeakSaid :=
  OpenClaim.holds_of_wide 3 Tryz.f3 rfl rfl rfl rfl rfl rfl rfl ⟨rfl, rfl, rfl, rfl, rfl⟩ rfl rfl rfl rfl rfl (by kernel_rfl) Tryz.func3 envWeak_closed
    (Wv (by kernel_rfl)) (by unfold Func.isWrapper; first | (rw [Wn (by decide +kernel)]; kernel_rfl) | (rw [Wk (by decide +kernel)]; exact ⟨rfl, rfl⟩))
    (fun os started H enc _ => envWeak_lifted os started H enc)
def envWeak_holds : Rows.EnvWeakSaid := envWeak_row
#print axioms envWeak_holds
end Go.Proofs.YtokkmapiallffaaGreat
