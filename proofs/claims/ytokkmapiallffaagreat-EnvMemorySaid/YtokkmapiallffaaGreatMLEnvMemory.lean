/- Proved: semispacelaw18.EnvMemory answers true at every input that the given statement lets in, and leaves its arguments as they were.
   Conditions: those of the given statement alone (its arguments are well formed and fit into memory; the listed package-level variable has its initial value). -/
import Derived.Test.YtokkmapiallffaaGreatMH
import Derived.Test.YtokkmapiallffaaGreatMG26
set_option linter.all false
namespace Go.Proofs.YtokkmapiallffaaGreat
open Go Go.Sx Go.ChangeShapes Go.WideShapes Go.ChangeAt Go.WideElems Go.RowKit
def pre6_and {H : Type} {enc : TypeId × Value → H} {P : Program} {f : Func} {s : ChangeSpec} {c : List PathCond} {b : Bool} : s.pre6 enc P f c b = fun w args => (s.pre enc P f c b w args ∧ True) ∧ sizedMet enc P f (OpenSpec.ofChange s) b w args := by
  funext w args
  simp only [ChangeSpec.pre6, and_true]
def args_2 {α : Type} {l : List α} {v0 v1 : α} (hl : l.length = 2) (h0 : l[0]? = some v0) (h1 : l[1]? = some v1) : l = [v0, v1] := by
  match l, hl with
  | [x0, x1], _ =>
    simp at h0 h1
    simp [h0, h1]
def len_2 {α : Type} {l : List α} (hl : l.length = 2) : ∃ x0 x1, l = [x0, x1] := by
  match l, hl with
  | [x0, x1], _ => exact ⟨x0, x1, rfl⟩
def ok_envMemory : ∀ t ∈ [22, 22], okS Tryz.prog 8 t = true := by decide +kernel
def read_envMemory : ∀ t ∈ Tryz.f4.params.toList, Tryz.prog.readableRec t = true ∧ t < Tryz.prog.types.size := by
  rw [Tryz.params4]
  exact Wx (by kernel_rfl)
set_option maxHeartbeats 8000000 in
set_option maxRecDepth 100000 in
def envMemory_lifted (os : Os) (started : os.Started) (H : Type) (enc : TypeId × Value → H) :
    ReturnsInHanded {} Tryz.checked os 4 .any (Rows.envMemorySpec.pre6 enc Tryz.prog Tryz.f4 [] false)
      (Rows.envMemorySpec.post enc Tryz.prog Tryz.f4 false true false false) := by
  rw [pre6_and]
  refine returnsInHanded_of_change_and (C := Tryz.checked) (X := fun _ _ => True) (fun _ _ _ _ _ => trivial) own started (by kernel_rfl) Tryz.func4
    (ChangeSpec.witness_shaped (enc := enc) (C := Tryz.checked) (os := os) (X := fun _ _ => True) false (World.doorLaid Tryz.prog 400 os) #[.slice none 0 0, .slice none 0 0] 8 rfl (World.shaped_of_RefB (by kernel_rfl) (by kernel_rfl)) (by kernel_rfl) (by kernel_rfl) (by kernel_rfl) trivial) ?_
  intro W base args ds gs before hval0 hW _ hz0 hL _
  have hval : ∀ (j : Nat) t v, Tryz.f4.params[j]? = some t → args[j]? = some v → Value.okWide Tryz.prog W .any base t v := hval0
  rw [Tryz.params4] at hval
  have hW2 := hW
  obtain ⟨p, q, hA0, hV, rfl, _, _⟩ := hW
  have hA : DataW.TrodAll enc Tryz.prog W 0 (fun _ => true) true [22, 22] args.toList ds p := hA0
  obtain ⟨rfl, rfl⟩ := trodVars_none hV
  have hts : (Tryz.f4.params.toList ++ DataSpec.varTypes Tryz.checked.prog Rows.envMemorySpec.plain) = [22, 22] := by kernel_rfl
  rw [hts, Ih] at hz0
  have hz : ∀ x ∈ DataW.weightsEach Tryz.prog [22, 22] ds, x ≤ reachBytes := fun x hx => by simpa using W0.1 hz0 x hx
  obtain ⟨dss, _, l2, l3⟩ := XlZ (P := Tryz.prog) 8 ok_envMemory hA hz
  obtain ⟨d0, v0, _, k0, s0, r0⟩ := l3 0 22 rfl
  obtain ⟨d1, v1, _, k1, s1, r1⟩ := l3 1 22 rfl
  obtain ⟨al⟩ := args
  obtain rfl := args_2 (l := al) l2 k0 k1
  obtain ⟨a0, rfl, _, t0⟩ := Xv9 _ _ s0
  have q0 := Xtr Xui (hval 0 22 v0 rfl rfl) r0
  obtain ⟨a1, rfl, _, t1⟩ := Xv9 _ _ s1
  have q1 := Xtr Xui (hval 1 22 v1 rfl rfl) r1
  have hr : RepL Tryz.prog (KO W) Yx [.isl 3 1 (a0.map e3), .isl 3 1 (a1.map e3)] [v0, v1] := by
    simp only [RepL]
    exact ⟨_, _, rfl, q0, ⟨_, _, rfl, q1, rfl⟩⟩
  obtain ⟨N, hN⟩ := XmC a0 a1 hr.wf 
  refine (Xtq (OK.h GG gw _ hN) (fun g cs h => gg0 h) hr).mono fun e W2 he => ?_
  obtain ⟨rfl, hB⟩ := he
  have hds : ds.length = 2 := by have := XhI hA; simpa using this
  obtain ⟨x0, x1, rfl⟩ := len_2 hds
  exact ⟨_, rfl, XtR (tb := 4) rfl (by kernel_rfl) (XmI ty4) Xvg read_envMemory hW2 rfl hB⟩
def and2 {a b : Bool} (h : a = true) (k : b = true) : (a && b) = true := by rw [h, k]; rfl
def envMemory_k0 : (Rows.envMemoryRow.wf (OpenSpec.ofChange Rows.envMemorySpec)) = true := by kernel_rfl
def envMemory_k1 : (laidOutB Tryz.prog) = true := by kernel_rfl
def envMemory_k2 : (mapsRowed Tryz.prog) = true := by kernel_rfl
def envMemory_k3 : (Tryz.f4.params.all (Tryz.prog.readableRec ·)) = true := by kernel_rfl
def envMemory_k4 : (namedTie Tryz.prog Rows.envMemoryRow.named Rows.envMemorySpec.vars) = true := by kernel_rfl
def envMemory_k5 : ((Rows.envMemoryRow.stops == [])) = true := by kernel_rfl
def envMemory_k6 : ((Tryz.prog.stops == [])) = true := by kernel_rfl
def envMemory_k7 : ((Rows.envMemoryRow.knobs == [])) = true := by kernel_rfl
def envMemory_k8 : ((Tryz.prog.stopKnobs == [])) = true := by kernel_rfl
def envMemory_k9 : ((Rows.envMemoryRow.inPlace == Tryz.prog.inPlace 4)) = true := by kernel_rfl
def envMemory_k10 : ((Rows.envMemoryRow.unfollowed == Tryz.prog.unfollowed 4)) = true := by kernel_rfl
def envMemory_k11 : ((Rows.envMemoryRow.recurses == Tryz.prog.recurses 4)) = true := by kernel_rfl
def envMemory_k12 : ((Rows.envMemoryRow.named == Tryz.prog.varsNamed 4)) = true := by kernel_rfl
def envMemory_k13 : ((Rows.envMemoryRow.maps == (Tryz.f4.params.toList ++ Rows.envMemorySpec.plain.varTypes Tryz.prog).any (Tryz.prog.mapsRec ·))) = true := by kernel_rfl
def envMemory_k14 : ((Rows.envMemoryRow.ifaces == (Tryz.f4.params.toList ++ Rows.envMemorySpec.plain.varTypes Tryz.prog).any (Tryz.prog.ifacesRec ·))) = true := by kernel_rfl
def envMemory_k15 : ((Rows.envMemoryRow.mapsOut == Tryz.prog.mapsAmong Tryz.f4.resultTypes.toList)) = true := by kernel_rfl
def envMemory_k16 : ((Rows.envMemoryRow.loops == (Tryz.f4.params.toList ++ Rows.envMemorySpec.plain.varTypes Tryz.prog).any (Tryz.prog.loopsFrom ·))) = true := by kernel_rfl
def envMemory_k17 : ((Rows.envMemoryRow.wideKeys == (Tryz.f4.params.toList ++ Rows.envMemorySpec.plain.varTypes Tryz.prog ++ Tryz.f4.resultTypes.toList).any (Tryz.prog.wideKeysFrom ·))) = true := by kernel_rfl
def envMemory_k18 : (Rows.envMemorySpec.vars.all (Tryz.prog.varReadable ·)) = true := by kernel_rfl
def envMemory_k19 : (Tryz.f4.resultTypes.all (fun t => Tryz.prog.readableRec t && decide (t < Tryz.prog.types.size))) = true := by kernel_rfl
def envMemory_k20 : ((Rows.envMemoryRow.ifacesOut == Tryz.f4.resultTypes.toList.any (Tryz.prog.ifacesRec ·))) = true := by kernel_rfl
def envMemory_k21 : ((Rows.envMemoryRow.loopsOut == Tryz.f4.resultTypes.toList.any (Tryz.prog.loopsFrom ·))) = true := by kernel_rfl
def envMemory_k22 : ((Rows.envMemoryRow.plainKeys == Tryz.prog.plainKeys)) = true := by kernel_rfl
def envMemory_k23 : (Rows.envMemoryRow.shortTexts.isNone) = true := by kernel_rfl
def envMemory_k24 : (Tryz.prog.stopsHeard) = true := by kernel_rfl
def envMemory_k25 : (Tryz.prog.mayEnter) = true := by kernel_rfl
def envMemory_k26 : ((Rows.envMemoryRow.lifted == Tryz.prog.liftsFinal)) = true := by kernel_rfl
def envMemory_k27 : ((Tryz.prog.make == some Rows.envMemoryRow.make)) = true := by kernel_rfl
def envMemory_k28 : ((Rows.envMemoryRow.kinds == (if Rows.envMemoryRow.domain.isEmpty then [] else Tryz.f4.params.toList.map fun t => match Tryz.prog.underlying t with | some (.int k) => some k | _ => none))) = true := by kernel_rfl
def envMemory_k29 : ((Rows.envMemoryRow.pinned == Rows.envMemoryRow.pinnedBy)) = true := by kernel_rfl
def envMemory_k30 : ((Rows.envMemoryRow.veiled == (Tryz.f4.params.toList ++ Rows.envMemorySpec.plain.varTypes Tryz.prog ++ Tryz.f4.resultTypes.toList).any (Tryz.prog.veiledRec ·))) = true := by kernel_rfl
def envMemory_k31 : (Rows.envMemoryRow.veiledFits Tryz.prog Tryz.f4.params.toList (Tryz.f4.params.toList ++ Rows.envMemorySpec.plain.varTypes Tryz.prog ++ Tryz.f4.resultTypes.toList)) = true := by kernel_rfl
set_option maxRecDepth 100000 in
def envMemory_closed : joinedFacts Tryz.prog 4 Tryz.f4 Rows.envMemorySpec Rows.envMemoryRow = true := by
  unfold joinedFacts
  exact (and2 (and2 (and2 (and2 (and2 (and2 (and2 (and2 (and2 (and2 (and2 (and2 (and2 (and2 (and2 (and2 (and2 (and2 (and2 (and2 (and2 (and2 (and2 (and2 (and2 (and2 (and2 (and2 (and2 (and2 (and2 envMemory_k0 envMemory_k1) envMemory_k2) envMemory_k3) envMemory_k4) envMemory_k5) envMemory_k6) envMemory_k7) envMemory_k8) envMemory_k9) envMemory_k10) envMemory_k11) envMemory_k12) envMemory_k13) envMemory_k14) envMemory_k15) envMemory_k16) envMemory_k17) envMemory_k18) envMemory_k19) envMemory_k20) envMemory_k21) envMemory_k22) envMemory_k23) envMemory_k24) envMemory_k25) envMemory_k26) envMemory_k27) envMemory_k28) envMemory_k29) envMemory_k30) envMemory_k31)
def envMemory_row : Rows.EnvMemorySaid :=
  OpenClaim.holds_of_wide 4 Tryz.f4 rfl rfl rfl rfl rfl rfl rfl ⟨rfl, rfl, rfl, rfl, rfl⟩ rfl rfl rfl rfl rfl (by kernel_rfl) Tryz.func4 envMemory_closed
    (Wx (by kernel_rfl)) (by unfold Func.isWrapper; first | (rw [Wm (by decide +kernel)]; kernel_rfl) | (rw [Wj (by decide +kernel)]; exact ⟨rfl, rfl⟩))
    (fun os started H enc _ => envMemory_lifted os started H enc)
def envMemory_holds : Rows.EnvMemorySaid := envMemory_row
#print axioms envMemory_holds
end Go.Proofs.YtokkmapiallffaaGreat
