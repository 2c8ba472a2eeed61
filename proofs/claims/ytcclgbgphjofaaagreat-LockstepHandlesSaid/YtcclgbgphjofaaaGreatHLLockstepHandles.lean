/- Proved: semispacelaw28.LockstepHandles answers true at every input that the given statement lets in, and leaves its arguments as they were.
   Conditions: those of the given statement alone (its arguments are well formed and fit into memory; the listed package-level variable has its initial value). -/
import Derived.Test.YtcclgbgphjofaaaGreatHH
import Derived.Test.YtcclgbgphjofaaaGreatHG29
set_option linter.all false
namespace Go.Proofs.YtcclgbgphjofaaaGreat
open Go Go.Sx Go.ChangeShapes Go.WideShapes Go.ChangeAt Go.WideElems Go.RowKit
def pre6_and {H : Type} {enc : TypeId × Value → H} {P : Program} {f : Func} {s : ChangeSpec} {c : List PathCond} {b : Bool} : s.pre6 enc P f c b = fun w args => (s.pre enc P f c b w args ∧ True) ∧ sizedMet enc P f (OpenSpec.ofChange s) b w args := by
  funext w args
  simp only [ChangeSpec.pre6, and_true]
def args_1 {α : Type} {l : List α} {v0 : α} (hl : l.length = 1) (h0 : l[0]? = some v0) : l = [v0] := by
  match l, hl with
  | [x0], _ =>
    simp at h0
    simp [h0]
def len_1 {α : Type} {l : List α} (hl : l.length = 1) : ∃ x0, l = [x0] := by
  match l, hl with
  | [x0], _ => exact ⟨x0, rfl⟩
def ok_lockstepHandles : ∀ t ∈ [22], okS Tryz.prog 8 t = true := by decide +kernel
def read_lockstepHandles : ∀ t ∈ Tryz.f3.params.toList, Tryz.prog.readableRec t = true ∧ t < Tryz.prog.types.size := by
  rw [Tryz.params3]
  exact WA (by kernel_rfl)
set_option maxRecDepth 100000 in
def list3 : ∀ (m : Nat) (es : List (List D)), (∀ x ∈ es, Sh Tryz.prog m 3 x) → ∃ l : List Int, es = l.map e3
  | _, [], _ => ⟨[], rfl⟩
  | 0, x :: es, h => (h x (.head _)).elim
  | m + 1, x :: es, h => by
    obtain ⟨l, rfl⟩ := list3 (m + 1) es fun z hz => h z (.tail _ hz)
    have h' := h x (.head _)
    simp only [Sh, XiV ty3] at h'
    obtain ⟨n, rfl, _, _⟩ := h'
    exact ⟨n :: l, rfl⟩
set_option maxRecDepth 100000 in
def sh_22 : ∀ (m : Nat) (ds : List D), Sh Tryz.prog m 22 ds → ∃ l : List Int, ds = [.isl 3 1 (l.map e3)] ∧ l.length * 8 ≤ Xw ∧ ∀ x ∈ l, True
  | 0, _, h => h.elim
  | m + 1, ds, h => by
    simp only [Sh, (X9 Xt4).1] at h
    obtain ⟨es, rfl, _, hb, hs⟩ := h
    obtain ⟨l, rfl⟩ := list3 m es hs
    exact ⟨l, by rw [show Tryz.prog.cellsOf 3 = 1 by kernel_rfl], by rw [List.length_map, XrZ] at hb; exact hb, fun _ _ => trivial⟩
set_option maxHeartbeats 8000000 in
set_option maxRecDepth 100000 in
def lockstepHandles_lifted (os : Os) (started : os.Started) (H : Type) (enc : TypeId × Value → H) :
    ReturnsInHanded {} Tryz.checked os 3 .any (Rows.lockstepHandlesSpec.pre6 enc Tryz.prog Tryz.f3 [] false)
      (Rows.lockstepHandlesSpec.post enc Tryz.prog Tryz.f3 false true false false) := by
  rw [pre6_and]
  refine returnsInHanded_of_change_and (C := Tryz.checked) (X := fun _ _ => True) (fun _ _ _ _ _ => trivial) own started (by kernel_rfl) Tryz.func3
    (ChangeSpec.witness_shaped (enc := enc) (C := Tryz.checked) (os := os) (X := fun _ _ => True) false (World.doorLaid Tryz.prog 400 os) #[.slice none 0 0] 8 rfl (World.shaped_of_RefB (by kernel_rfl) (by kernel_rfl)) (by kernel_rfl) (by kernel_rfl) (by kernel_rfl) trivial) ?_
  intro W base args ds gs before hval0 hW _ hz0 hL _
  have hval : ∀ (j : Nat) t v, Tryz.f3.params[j]? = some t → args[j]? = some v → Value.okWide Tryz.prog W .any base t v := hval0
  rw [Tryz.params3] at hval
  have hW2 := hW
  obtain ⟨p, q, hA0, hV, rfl, _, _⟩ := hW
  have hA : DataW.TrodAll enc Tryz.prog W 0 (fun _ => true) true [22] args.toList ds p := hA0
  obtain ⟨rfl, rfl⟩ := trodVars_none hV
  have hts : (Tryz.f3.params.toList ++ DataSpec.varTypes Tryz.checked.prog Rows.lockstepHandlesSpec.plain) = [22] := by kernel_rfl
  rw [hts, Ia] at hz0
  have hz : ∀ x ∈ DataW.weightsEach Tryz.prog [22] ds, x ≤ reachBytes := fun x hx => by simpa using WP.1 hz0 x hx
  obtain ⟨dss, _, l2, l3⟩ := Xky (P := Tryz.prog) 8 ok_lockstepHandles hA hz
  obtain ⟨d0, v0, _, k0, s0, r0⟩ := l3 0 22 rfl
  obtain ⟨al⟩ := args
  obtain rfl := args_1 (l := al) l2 k0
  obtain ⟨a0, rfl, _, t0⟩ := sh_22 _ _ s0
  have q0 := Xr8 Xt4 (hval 0 22 v0 rfl rfl) r0
  have hr : RepL Tryz.prog (KY W) YH [.isl 3 1 (a0.map e3)] [v0] := by
    simp only [RepL]
    exact ⟨_, _, rfl, q0, rfl⟩
  obtain ⟨N, hN⟩ := Xge a0 hr.wf 
  refine (Xr7 (OK.h GG gw _ hN) (fun g cs h => by cases h) hr).mono fun e W2 he => ?_
  obtain ⟨rfl, hB⟩ := he
  have hds : ds.length = 1 := by have := XgN hA; simpa using this
  obtain ⟨x0, rfl⟩ := len_1 hds
  exact ⟨_, rfl, Xsy (tb := 4) rfl (by kernel_rfl) (Xlk ty4) Xtz read_lockstepHandles hW2 rfl hB⟩
def and2 {a b : Bool} (h : a = true) (k : b = true) : (a && b) = true := by rw [h, k]; rfl
def lockstepHandles_k0 : (Rows.lockstepHandlesRow.wf (OpenSpec.ofChange Rows.lockstepHandlesSpec)) = true := by kernel_rfl
def lockstepHandles_k1 : (laidOutB Tryz.prog) = true := by kernel_rfl
def lockstepHandles_k2 : (mapsRowed Tryz.prog) = true := by kernel_rfl
def lockstepHandles_k3 : (Tryz.f3.params.all (Tryz.prog.readableRec ·)) = true := by kernel_rfl
def lockstepHandles_k4 : (namedTie Tryz.prog Rows.lockstepHandlesRow.named Rows.lockstepHandlesSpec.vars) = true := by kernel_rfl
def lockstepHandles_k5 : ((Rows.lockstepHandlesRow.stops == [])) = true := by kernel_rfl
def lockstepHandles_k6 : ((Tryz.prog.stops == [])) = true := by kernel_rfl
def lockstepHandles_k7 : ((Rows.lockstepHandlesRow.knobs == [])) = true := by kernel_rfl
def lockstepHandles_k8 : ((Tryz.prog.stopKnobs == [])) = true := by kernel_rfl
def lockstepHandles_k9 : ((Rows.lockstepHandlesRow.inPlace == Tryz.prog.inPlace 3)) = true := by kernel_rfl
def lockstepHandles_k10 : ((Rows.lockstepHandlesRow.unfollowed == Tryz.prog.unfollowed 3)) = true := by kernel_rfl
def lockstepHandles_k11 : ((Rows.lockstepHandlesRow.recurses == Tryz.prog.recurses 3)) = true := by kernel_rfl
def lockstepHandles_k12 : ((Rows.lockstepHandlesRow.named == Tryz.prog.varsNamed 3)) = true := by kernel_rfl
def lockstepHandles_k13 : ((Rows.lockstepHandlesRow.maps == (Tryz.f3.params.toList ++ Rows.lockstepHandlesSpec.plain.varTypes Tryz.prog).any (Tryz.prog.mapsRec ·))) = true := by kernel_rfl
def lockstepHandles_k14 : ((Rows.lockstepHandlesRow.ifaces == (Tryz.f3.params.toList ++ Rows.lockstepHandlesSpec.plain.varTypes Tryz.prog).any (Tryz.prog.ifacesRec ·))) = true := by kernel_rfl
def lockstepHandles_k15 : ((Rows.lockstepHandlesRow.mapsOut == Tryz.prog.mapsAmong Tryz.f3.resultTypes.toList)) = true := by kernel_rfl
def lockstepHandles_k16 : ((Rows.lockstepHandlesRow.loops == (Tryz.f3.params.toList ++ Rows.lockstepHandlesSpec.plain.varTypes Tryz.prog).any (Tryz.prog.loopsFrom ·))) = true := by kernel_rfl
def lockstepHandles_k17 : ((Rows.lockstepHandlesRow.wideKeys == (Tryz.f3.params.toList ++ Rows.lockstepHandlesSpec.plain.varTypes Tryz.prog ++ Tryz.f3.resultTypes.toList).any (Tryz.prog.wideKeysFrom ·))) = true := by kernel_rfl
def lockstepHandles_k18 : (Rows.lockstepHandlesSpec.vars.all (Tryz.prog.varReadable ·)) = true := by kernel_rfl
def lockstepHandles_k19 : (Tryz.f3.resultTypes.all (fun t => Tryz.prog.readableRec t && decide (t < Tryz.prog.types.size))) = true := by kernel_rfl
def lockstepHandles_k20 : ((Rows.lockstepHandlesRow.ifacesOut == Tryz.f3.resultTypes.toList.any (Tryz.prog.ifacesRec ·))) = true := by kernel_rfl
def lockstepHandles_k21 : ((Rows.lockstepHandlesRow.loopsOut == Tryz.f3.resultTypes.toList.any (Tryz.prog.loopsFrom ·))) = true := by kernel_rfl
def lockstepHandles_k22 : ((Rows.lockstepHandlesRow.plainKeys == Tryz.prog.plainKeys)) = true := by kernel_rfl
def lockstepHandles_k23 : (Rows.lockstepHandlesRow.shortTexts.isNone) = true := by kernel_rfl
def lockstepHandles_k24 : (Tryz.prog.stopsHeard) = true := by kernel_rfl
def lockstepHandles_k25 : (Tryz.prog.mayEnter) = true := by kernel_rfl
def lockstepHandles_k26 : ((Rows.lockstepHandlesRow.lifted == Tryz.prog.liftsFinal)) = true := by kernel_rfl
def lockstepHandles_k27 : ((Tryz.prog.make == some Rows.lockstepHandlesRow.make)) = true := by kernel_rfl
def lockstepHandles_k28 : ((Rows.lockstepHandlesRow.kinds == (if Rows.lockstepHandlesRow.domain.isEmpty then [] else Tryz.f3.params.toList.map fun t => match Tryz.prog.underlying t with | some (.int k) => some k | _ => none))) = true := by kernel_rfl
def lockstepHandles_k29 : ((Rows.lockstepHandlesRow.pinned == Rows.lockstepHandlesRow.pinnedBy)) = true := by kernel_rfl
def lockstepHandles_k30 : ((Rows.lockstepHandlesRow.veiled == (Tryz.f3.params.toList ++ Rows.lockstepHandlesSpec.plain.varTypes Tryz.prog ++ Tryz.f3.resultTypes.toList).any (Tryz.prog.veiledRec ·))) = true := by kernel_rfl
def lockstepHandles_k31 : (Rows.lockstepHandlesRow.veiledFits Tryz.prog Tryz.f3.params.toList (Tryz.f3.params.toList ++ Rows.lockstepHandlesSpec.plain.varTypes Tryz.prog ++ Tryz.f3.resultTypes.toList)) = true := by kernel_rfl
set_option maxRecDepth 100000 in
def lockstepHandles_closed : joinedFacts Tryz.prog 3 Tryz.f3 Rows.lockstepHandlesSpec Rows.lockstepHandlesRow = true := by
  unfold joinedFacts
  exact (and2 (and2 (and2 (and2 (and2 (and2 (and2 (and2 (and2 (and2 (and2 (and2 (and2 (and2 (and2 (and2 (and2 (and2 (and2 (and2 (and2 (and2 (and2 (and2 (and2 (and2 (and2 (and2 (and2 (and2 (and2 lockstepHandles_k0 lockstepHandles_k1) lockstepHandles_k2) lockstepHandles_k3) lockstepHandles_k4) lockstepHandles_k5) lockstepHandles_k6) lockstepHandles_k7) lockstepHandles_k8) lockstepHandles_k9) lockstepHandles_k10) lockstepHandles_k11) lockstepHandles_k12) lockstepHandles_k13) lockstepHandles_k14) lockstepHandles_k15) lockstepHandles_k16) lockstepHandles_k17) lockstepHandles_k18) lockstepHandles_k19) lockstepHandles_k20) lockstepHandles_k21) lockstepHandles_k22) lockstepHandles_k23) lockstepHandles_k24) lockstepHandles_k25) lockstepHandles_k26) lockstepHandles_k27) lockstepHandles_k28) lockstepHandles_k29) lockstepHandles_k30) lockstepHandles_k31)
def lockstepHandles_row : Rows.LockstepHandlesSaid :=
  OpenClaim.holds_of_wide 3 Tryz.f3 rfl rfl rfl rfl rfl rfl rfl ⟨rfl, rfl, rfl, rfl, rfl⟩ rfl rfl rfl rfl rfl (by kernel_rfl) Tryz.func3 lockstepHandles_closed
    (WA (by kernel_rfl)) (by unfold Func.isWrapper; first | (rw [Wj (by decide +kernel)]; kernel_rfl) | (rw [Wg (by decide +kernel)]; exact ⟨rfl, rfl⟩))
    (fun os started H enc _ => lockstepHandles_lifted os started H enc)
def lockstepHandles_holds : Rows.LockstepHandlesSaid := lockstepHandles_row
#print axioms lockstepHandles_holds
end Go.Proofs.YtcclgbgphjofaaaGreat
