import Derived.Test.YtgbmffljpneflaaGreatDoorSH
import Derived.Test.YtgbmffljpneflaaGreatDoorSG36
import Derived.Test.YtgbmffljpneflaaGreatDoorSLF
set_option linter.all false
namespace Go.Proofs.YtgbmffljpneflaaGreatDoor
open Go Go.Sx Go.ChangeShapes Go.WideShapes Go.ChangeAt Go.WideElems Go.RowKit
def args_1 {α : Type} {l : List α} {v0 : α} (hl : l.length = 1) (h0 : l[0]? = some v0) : l = [v0] := by
  match l, hl with
  | [x0], _ =>
    simp at h0
    simp [h0]
def len_1 {α : Type} {l : List α} (hl : l.length = 1) : ∃ x0, l = [x0] := by
  match l, hl with
  | [x0], _ => exact ⟨x0, rfl⟩
def ok_boundaryScripts : ∀ t ∈ [30], okS Tryz.prog 8 t = true := by decide +kernel
def read_boundaryScripts : ∀ t ∈ Tryz.f4.params.toList, Tryz.prog.readableRec t = true ∧ t < Tryz.prog.types.size := by
  rw [Tryz.params4]
  exact Wz (by kernel_rfl)
set_option maxHeartbeats 8000000 in
set_option maxRecDepth 100000 in
def boundaryScripts_lifted (os : Os) (started : os.Started) (H : Type) (enc : TypeId × Value → H) :
    ReturnsInHanded {} Tryz.checked os 4 .any (fun w args => (Rows.boundaryScriptsSpec.pre enc Tryz.prog Tryz.f4 [] false w args ∧ laidMetH Tryz.prog laidL w) ∧ sizedMet enc Tryz.prog Tryz.f4 (OpenSpec.ofChange Rows.boundaryScriptsSpec) false w args)
      (Rows.boundaryScriptsSpec.post enc Tryz.prog Tryz.f4 false true false false) := by
  refine returnsInHanded_of_change_and (C := Tryz.checked) (X := fun w _ => laidMetH Tryz.prog laidL w) (fun _ _ _ hh h => h.of_heap hh) own started (by kernel_rfl) Tryz.func4
    (ChangeSpec.witness_shaped (enc := enc) (C := Tryz.checked) (os := os) (X := fun w _ => laidMetH Tryz.prog laidL w) false (World.doorLaid Tryz.prog 400 os) #[.slice none 0 0] 8 rfl (World.shaped_of_RefB (by kernel_rfl) (by kernel_rfl)) (by kernel_rfl) (by kernel_rfl) (by kernel_rfl) (Xsm os _)) ?_
  intro W base args ds gs before hval0 hW _ hz0 hL _
  have hval : ∀ (j : Nat) t v, Tryz.f4.params[j]? = some t → args[j]? = some v → Value.okWide Tryz.prog W .any base t v := hval0
  rw [Tryz.params4] at hval
  have hW2 := hW
  obtain ⟨p, q, hA0, hV, rfl, _, _⟩ := hW
  have hA : DataW.TrodAll enc Tryz.prog W 0 (fun _ => true) true [30] args.toList ds p := hA0
  obtain ⟨rfl, rfl⟩ := trodVars_none hV
  have hts : (Tryz.f4.params.toList ++ DataSpec.varTypes Tryz.checked.prog Rows.boundaryScriptsSpec.plain) = [30] := by kernel_rfl
  rw [hts, Ia] at hz0
  have hz : ∀ x ∈ DataW.weightsEach Tryz.prog [30] ds, x ≤ reachBytes := fun x hx => by simpa using W9.1 hz0 x hx
  obtain ⟨dss, _, l2, l3⟩ := XjK (P := Tryz.prog) 8 ok_boundaryScripts hA hz
  obtain ⟨d0, v0, _, k0, s0, r0⟩ := l3 0 30 rfl
  obtain ⟨al⟩ := args
  obtain rfl := args_1 (l := al) l2 k0
  obtain ⟨a0, rfl, _, t0⟩ := XtC _ _ s0
  have q0 := XqK XrC (hval 0 30 v0 rfl rfl) r0
  have hr : RepL Tryz.prog (Z7 W) YF [.isl 3 1 (a0.map e3)] [v0] := by
    simp only [RepL]
    exact ⟨_, _, rfl, q0, rfl⟩
  obtain ⟨N, hN⟩ := Xfw a0 hr.wf 
  refine (XqJ (OK.h GG gw _ hN) (Xsy hL) hr).mono fun e W2 he => ?_
  obtain ⟨rfl, hB⟩ := he
  have hds : ds.length = 1 := by have := Xf4 hA; simpa using this
  obtain ⟨x0, rfl⟩ := len_1 hds
  exact ⟨_, rfl, Xra (tb := 4) rfl (by kernel_rfl) (Xkm ty4) Xsx read_boundaryScripts hW2 rfl hB⟩
def boundaryScripts_row : Rows.BoundaryScriptsSaid :=
  OpenClaim.holds_of_wide 4 Tryz.f4 rfl rfl rfl rfl rfl rfl rfl ⟨rfl, rfl, rfl, rfl, rfl⟩ rfl rfl rfl rfl rfl (by kernel_rfl) Tryz.func4 boundaryScripts_closed
    (Wz (by kernel_rfl)) (by unfold Func.isWrapper; first | (rw [Wp (by decide +kernel)]; kernel_rfl) | (rw [Wk (by decide +kernel)]; exact ⟨rfl, rfl⟩))
    (fun os started H enc _ => boundaryScripts_lifted os started H enc)
theorem named_k : Tryz.prog.funcNamed Rows.boundaryScriptsRow.func = some 4 := by kernel_rfl
theorem looks_k : true = Tryz.prog.looks [] := by kernel_rfl
end Go.Proofs.YtgbmffljpneflaaGreatDoor
