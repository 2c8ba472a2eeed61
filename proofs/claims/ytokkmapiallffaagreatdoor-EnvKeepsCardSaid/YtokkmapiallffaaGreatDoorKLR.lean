import Derived.Test.YtokkmapiallffaaGreatDoorKG28
import Derived.Test.YtokkmapiallffaaGreatDoorKLF
set_option linter.all false
namespace Go.Proofs.YtokkmapiallffaaGreatDoor
open Go Go.Sx Go.ChangeShapes Go.WideShapes Go.ChangeAt Go.WideElems Go.RowKit
def args_1 {α : Type} {l : List α} {v0 : α} (hl : l.length = 1) (h0 : l[0]? = some v0) : l = [v0] := by
  match l, hl with
  | [x0], _ =>
    simp at h0
    simp [h0]
def len_1 {α : Type} {l : List α} (hl : l.length = 1) : ∃ x0, l = [x0] := by
  match l, hl with
  | [x0], _ => exact ⟨x0, rfl⟩
def ok_envKeeps : ∀ t ∈ [22], okS Tryz.prog 8 t = true := by decide +kernel
def read_envKeeps : ∀ t ∈ Tryz.f3.params.toList, Tryz.prog.readableRec t = true ∧ t < Tryz.prog.types.size := by
  rw [Tryz.params3]
  exact Ww (by kernel_rfl)
set_option maxHeartbeats 8000000 in
set_option maxRecDepth 100000 in
def envKeeps_lifted (os : Os) (started : os.Started) (H : Type) (enc : TypeId × Value → H) :
    ReturnsInHanded {} Tryz.checked os 3 .any (fun w args => (Rows.envKeepsSpec.pre enc Tryz.prog Tryz.f3 [] false w args ∧ laidMetH Tryz.prog laidL w) ∧ sizedMet enc Tryz.prog Tryz.f3 (OpenSpec.ofChange Rows.envKeepsSpec) false w args)
      (Rows.envKeepsSpec.post enc Tryz.prog Tryz.f3 false true false false) := by
  refine returnsInHanded_of_change_and (C := Tryz.checked) (X := fun w _ => laidMetH Tryz.prog laidL w) (fun _ _ _ hh h => h.of_heap hh) own started (by kernel_rfl) Tryz.func3
    (ChangeSpec.witness_shaped (enc := enc) (C := Tryz.checked) (os := os) (X := fun w _ => laidMetH Tryz.prog laidL w) false (World.doorLaid Tryz.prog 400 os) #[.slice none 0 0] 8 rfl (World.shaped_of_RefB (by kernel_rfl) (by kernel_rfl)) (by kernel_rfl) (by kernel_rfl) (by kernel_rfl) (Xu4 os _)) ?_
  intro W base args ds gs before hval0 hW _ hz0 hL _
  have hval : ∀ (j : Nat) t v, Tryz.f3.params[j]? = some t → args[j]? = some v → Value.okWide Tryz.prog W .any base t v := hval0
  rw [Tryz.params3] at hval
  have hW2 := hW
  obtain ⟨p, q, hA0, hV, rfl, _, _⟩ := hW
  have hA : DataW.TrodAll enc Tryz.prog W 0 (fun _ => true) true [22] args.toList ds p := hA0
  obtain ⟨rfl, rfl⟩ := trodVars_none hV
  have hts : (Tryz.f3.params.toList ++ DataSpec.varTypes Tryz.checked.prog Rows.envKeepsSpec.plain) = [22] := by kernel_rfl
  rw [hts, Ih] at hz0
  have hz : ∀ x ∈ DataW.weightsEach Tryz.prog [22] ds, x ≤ reachBytes := fun x hx => by simpa using WV.1 hz0 x hx
  obtain ⟨dss, _, l2, l3⟩ := XlC (P := Tryz.prog) 8 ok_envKeeps hA hz
  obtain ⟨d0, v0, _, k0, s0, r0⟩ := l3 0 22 rfl
  obtain ⟨al⟩ := args
  obtain rfl := args_1 (l := al) l2 k0
  obtain ⟨a0, rfl, _, t0⟩ := Xwa _ _ s0
  have q0 := Xtn Xue (hval 0 22 v0 rfl rfl) r0
  have hr : RepL Tryz.prog (Z6 W) Yz [.isl 3 1 (a0.map e3)] [v0] := by
    simp only [RepL]
    exact ⟨_, _, rfl, q0, rfl⟩
  obtain ⟨N, hN⟩ := Xps a0 hr.wf 
  refine (Xtm (OK.h GG gw _ hN) (Xvg hL) hr).mono fun e W2 he => ?_
  obtain ⟨rfl, hB⟩ := he
  have hds : ds.length = 1 := by have := Xhk hA; simpa using this
  obtain ⟨x0, rfl⟩ := len_1 hds
  exact ⟨_, rfl, XtN (tb := 4) rfl (by kernel_rfl) (Xmp ty4) Xvf read_envKeeps hW2 rfl hB⟩
def envKeeps_row : Rows.EnvKeepsSaid :=
  OpenClaim.holds_of_wide 3 Tryz.f3 rfl rfl rfl rfl rfl rfl rfl ⟨rfl, rfl, rfl, rfl, rfl⟩ rfl rfl rfl rfl rfl (by kernel_rfl) Tryz.func3 envKeeps_closed
    (Ww (by kernel_rfl)) (by unfold Func.isWrapper; first | (rw [Wm (by decide +kernel)]; kernel_rfl) | (rw [Wj (by decide +kernel)]; exact ⟨rfl, rfl⟩))
    (fun os started H enc _ => envKeeps_lifted os started H enc)
theorem named_k : Tryz.prog.funcNamed Rows.envKeepsRow.func = some 3 := by kernel_rfl
theorem looks_k : true = Tryz.prog.looks [] := by kernel_rfl
end Go.Proofs.YtokkmapiallffaaGreatDoor
