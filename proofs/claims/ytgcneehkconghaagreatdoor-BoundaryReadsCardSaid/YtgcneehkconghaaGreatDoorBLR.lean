import Derived.Test.YtgcneehkconghaaGreatDoorBH
import Derived.Test.YtgcneehkconghaaGreatDoorBG33
import Derived.Test.YtgcneehkconghaaGreatDoorBLF
set_option linter.all false
namespace Go.Proofs.YtgcneehkconghaaGreatDoor
open Go Go.Sx Go.ChangeShapes Go.WideShapes Go.ChangeAt Go.WideElems Go.RowKit
theorem args_4 {α : Type} {l : List α} {v0 v1 v2 v3 : α} (hl : l.length = 4) (h0 : l[0]? = some v0) (h1 : l[1]? = some v1) (h2 : l[2]? = some v2) (h3 : l[3]? = some v3) : l = [v0, v1, v2, v3] := by
  match l, hl with
  | [x0, x1, x2, x3], _ =>
    simp at h0 h1 h2 h3
    simp [h0, h1, h2, h3]
theorem len_4 {α : Type} {l : List α} (hl : l.length = 4) : ∃ x0 x1 x2 x3, l = [x0, x1, x2, x3] := by
  match l, hl with
  | [x0, x1, x2, x3], _ => exact ⟨x0, x1, x2, x3, rfl⟩
theorem ok_boundaryReads : ∀ t ∈ [30, 39, 39, 3], okS Tryz.prog 8 t = true := by decide +kernel
theorem read_boundaryReads : ∀ t ∈ Tryz.f4.params.toList, Tryz.prog.readableRec t = true ∧ t < Tryz.prog.types.size := by
  rw [Tryz.params4]
  exact Wu (by kernel_rfl)
set_option maxHeartbeats 8000000 in
set_option maxRecDepth 100000 in
theorem boundaryReads_lifted (os : Os) (started : os.Started) (H : Type) (enc : TypeId × Value → H) :
    ReturnsInHanded {} Tryz.checked os 4 .any (fun w args => (Rows.boundaryReadsSpec.pre enc Tryz.prog Tryz.f4 [] false w args ∧ laidMetH Tryz.prog laidL w) ∧ sizedMet enc Tryz.prog Tryz.f4 (OpenSpec.ofChange Rows.boundaryReadsSpec) false w args)
      (Rows.boundaryReadsSpec.post enc Tryz.prog Tryz.f4 false true false false) := by
  refine returnsInHanded_of_change_and (C := Tryz.checked) (X := fun w _ => laidMetH Tryz.prog laidL w) (fun _ _ _ hh h => h.of_heap hh) own started (by kernel_rfl) Tryz.func4
    (ChangeSpec.witness_shaped (enc := enc) (C := Tryz.checked) (os := os) (X := fun w _ => laidMetH Tryz.prog laidL w) false (World.doorLaid Tryz.prog 400 os) #[.slice none 0 0, .int .u64 0, .int .u64 0, .int .i64 0] 8 rfl (World.shaped_of_RefB (by kernel_rfl) (by kernel_rfl)) (by kernel_rfl) (by kernel_rfl) (by kernel_rfl) (XnW os _)) ?_
  intro W base args ds gs before hval0 hW _ hz0 hL _
  have hval : ∀ (j : Nat) t v, Tryz.f4.params[j]? = some t → args[j]? = some v → Value.okWide Tryz.prog W .any base t v := hval0
  rw [Tryz.params4] at hval
  have hW2 := hW
  obtain ⟨p, q, hA0, hV, rfl, _, _⟩ := hW
  have hA : DataW.TrodAll enc Tryz.prog W 0 (fun _ => true) true [30, 39, 39, 3] args.toList ds p := hA0
  obtain ⟨rfl, rfl⟩ := trodVars_none hV
  have hts : (Tryz.f4.params.toList ++ DataSpec.varTypes Tryz.checked.prog Rows.boundaryReadsSpec.plain) = [30, 39, 39, 3] := by kernel_rfl
  rw [hts, IE] at hz0
  have hz : ∀ x ∈ DataW.weightsEach Tryz.prog [30, 39, 39, 3] ds, x ≤ reachBytes := fun x hx => by simpa using Uf.1 hz0 x hx
  obtain ⟨dss, _, l2, l3⟩ := Xgz (P := Tryz.prog) 8 ok_boundaryReads hA hz
  obtain ⟨d0, v0, _, k0, s0, r0⟩ := l3 0 30 rfl
  obtain ⟨d1, v1, _, k1, s1, r1⟩ := l3 1 39 rfl
  obtain ⟨d2, v2, _, k2, s2, r2⟩ := l3 2 39 rfl
  obtain ⟨d3, v3, _, k3, s3, r3⟩ := l3 3 3 rfl
  obtain ⟨al⟩ := args
  obtain rfl := args_4 (l := al) l2 k0 k1 k2 k3
  obtain ⟨a0, rfl, _, t0⟩ := XoV _ _ s0
  have q0 := XmG Xnl (hval 0 30 v0 rfl rfl) r0
  obtain ⟨a1, rfl, t1⟩ := XoS XoB _ _ s1
  have q1 := XnX XoB (hval 1 39 v1 rfl rfl) r1
  obtain ⟨a2, rfl, t2⟩ := XoS XoB _ _ s2
  have q2 := XnX XoB (hval 2 39 v2 rfl rfl) r2
  obtain ⟨a3, rfl, t3⟩ := XmE ty3 _ _ s3
  have q3 := XnX ty3 (hval 3 3 v3 rfl rfl) r3
  have hr : RepL Tryz.prog (Zm W) X3 [.isl 3 1 (a0.map e3), .v (.int .u64 a1), .v (.int .u64 a2), .v (.int .i64 a3)] [v0, v1, v2, v3] := by
    simp only [RepL]
    exact ⟨_, _, rfl, q0, ⟨_, _, rfl, q1, ⟨_, _, rfl, q2, ⟨_, _, rfl, q3, rfl⟩⟩⟩⟩
  obtain ⟨N, hN⟩ := Xeq a0 a1 a2 a3 hr.wf t1 t2
  refine (XmF (OK.h GG gw _ hN) (Xn9 hL) hr).mono fun e W2 he => ?_
  obtain ⟨rfl, hB⟩ := he
  have hds : ds.length = 4 := by have := XdC hA; simpa using this
  obtain ⟨x0, x1, x2, x3, rfl⟩ := len_4 hds
  exact ⟨_, rfl, Xm4 (tb := 4) rfl (by kernel_rfl) (Xha ty4) Xn8 read_boundaryReads hW2 rfl hB⟩
theorem boundaryReads_row : Rows.BoundaryReadsSaid :=
  OpenClaim.holds_of_wide 4 Tryz.f4 rfl rfl rfl rfl rfl rfl rfl ⟨rfl, rfl, rfl, rfl, rfl⟩ rfl rfl rfl rfl rfl (by kernel_rfl) Tryz.func4 boundaryReads_closed
    (Wu (by kernel_rfl)) (by unfold Func.isWrapper; first | (rw [Wm (by decide +kernel)]; kernel_rfl) | (rw [Wk (by decide +kernel)]; exact ⟨rfl, rfl⟩))
    (fun os started H enc _ => boundaryReads_lifted os started H enc)
theorem named_k : Tryz.prog.funcNamed Rows.boundaryReadsRow.func = some 4 := by kernel_rfl
theorem looks_k : true = Tryz.prog.looks [] := by kernel_rfl
end Go.Proofs.YtgcneehkconghaaGreatDoor
