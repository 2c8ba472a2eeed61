import Derived.Test.YtgcneehkconghaaGreatDoorVH
import Derived.Test.YtgcneehkconghaaGreatDoorVG33
import Derived.Test.YtgcneehkconghaaGreatDoorVLF
set_option linter.all false
namespace Go.Proofs.YtgcneehkconghaaGreatDoor
open Go Go.Sx Go.ChangeShapes Go.WideShapes Go.ChangeAt Go.WideElems Go.RowKit
theorem args_4 {α : Type} {l : List α} {v0 v1 v2 v3 : α} (hl : l.length = 4) (h0 : l[0]? = some v0) (h1 : l[1]? = some v1) (h2 : l[2]? = some v2) (h3 : l[3]? = some v3) : l = [v0, v1, v2, v3] := by
  match l, hl with
  | [x0, x1, x2, x3], _ =>
    simp at h0 h1 h2 h3
    simp [h0, h1, h2, h3]
theorem len_4 {α : Type} {l : List α} (hl : l.length = 4) : ∃ x0 x1 x2 x3, l = [x0, x1, x2, x3] := by
  match l, hl with
  | [x0, x1, x2, x3], _ => exact ⟨x0, x1, x2, x3, rfl⟩
theorem ok_envResolves : ∀ t ∈ [38, 30, 30, 39], okS Tryz.prog 8 t = true := by decide +kernel
theorem read_envResolves : ∀ t ∈ Tryz.f3.params.toList, Tryz.prog.readableRec t = true ∧ t < Tryz.prog.types.size := by
  rw [Tryz.params3]
  exact Wr (by kernel_rfl)
set_option maxHeartbeats 8000000 in
set_option maxRecDepth 100000 in
theorem envResolves_lifted (os : Os) (started : os.Started) (H : Type) (enc : TypeId × Value → H) :
    ReturnsInHanded {} Tryz.checked os 3 .any (fun w args => (Rows.envResolvesSpec.pre enc Tryz.prog Tryz.f3 [] false w args ∧ laidMetH Tryz.prog laidL w) ∧ sizedMet enc Tryz.prog Tryz.f3 (OpenSpec.ofChange Rows.envResolvesSpec) false w args)
      (Rows.envResolvesSpec.post enc Tryz.prog Tryz.f3 false true false false) := by
  refine returnsInHanded_of_change_and (C := Tryz.checked) (X := fun w _ => laidMetH Tryz.prog laidL w) (fun _ _ _ hh h => h.of_heap hh) own started (by kernel_rfl) Tryz.func3
    (ChangeSpec.witness_shaped (enc := enc) (C := Tryz.checked) (os := os) (X := fun w _ => laidMetH Tryz.prog laidL w) false (World.doorLaid Tryz.prog 400 os) #[.agg #[.int .i64 0, .int .i64 0, .slice none 0 0, .slice none 0 0, .int .i64 0, .int .i64 0, .slice none 0 0, .slice none 0 0, .slice none 0 0, .slice none 0 0, .slice none 0 0, .slice none 0 0, .slice none 0 0], .slice none 0 0, .slice none 0 0, .int .u64 0] 8 rfl (World.shaped_of_RefB (by kernel_rfl) (by kernel_rfl)) (by kernel_rfl) (by kernel_rfl) (by kernel_rfl) (Xql os _)) ?_
  intro W base args ds gs before hval0 hW _ hz0 hL _
  have hval : ∀ (j : Nat) t v, Tryz.f3.params[j]? = some t → args[j]? = some v → Value.okWide Tryz.prog W .any base t v := hval0
  rw [Tryz.params3] at hval
  have hW2 := hW
  obtain ⟨p, q, hA0, hV, rfl, _, _⟩ := hW
  have hA : DataW.TrodAll enc Tryz.prog W 0 (fun _ => true) true [38, 30, 30, 39] args.toList ds p := hA0
  obtain ⟨rfl, rfl⟩ := trodVars_none hV
  have hts : (Tryz.f3.params.toList ++ DataSpec.varTypes Tryz.checked.prog Rows.envResolvesSpec.plain) = [38, 30, 30, 39] := by kernel_rfl
  rw [hts, IQ] at hz0
  have hz : ∀ x ∈ DataW.weightsEach Tryz.prog [38, 30, 30, 39] ds, x ≤ reachBytes := fun x hx => by simpa using Uc.1 hz0 x hx
  obtain ⟨dss, _, l2, l3⟩ := XhS (P := Tryz.prog) 8 ok_envResolves hA hz
  obtain ⟨d0, v0, _, k0, s0, r0⟩ := l3 0 38 rfl
  obtain ⟨d1, v1, _, k1, s1, r1⟩ := l3 1 30 rfl
  obtain ⟨d2, v2, _, k2, s2, r2⟩ := l3 2 30 rfl
  obtain ⟨d3, v3, _, k3, s3, r3⟩ := l3 3 39 rfl
  obtain ⟨al⟩ := args
  obtain rfl := args_4 (l := al) l2 k0 k1 k2 k3
  obtain ⟨a0, rfl, t0⟩ := Xq7 _ _ s0
  have q0 := Xn9 XpD (hval 0 38 v0 rfl rfl) r0
  obtain ⟨a1, rfl, _, t1⟩ := Xqh _ _ s1
  have q1 := XoL Xpy (hval 1 30 v1 rfl rfl) r1
  obtain ⟨a2, rfl, _, t2⟩ := Xqh _ _ s2
  have q2 := XoL Xpy (hval 2 30 v2 rfl rfl) r2
  obtain ⟨a3, rfl, t3⟩ := Xd7 XkU _ _ s3
  have q3 := Xqm XkU (hval 3 39 v3 rfl rfl) r3
  have hr : RepL Tryz.prog (ZB W) X9 [.agg (e38 a0), .isl 3 1 (a1.map e3), .isl 3 1 (a2.map e3), .v (.int .u64 a3)] [v0, v1, v2, v3] := by
    simp only [RepL]
    exact ⟨_, _, rfl, q0, ⟨_, _, rfl, q1, ⟨_, _, rfl, q2, ⟨_, _, rfl, q3, rfl⟩⟩⟩⟩
  obtain ⟨N, hN⟩ := Xhm a0 a1 a2 a3 hr.wf t0 t3
  refine (XoK (OK.h GG gw _ hN) (Xqy hL) hr).mono fun e W2 he => ?_
  obtain ⟨rfl, hB⟩ := he
  have hds : ds.length = 4 := by have := XeG hA; simpa using this
  obtain ⟨x0, x1, x2, x3, rfl⟩ := len_4 hds
  exact ⟨_, rfl, Xpa (tb := 4) rfl (by kernel_rfl) (Xeb ty4) Xqx read_envResolves hW2 rfl hB⟩
theorem envResolves_row : Rows.EnvResolvesSaid :=
  OpenClaim.holds_of_wide 3 Tryz.f3 rfl rfl rfl rfl rfl rfl rfl ⟨rfl, rfl, rfl, rfl, rfl⟩ rfl rfl rfl rfl rfl (by kernel_rfl) Tryz.func3 envResolves_closed
    (Wr (by kernel_rfl)) (by unfold Func.isWrapper; first | (rw [Wm (by decide +kernel)]; kernel_rfl) | (rw [Wk (by decide +kernel)]; exact ⟨rfl, rfl⟩))
    (fun os started H enc _ => envResolves_lifted os started H enc)
theorem named_k : Tryz.prog.funcNamed Rows.envResolvesRow.func = some 3 := by kernel_rfl
theorem looks_k : true = Tryz.prog.looks [] := by kernel_rfl
end Go.Proofs.YtgcneehkconghaaGreatDoor
