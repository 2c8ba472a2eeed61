import Derived.Test.YtgbmffljpneflaaGreatDoorBH
import Derived.Test.YtgbmffljpneflaaGreatDoorBG35
import Derived.Test.YtgbmffljpneflaaGreatDoorBLF
set_option linter.all false
namespace Go.Proofs.YtgbmffljpneflaaGreatDoor
open Go Go.Sx Go.ChangeShapes Go.WideShapes Go.ChangeAt Go.WideElems Go.RowKit
def args_7 {α : Type} {l : List α} {v0 v1 v2 v3 v4 v5 v6 : α} (hl : l.length = 7) (h0 : l[0]? = some v0) (h1 : l[1]? = some v1) (h2 : l[2]? = some v2) (h3 : l[3]? = some v3) (h4 : l[4]? = some v4) (h5 : l[5]? = some v5) (h6 : l[6]? = some v6) : l = [v0, v1, v2, v3, v4, v5, v6] := by
  match l, hl with
  | [x0, x1, x2, x3, x4, x5, x6], _ =>
    simp at h0 h1 h2 h3 h4 h5 h6
    simp [h0, h1, h2, h3, h4, h5, h6]
def len_7 {α : Type} {l : List α} (hl : l.length = 7) : ∃ x0 x1 x2 x3 x4 x5 x6, l = [x0, x1, x2, x3, x4, x5, x6] := by
  match l, hl with
  | [x0, x1, x2, x3, x4, x5, x6], _ => exact ⟨x0, x1, x2, x3, x4, x5, x6, rfl⟩
def ok_boundaryCalls : ∀ t ∈ [38, 30, 30, 3, 39, 39, 39], okS Tryz.prog 8 t = true := by decide +kernel
def read_boundaryCalls : ∀ t ∈ Tryz.f3.params.toList, Tryz.prog.readableRec t = true ∧ t < Tryz.prog.types.size := by
  rw [Tryz.params3]
  exact Ww (by kernel_rfl)
set_option maxHeartbeats 8000000 in
set_option maxRecDepth 100000 in
def boundaryCalls_lifted (os : Os) (started : os.Started) (H : Type) (enc : TypeId × Value → H) :
    ReturnsInHanded {} Tryz.checked os 3 .any (fun w args => (Rows.boundaryCallsSpec.pre enc Tryz.prog Tryz.f3 [] false w args ∧ laidMetH Tryz.prog laidL w) ∧ sizedMet enc Tryz.prog Tryz.f3 (OpenSpec.ofChange Rows.boundaryCallsSpec) false w args)
      (Rows.boundaryCallsSpec.post enc Tryz.prog Tryz.f3 false true false false) := by
  refine returnsInHanded_of_change_and (C := Tryz.checked) (X := fun w _ => laidMetH Tryz.prog laidL w) (fun _ _ _ hh h => h.of_heap hh) own started (by kernel_rfl) Tryz.func3
    (ChangeSpec.witness_shaped (enc := enc) (C := Tryz.checked) (os := os) (X := fun w _ => laidMetH Tryz.prog laidL w) false (World.doorLaid Tryz.prog 400 os) #[.agg #[.int .i64 0, .int .i64 0, .slice none 0 0, .slice none 0 0, .int .i64 0, .int .i64 0, .slice none 0 0, .slice none 0 0, .slice none 0 0, .slice none 0 0, .slice none 0 0, .slice none 0 0, .slice none 0 0], .slice none 0 0, .slice none 0 0, .int .i64 0, .int .u64 0, .int .u64 0, .int .u64 0] 8 rfl (World.shaped_of_RefB (by kernel_rfl) (by kernel_rfl)) (by kernel_rfl) (by kernel_rfl) (by kernel_rfl) (Xt8 os _)) ?_
  intro W base args ds gs before hval0 hW _ hz0 hL _
  have hval : ∀ (j : Nat) t v, Tryz.f3.params[j]? = some t → args[j]? = some v → Value.okWide Tryz.prog W .any base t v := hval0
  rw [Tryz.params3] at hval
  have hW2 := hW
  obtain ⟨p, q, hA0, hV, rfl, _, _⟩ := hW
  have hA : DataW.TrodAll enc Tryz.prog W 0 (fun _ => true) true [38, 30, 30, 3, 39, 39, 39] args.toList ds p := hA0
  obtain ⟨rfl, rfl⟩ := trodVars_none hV
  have hts : (Tryz.f3.params.toList ++ DataSpec.varTypes Tryz.checked.prog Rows.boundaryCallsSpec.plain) = [38, 30, 30, 3, 39, 39, 39] := by kernel_rfl
  rw [hts, If] at hz0
  have hz : ∀ x ∈ DataW.weightsEach Tryz.prog [38, 30, 30, 3, 39, 39, 39] ds, x ≤ reachBytes := fun x hx => by simpa using Ud.1 hz0 x hx
  obtain ⟨dss, _, l2, l3⟩ := Xkm (P := Tryz.prog) 8 ok_boundaryCalls hA hz
  obtain ⟨d0, v0, _, k0, s0, r0⟩ := l3 0 38 rfl
  obtain ⟨d1, v1, _, k1, s1, r1⟩ := l3 1 30 rfl
  obtain ⟨d2, v2, _, k2, s2, r2⟩ := l3 2 30 rfl
  obtain ⟨d3, v3, _, k3, s3, r3⟩ := l3 3 3 rfl
  obtain ⟨d4, v4, _, k4, s4, r4⟩ := l3 4 39 rfl
  obtain ⟨d5, v5, _, k5, s5, r5⟩ := l3 5 39 rfl
  obtain ⟨d6, v6, _, k6, s6, r6⟩ := l3 6 39 rfl
  obtain ⟨al⟩ := args
  obtain rfl := args_7 (l := al) l2 k0 k1 k2 k3 k4 k5 k6
  obtain ⟨a0, rfl, t0⟩ := Xva _ _ s0
  have q0 := Xq7 Xs3 (hval 0 38 v0 rfl rfl) r0
  obtain ⟨a1, rfl, _, t1⟩ := XtZ _ _ s1
  have q1 := XrZ XsY (hval 1 30 v1 rfl rfl) r1
  obtain ⟨a2, rfl, _, t2⟩ := XtZ _ _ s2
  have q2 := XrZ XsY (hval 2 30 v2 rfl rfl) r2
  obtain ⟨a3, rfl, t3⟩ := Kk ty3 _ _ s3
  have q3 := Xt9 ty3 (hval 3 3 v3 rfl rfl) r3
  obtain ⟨a4, rfl, t4⟩ := XfZ XnE _ _ s4
  have q4 := Xt9 XnE (hval 4 39 v4 rfl rfl) r4
  obtain ⟨a5, rfl, t5⟩ := XfZ XnE _ _ s5
  have q5 := Xt9 XnE (hval 5 39 v5 rfl rfl) r5
  obtain ⟨a6, rfl, t6⟩ := XfZ XnE _ _ s6
  have q6 := Xt9 XnE (hval 6 39 v6 rfl rfl) r6
  have hr : RepL Tryz.prog (Ke W) Yx [.agg (e38 a0), .isl 3 1 (a1.map e3), .isl 3 1 (a2.map e3), .v (.int .i64 a3), .v (.int .u64 a4), .v (.int .u64 a5), .v (.int .u64 a6)] [v0, v1, v2, v3, v4, v5, v6] := by
    simp only [RepL]
    exact ⟨_, _, rfl, q0, ⟨_, _, rfl, q1, ⟨_, _, rfl, q2, ⟨_, _, rfl, q3, ⟨_, _, rfl, q4, ⟨_, _, rfl, q5, ⟨_, _, rfl, q6, rfl⟩⟩⟩⟩⟩⟩⟩
  obtain ⟨N, hN⟩ := XhG a0 a1 a2 a3 a4 a5 a6 hr.wf t0 t4 t5 t6
  refine (XrY (OK.h GG gw _ hN) (Xul hL) hr).mono fun e W2 he => ?_
  obtain ⟨rfl, hB⟩ := he
  have hds : ds.length = 7 := by have := Xgz hA; simpa using this
  obtain ⟨x0, x1, x2, x3, x4, x5, x6, rfl⟩ := len_7 hds
  exact ⟨_, rfl, Xsp (tb := 4) rfl (by kernel_rfl) (Xf3 ty4) Xuk read_boundaryCalls hW2 rfl hB⟩
def boundaryCalls_row : Rows.BoundaryCallsSaid :=
  OpenClaim.holds_of_wide 3 Tryz.f3 rfl rfl rfl rfl rfl rfl rfl ⟨rfl, rfl, rfl, rfl, rfl⟩ rfl rfl rfl rfl rfl (by kernel_rfl) Tryz.func3 boundaryCalls_closed
    (Ww (by kernel_rfl)) (by unfold Func.isWrapper; first | (rw [Wq (by decide +kernel)]; kernel_rfl) | (rw [Wk (by decide +kernel)]; exact ⟨rfl, rfl⟩))
    (fun os started H enc _ => boundaryCalls_lifted os started H enc)
theorem named_k : Tryz.prog.funcNamed Rows.boundaryCallsRow.func = some 3 := by kernel_rfl
theorem looks_k : true = Tryz.prog.looks [] := by kernel_rfl
end Go.Proofs.YtgbmffljpneflaaGreatDoor
