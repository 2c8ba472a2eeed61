/- Proved: semispacelaw18.EnvAllocs answers true at every input that the given statement lets in, and leaves its arguments as they were.
   Conditions: those of the given statement alone (its arguments are well formed and fit into memory; the listed package-level variable has its initial value). -/
import Derived.Test.YtmpbhfnjjaocoaaGreatAH
import Derived.Test.YtmpbhfnjjaocoaaGreatAG32
set_option linter.all false
namespace Go.Proofs.YtmpbhfnjjaocoaaGreat
open Go Go.Sx Go.ChangeShapes Go.WideShapes Go.ChangeAt Go.WideElems Go.RowKit
set_option maxRecDepth 100000 in
theorem su:∀(m:Nat)(ds:List D),Sh Tryz.prog m 49 ds->∃n,ds=[.v (.int .u32 n)]/\tW n
 |0,_,h=>h.elim
 |m+1,ds,h=>by simp only[Sh,XbG Xtl]at h;obtain⟨n,rfl,h1,h2⟩:=h;exact⟨n,rfl,h1,h2⟩
set_option maxRecDepth 100000 in
theorem sh_51:∀(m:Nat)(ds:List D),Sh Tryz.prog m 51 ds->∃x:Wy,ds=e51 x/\YD x
 |0,_,h=>h.elim
 |m+1,ds,h=>by rw[show Sh Tryz.prog (m+1) 51 ds=_ from VY m Xtm ds]at h;simp only[Ug,Uz,ShF]at h;obtain⟨c0,_,rfl,s0,⟨c1,_,rfl,s1,⟨c2,_,rfl,s2,rfl⟩⟩⟩:=h;obtain⟨x0,rfl,p0⟩:=Z2 ty3 _ _ s0;obtain⟨x1,rfl,p1⟩:=Z2 ty3 _ _ s1;obtain⟨x2,rfl,p2⟩:=su _ _ s2;exact⟨⟨x0,x1,x2⟩,rfl,p2⟩
def pre6_and {H : Type} {enc : TypeId × Value → H} {P : Program} {f : Func} {s : ChangeSpec} {c : List PathCond} {b : Bool} : s.pre6 enc P f c b = fun w args => (s.pre enc P f c b w args ∧ True) ∧ sizedMet enc P f (OpenSpec.ofChange s) b w args := by
  funext w args
  simp only [ChangeSpec.pre6, and_true]
def args_4 {α : Type} {l : List α} {v0 v1 v2 v3 : α} (hl : l.length = 4) (h0 : l[0]? = some v0) (h1 : l[1]? = some v1) (h2 : l[2]? = some v2) (h3 : l[3]? = some v3) : l = [v0, v1, v2, v3] := by
  match l, hl with
  | [x0, x1, x2, x3], _ =>
    simp at h0 h1 h2 h3
    simp [h0, h1, h2, h3]
def len_4 {α : Type} {l : List α} (hl : l.length = 4) : ∃ x0 x1 x2 x3, l = [x0, x1, x2, x3] := by
  match l, hl with
  | [x0, x1, x2, x3], _ => exact ⟨x0, x1, x2, x3, rfl⟩
def ok_envAllocs : ∀ t ∈ [38, 30, 30, 51], okS Tryz.prog 8 t = true := by decide +kernel
def read_envAllocs : ∀ t ∈ Tryz.f4.params.toList, Tryz.prog.readableRec t = true ∧ t < Tryz.prog.types.size := by
  rw [Tryz.params4]
  exact Wu (by kernel_rfl)
set_option maxHeartbeats 8000000 in
set_option maxRecDepth 100000 in
def envAllocs_lifted (os : Os) (started : os.Started) (H : Type) (enc : TypeId × Value → H) :
    ReturnsInHanded {} Tryz.checked os 4 .any (Rows.envAllocsSpec.pre6 enc Tryz.prog Tryz.f4 [] false)
      (Rows.envAllocsSpec.post enc Tryz.prog Tryz.f4 false true false false) := by
  rw [pre6_and]
  refine returnsInHanded_of_change_and (C := Tryz.checked) (X := fun _ _ => True) (fun _ _ _ _ _ => trivial) own started (by kernel_rfl) Tryz.func4
    (ChangeSpec.witness_shaped (enc := enc) (C := Tryz.checked) (os := os) (X := fun _ _ => True) false (World.doorLaid Tryz.prog 400 os) #[.agg #[.int .i64 0, .int .i64 0, .slice none 0 0, .slice none 0 0, .int .i64 0, .int .i64 0, .slice none 0 0, .slice none 0 0, .slice none 0 0, .slice none 0 0, .slice none 0 0, .slice none 0 0, .slice none 0 0], .slice none 0 0, .slice none 0 0, .agg #[.int .i64 0, .int .i64 0, .int .u32 0]] 8 rfl (World.shaped_of_RefB (by kernel_rfl) (by kernel_rfl)) (by kernel_rfl) (by kernel_rfl) (by kernel_rfl) trivial) ?_
  intro W base args ds gs before hval0 hW _ hz0 hL _
  have hval : ∀ (j : Nat) t v, Tryz.f4.params[j]? = some t → args[j]? = some v → Value.okWide Tryz.prog W .any base t v := hval0
  rw [Tryz.params4] at hval
  have hW2 := hW
  obtain ⟨p, q, hA0, hV, rfl, _, _⟩ := hW
  have hA : DataW.TrodAll enc Tryz.prog W 0 (fun _ => true) true [38, 30, 30, 51] args.toList ds p := hA0
  obtain ⟨rfl, rfl⟩ := trodVars_none hV
  have hts : (Tryz.f4.params.toList ++ DataSpec.varTypes Tryz.checked.prog Rows.envAllocsSpec.plain) = [38, 30, 30, 51] := by kernel_rfl
  rw [hts, U1] at hz0
  have hz : ∀ x ∈ DataW.weightsEach Tryz.prog [38, 30, 30, 51] ds, x ≤ reachBytes := fun x hx => by simpa using Ud.1 hz0 x hx
  obtain ⟨dss, _, l2, l3⟩ := Xjm (P := Tryz.prog) 8 ok_envAllocs hA hz
  obtain ⟨d0, v0, _, k0, s0, r0⟩ := l3 0 38 rfl
  obtain ⟨d1, v1, _, k1, s1, r1⟩ := l3 1 30 rfl
  obtain ⟨d2, v2, _, k2, s2, r2⟩ := l3 2 30 rfl
  obtain ⟨d3, v3, _, k3, s3, r3⟩ := l3 3 51 rfl
  obtain ⟨al⟩ := args
  obtain rfl := args_4 (l := al) l2 k0 k1 k2 k3
  obtain ⟨a0, rfl, t0⟩ := Xtz _ _ s0
  have q0 := Xp2 XrV (hval 0 38 v0 rfl rfl) r0
  obtain ⟨a1, rfl, _, t1⟩ := XsF _ _ s1
  have q1 := XqW XrQ (hval 1 30 v1 rfl rfl) r1
  obtain ⟨a2, rfl, _, t2⟩ := XsF _ _ s2
  have q2 := XqW XrQ (hval 2 30 v2 rfl rfl) r2
  obtain ⟨a3, rfl, t3⟩ := sh_51 _ _ s3
  have q3 := Xp2 Xtm (hval 3 51 v3 rfl rfl) r3
  have hr : RepL Tryz.prog (Kq W) Yu [.agg (e38 a0), .isl 3 1 (a1.map e3), .isl 3 1 (a2.map e3), .agg (e51 a3)] [v0, v1, v2, v3] := by
    simp only [RepL]
    exact ⟨_, _, rfl, q0, ⟨_, _, rfl, q1, ⟨_, _, rfl, q2, ⟨_, _, rfl, q3, rfl⟩⟩⟩⟩
  obtain ⟨N, hN⟩ := XjZ a0 a1 a2 a3 hr.wf t0 t3
  refine (XqV (OK.h GG gw _ hN) (fun g cs h => gg0 h) hr).mono fun e W2 he => ?_
  obtain ⟨rfl, hB⟩ := he
  have hds : ds.length = 4 := by have := XfR hA; simpa using this
  obtain ⟨x0, x1, x2, x3, rfl⟩ := len_4 hds
  exact ⟨_, rfl, Xrl (tb := 4) rfl (by kernel_rfl) (Xfl ty4) XsX read_envAllocs hW2 rfl hB⟩
def and2 {a b : Bool} (h : a = true) (k : b = true) : (a && b) = true := by rw [h, k]; rfl
def envAllocs_k0 : (Rows.envAllocsRow.wf (OpenSpec.ofChange Rows.envAllocsSpec)) = true := by kernel_rfl
def envAllocs_k1 : (laidOutB Tryz.prog) = true := by kernel_rfl
def envAllocs_k2 : (mapsRowed Tryz.prog) = true := by kernel_rfl
def envAllocs_k3 : (Tryz.f4.params.all (Tryz.prog.readableRec ·)) = true := by kernel_rfl
def envAllocs_k4 : (namedTie Tryz.prog Rows.envAllocsRow.named Rows.envAllocsSpec.vars) = true := by kernel_rfl
def envAllocs_k5 : ((Rows.envAllocsRow.stops == [])) = true := by kernel_rfl
def envAllocs_k6 : ((Tryz.prog.stops == [])) = true := by kernel_rfl
def envAllocs_k7 : ((Rows.envAllocsRow.knobs == [])) = true := by kernel_rfl
def envAllocs_k8 : ((Tryz.prog.stopKnobs == [])) = true := by kernel_rfl
def envAllocs_k9 : ((Rows.envAllocsRow.inPlace == Tryz.prog.inPlace 4)) = true := by kernel_rfl
def envAllocs_k10 : ((Rows.envAllocsRow.unfollowed == Tryz.prog.unfollowed 4)) = true := by kernel_rfl
def envAllocs_k11 : ((Rows.envAllocsRow.recurses == Tryz.prog.recurses 4)) = true := by kernel_rfl
def envAllocs_k12 : ((Rows.envAllocsRow.named == Tryz.prog.varsNamed 4)) = true := by kernel_rfl
def envAllocs_k13 : ((Rows.envAllocsRow.maps == (Tryz.f4.params.toList ++ Rows.envAllocsSpec.plain.varTypes Tryz.prog).any (Tryz.prog.mapsRec ·))) = true := by kernel_rfl
def envAllocs_k14 : ((Rows.envAllocsRow.ifaces == (Tryz.f4.params.toList ++ Rows.envAllocsSpec.plain.varTypes Tryz.prog).any (Tryz.prog.ifacesRec ·))) = true := by kernel_rfl
def envAllocs_k15 : ((Rows.envAllocsRow.mapsOut == Tryz.prog.mapsAmong Tryz.f4.resultTypes.toList)) = true := by kernel_rfl
def envAllocs_k16 : ((Rows.envAllocsRow.loops == (Tryz.f4.params.toList ++ Rows.envAllocsSpec.plain.varTypes Tryz.prog).any (Tryz.prog.loopsFrom ·))) = true := by kernel_rfl
def envAllocs_k17 : ((Rows.envAllocsRow.wideKeys == (Tryz.f4.params.toList ++ Rows.envAllocsSpec.plain.varTypes Tryz.prog ++ Tryz.f4.resultTypes.toList).any (Tryz.prog.wideKeysFrom ·))) = true := by kernel_rfl
def envAllocs_k18 : (Rows.envAllocsSpec.vars.all (Tryz.prog.varReadable ·)) = true := by kernel_rfl
def envAllocs_k19 : (Tryz.f4.resultTypes.all (fun t => Tryz.prog.readableRec t && decide (t < Tryz.prog.types.size))) = true := by kernel_rfl
def envAllocs_k20 : ((Rows.envAllocsRow.ifacesOut == Tryz.f4.resultTypes.toList.any (Tryz.prog.ifacesRec ·))) = true := by kernel_rfl
def envAllocs_k21 : ((Rows.envAllocsRow.loopsOut == Tryz.f4.resultTypes.toList.any (Tryz.prog.loopsFrom ·))) = true := by kernel_rfl
def envAllocs_k22 : ((Rows.envAllocsRow.plainKeys == Tryz.prog.plainKeys)) = true := by kernel_rfl
def envAllocs_k23 : (Rows.envAllocsRow.shortTexts.isNone) = true := by kernel_rfl
def envAllocs_k24 : (Tryz.prog.stopsHeard) = true := by kernel_rfl
def envAllocs_k25 : (Tryz.prog.mayEnter) = true := by kernel_rfl
def envAllocs_k26 : ((Rows.envAllocsRow.lifted == Tryz.prog.liftsFinal)) = true := by kernel_rfl
def envAllocs_k27 : ((Tryz.prog.make == some Rows.envAllocsRow.make)) = true := by kernel_rfl
def envAllocs_k28 : ((Rows.envAllocsRow.kinds == (if Rows.envAllocsRow.domain.isEmpty then [] else Tryz.f4.params.toList.map fun t => match Tryz.prog.underlying t with | some (.int k) => some k | _ => none))) = true := by kernel_rfl
def envAllocs_k29 : ((Rows.envAllocsRow.pinned == Rows.envAllocsRow.pinnedBy)) = true := by kernel_rfl
def envAllocs_k30 : ((Rows.envAllocsRow.veiled == (Tryz.f4.params.toList ++ Rows.envAllocsSpec.plain.varTypes Tryz.prog ++ Tryz.f4.resultTypes.toList).any (Tryz.prog.veiledRec ·))) = true := by kernel_rfl
def envAllocs_k31 : (Rows.envAllocsRow.veiledFits Tryz.prog Tryz.f4.params.toList (Tryz.f4.params.toList ++ Rows.envAllocsSpec.plain.varTypes Tryz.prog ++ Tryz.f4.resultTypes.toList)) = true := by kernel_rfl
set_option maxRecDepth 100000 in
def envAllocs_closed : joinedFacts Tryz.prog 4 Tryz.f4 Rows.envAllocsSpec Rows.envAllocsRow = true := by
  unfold joinedFacts
  exact (and2 (and2 (and2 (and2 (and2 (and2 (and2 (and2 (and2 (and2 (and2 (and2 (and2 (and2 (and2 (and2 (and2 (and2 (and2 (and2 (and2 (and2 (and2 (and2 (and2 (and2 (and2 (and2 (and2 (and2 (and2 envAllocs_k0 envAllocs_k1) envAllocs_k2) envAllocs_k3) envAllocs_k4) envAllocs_k5) envAllocs_k6) envAllocs_k7) envAllocs_k8) envAllocs_k9) envAllocs_k10) envAllocs_k11) envAllocs_k12) envAllocs_k13) envAllocs_k14) envAllocs_k15) envAllocs_k16) envAllocs_k17) envAllocs_k18) envAllocs_k19) envAllocs_k20) envAllocs_k21) envAllocs_k22) envAllocs_k23) envAllocs_k24) envAllocs_k25) envAllocs_k26) envAllocs_k27) envAllocs_k28) envAllocs_k29) envAllocs_k30) envAllocs_k31)
def envAllocs_row : Rows.EnvAllocsSaid :=
  OpenClaim.holds_of_wide 4 Tryz.f4 rfl rfl rfl rfl rfl rfl rfl ⟨rfl, rfl, rfl, rfl, rfl⟩ rfl rfl rfl rfl rfl (by kernel_rfl) Tryz.func4 envAllocs_closed
    (Wu (by kernel_rfl)) (by unfold Func.isWrapper; first | (rw [Wq (by decide +kernel)]; kernel_rfl) | (rw [Wn (by decide +kernel)]; exact ⟨rfl, rfl⟩))
    (fun os started H enc _ => envAllocs_lifted os started H enc)
def envAllocs_holds : Rows.EnvAllocsSaid := envAllocs_row
#print axioms envAllocs_holds
end Go.Proofs.YtmpbhfnjjaocoaaGreat
