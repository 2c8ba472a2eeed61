import Derived.Test.YtgdhlnfcogcicaaGreatDoorRF
import Derived.Test.YtgdhlnfcogcicaaGreatDoorRG12
import Derived.Test.YtgdhlnfcogcicaaGreatDoorRG13
import Derived.Test.YtgdhlnfcogcicaaGreatDoorRG15
import Derived.Test.YtgdhlnfcogcicaaGreatDoorRG16
set_option linter.all false
namespace Go.Sx
open Go.Proofs
set_option maxRecDepth 10000
set_option maxHeartbeats 100000000
theorem H0:True:=trivial
theorem mapT:mapTy Tryz.prog 170=some (.i64,168):=by kernel_rfl
theorem QjC (G:Nat→Option (List D)):ACalls Tryz.prog G 79 [] [] (Eqs (.fmp .i64 [1,2,3,4,5,6,7,8,9,10,11,13,15,12,14,16,17,18,19,20] [.agg [.clo (.func 146) [] []],.agg [.clo (.func 148) [] []],.agg [.clo (.func 149) [] []],.agg [.clo (.func 144) [] []],.agg [.clo (.func 144) [] []],.agg [.clo (.func 142) [] []],.agg [.clo (.func 142) [] []],.agg [.clo (.func 150) [] []],.agg [.clo (.func 151) [] []],.agg [.clo (.func 152) [] []],.agg [.clo (.func 153) [] []],.agg [.clo (.func 155) [] []],.agg [.clo (.func 157) [] []],.agg [.clo (.func 158) [] []],.agg [.clo (.func 160) [] []],.agg [.clo (.func 161) [] []],.agg [.clo (.func 162) [] []],.agg [.clo (.func 163) [] []],.agg [.clo (.func 164) [] []],.agg [.clo (.func 165) [] []]]) []):=by
 refine acalls_of_run (fn:=Tryz.f79) (body:=(Tryz.f79.body).get!) (rs:=[.tmp 0]) 1000 [192] 29 (by kernel_rfl) (by kernel_rfl) (by kernel_rfl) (by kernel_rfl) (by kernel_rfl) (by simp) fun C _ hG hwf=>?_
 subst hG
 simp only[Tryz.f79,Option.get!]
 simp only[go_sem,simprocAttr,mapT]
 with_reducible refine ret_k ?_
 simp only[go_sem,simprocAttr]
instance Qlz:∀ N (a0:TWorld) (a1:Int) (a2:Int) (a3:Int) (a4:Int) (a5:Bool),OK (Qai N a0 a1 a2 a3 a4 a5) 39 [.agg (e61 a0),.v (.int .i64 a1),.v (.int .u64 a2),.v (.int .u64 a3),.v (.int .u64 a4),.v (.bool a5)] [] (fun r=>.v (.int .i64 r)) fun r=>[]:=by
 refine fun N a0 a1 a2 a3 a4 a5=>?_
 have hc:a1=1∨a1=2∨a1=3∨a1=4∨a1=5∨a1=6∨a1=7∨a1=8∨a1=9∨a1=10∨a1=11∨a1=13∨a1=15∨a1=12∨a1=14∨a1=16∨a1=17∨a1=18∨a1=19∨a1=20∨(a1≠1∧a1≠2∧a1≠3∧a1≠4∧a1≠5∧a1≠6∧a1≠7∧a1≠8∧a1≠9∧a1≠10∧a1≠11∧a1≠13∧a1≠15∧a1≠12∧a1≠14∧a1≠16∧a1≠17∧a1≠18∧a1≠19∧a1≠20):=by omega
 rcases hc with rfl|rfl|rfl|rfl|rfl|rfl|rfl|rfl|rfl|rfl|rfl|rfl|rfl|rfl|rfl|rfl|rfl|rfl|rfl|rfl|H0
 all_goals
  refine rn Tryz.f39 [.tmp 12] [] 35 (by kernel_rfl) ?_
  rintro _ hw r hr C _ rfl hwf hf
  rw[Qai] at hr
  simp only[Tryz.f39,Option.get!]
  repeat' first
   |simp only[go_sem,simprocAttr,mapT,List.zip_cons_cons,List.zip_nil_left,H0]
   |(with_reducible intro h;refine bc_e hr h ?_;intro hr)
   |(refine El.el hr ?_;intro hr)
   |(with_reducible first|apply guard_of_f|apply guard_of_t|apply cond_of)
   |(refine and_of' ?_ ?_;(·first|assumption|omega))
   |with_reducible refine CallX.c ?_ _
   |with_reducible refine OK.c hr hw ?_ (fun y hr=>?_) _
   |with_reducible refine CallG.ofE (QjC _) ?_ ?_ _
   |with_reducible refine CallG.ofE (OK.h _ hw _ hr) ?_ ?_ _
   |(refine some_e hr ?_;rintro rfl;with_reducible refine ret_k ?_)
   |((first|refine bc_e (c:=true) hr rfl ?_|refine bc_e (c:=false) hr rfl ?_|refine bc_e (c:=false) hr (beq_eq_false_iff_ne.2 (by simp only[H0,ne_eq,not_false_eq_true])) ?_);intro hr)
   |exact no_e hr
   |with_reducible refine ret_k ?_
   |fail
instance QnG:∀ N (a0:THeap),OK (Qei N a0) 240 [.agg (e42 a0)] [] (fun r=>.v (.bool r)) fun r=>[]:=by
 refine fun N _=>rn Tryz.f240 [.tmp 2] [] 7 (by kernel_rfl) ?_<;>(rintro _ hw r hr C _ rfl hwf hf;simp only[Tryz.f240,Option.get!];(rw[Qei] at hr);repeat' first
 |(refine El.el hr ?_;intro hr)
 |(with_reducible intro h;refine bc_e hr h ?_;intro hr)
 |with_reducible intro _
 |simp only[go_sem,simprocAttr]
 |(with_reducible first|apply guard_of_f|apply guard_of_t|apply cond_of)
 |(refine and_of' ?_ ?_;·first|assumption|omega)
 |with_reducible refine CallX.c ?_ _
 |with_reducible refine OK.c hr hw ?_ (fun y hr=>?_) _
 |(refine some_e hr ?_;rintro rfl;with_reducible refine ret_k ?_)
 |exact no_e hr
 |fail)
end Go.Sx
