import Derived.Test.YtgdnaekdnmegbaaGreatDoorF
import Derived.Test.YtgdnaekdnmegbaaGreatDoorG7
import Derived.Test.YtgdnaekdnmegbaaGreatDoorG13
import Derived.Test.YtgdnaekdnmegbaaGreatDoorG14
import Derived.Test.YtgdnaekdnmegbaaGreatDoorG16
import Derived.Test.YtgdnaekdnmegbaaGreatDoorG17
set_option linter.all false
namespace Go.Sx
open Go.Proofs
set_option maxRecDepth 10000
set_option maxHeartbeats 100000000
theorem H0:True:=trivial
theorem map91:mapTy Tryz.prog 91=some (.i64,89):=by kernel_rfl
theorem rules_table_ok (G:Nat → Option (List D)):ACalls Tryz.prog G 29 [] [] (Eqs (.fmp .i64 [1,2,3,4,5,6,7,8,9,10,11,13,15,12,14,16,17,18,19,20] [.agg [.clo (.func 74) [] []],.agg [.clo (.func 76) [] []],.agg [.clo (.func 77) [] []],.agg [.clo (.func 72) [] []],.agg [.clo (.func 72) [] []],.agg [.clo (.func 70) [] []],.agg [.clo (.func 70) [] []],.agg [.clo (.func 78) [] []],.agg [.clo (.func 79) [] []],.agg [.clo (.func 80) [] []],.agg [.clo (.func 81) [] []],.agg [.clo (.func 83) [] []],.agg [.clo (.func 85) [] []],.agg [.clo (.func 86) [] []],.agg [.clo (.func 88) [] []],.agg [.clo (.func 89) [] []],.agg [.clo (.func 90) [] []],.agg [.clo (.func 91) [] []],.agg [.clo (.func 92) [] []],.agg [.clo (.func 93) [] []]]) []):=by
 refine acalls_of_run (fn:=Tryz.f29) (body:=(Tryz.f29.body).get!) (rs:=[.tmp 0]) 1000 [192] 29 (by kernel_rfl) (by kernel_rfl) (by kernel_rfl) (by kernel_rfl) (by kernel_rfl) (by simp) fun C hG hwf=>?_
 subst hG
 simp only[Tryz.f29,Option.get!]
 simp only[go_sem,simprocAttr,map91]
 with_reducible refine ret_k ?_
 simp only[go_sem,simprocAttr]
instance rules_Verdict_i:∀ N (a0:TWorld) (a1:Int) (a2:Int) (a3:Int) (a4:Int) (a5:Bool),OK (rules_Verdict N a0 a1 a2 a3 a4 a5) 10 [.agg (e61 a0),.v (.int .i64 a1),.v (.int .u64 a2),.v (.int .u64 a3),.v (.int .u64 a4),.v (.bool a5)] [] (fun r=>.v (.int .i64 r)) fun r=>[]:=by
 refine fun N a0 a1 a2 a3 a4 a5=>?_
 have hc:a1=1∨a1=2∨a1=3∨a1=4∨a1=5∨a1=6∨a1=7∨a1=8∨a1=9∨a1=10∨a1=11∨a1=13∨a1=15∨a1=12∨a1=14∨a1=16∨a1=17∨a1=18∨a1=19∨a1=20∨(a1≠1∧a1≠2∧a1≠3∧a1≠4∧a1≠5∧a1≠6∧a1≠7∧a1≠8∧a1≠9∧a1≠10∧a1≠11∧a1≠13∧a1≠15∧a1≠12∧a1≠14∧a1≠16∧a1≠17∧a1≠18∧a1≠19∧a1≠20):=by omega
 rcases hc with rfl|rfl|rfl|rfl|rfl|rfl|rfl|rfl|rfl|rfl|rfl|rfl|rfl|rfl|rfl|rfl|rfl|rfl|rfl|rfl|H0
 all_goals
  refine rn Tryz.f10 [.tmp 12] [] 35 (by kernel_rfl) ?_
  rintro _ hw r hr C rfl hwf hf
  rw[rules_Verdict] at hr
  simp only[Tryz.f10,Option.get!]
  repeat' first
   |simp only[go_sem,simprocAttr,map91,List.zip_cons_cons,List.zip_nil_left,H0]
   |(with_reducible intro h;refine bc_e hr h ?_;intro hr)
   |(refine El.el hr ?_;intro hr)
   |(with_reducible first|apply guard_of_f|apply guard_of_t|apply cond_of)
   |(refine and_of' ?_ ?_;(·first|assumption|omega))
   |with_reducible refine OK.c hr hw ?_ (fun y hr=>?_) _
   |with_reducible refine CallG.ofE (rules_table_ok _) ?_ ?_ _
   |with_reducible refine CallG.ofE (OK.h _ hw _ hr) ?_ ?_ _
   |(refine some_e hr ?_;rintro rfl;with_reducible refine ret_k ?_)
   |((first|refine bc_e (c:=true) hr rfl ?_|refine bc_e (c:=false) hr rfl ?_|refine bc_e (c:=false) hr (beq_eq_false_iff_ne.2 (by simp only[H0,ne_eq,not_false_eq_true])) ?_);intro hr)
   |with_reducible refine ret_k ?_
   |fail
theorem g36:(∀ N (a0:THeap),OK (ref09_Good N a0) 195 [.agg (e40 a0)] [] (fun r=>.v (.bool r)) fun r=>[])∧(∀ N (a0:TWorld) (a1:Int),OK (rules_Access N a0 a1) 20 [.agg (e61 a0),.v (.int .u64 a1)] [] (fun r=>.v (.int .i64 r)) fun r=>[]):=by
 refine ⟨fun N _=>rn Tryz.f195 [.tmp 2] [] 7 (by kernel_rfl) ?_,fun N _ _=>rn Tryz.f20 [.tmp 4] [] 27 (by kernel_rfl) ?_⟩<;>(rintro _ hw r hr C rfl hwf hf;simp only[Tryz.f195,Tryz.f20,Option.get!];(first|rw[ref09_Good] at hr|rw[rules_Access] at hr);repeat' first
 |(refine El.el hr ?_;intro hr)
 |(with_reducible intro h;refine bc_e hr h ?_;intro hr)
 |with_reducible intro _
 |simp only[go_sem,simprocAttr,hl100]
 |(with_reducible first|apply guard_of_f|apply guard_of_t|apply cond_of)
 |((first|with_reducible refine idx_s hr (by assumption) ?_ ?_|(with_reducible refine idx_e hr ?_ ?_;rotate_left;intro p;rotate_right));(·simp only[go_sem,simprocAttr]);intro hp hn hd hr;(try have hl100:=hd _ e100);(try simp only[go_sem,simprocAttr] at hl100))
 |(refine and_of' ?_ ?_;·first|assumption|omega)
 |with_reducible refine OK.c hr hw ?_ (fun y hr=>?_) _
 |(refine some_e hr ?_;rintro rfl;with_reducible refine ret_k ?_)
 |exact no_e hr
 |fail)
@[reducible,instance] def ref09_Good_i:=g36.1
@[reducible,instance] def rules_Access_i:=g36.2
end Go.Sx
