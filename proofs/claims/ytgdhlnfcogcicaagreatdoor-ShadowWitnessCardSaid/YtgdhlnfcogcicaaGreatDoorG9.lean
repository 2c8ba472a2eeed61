import Derived.Test.YtgdhlnfcogcicaaGreatDoorF
import Derived.Test.YtgdhlnfcogcicaaGreatDoorG1
import Derived.Test.YtgdhlnfcogcicaaGreatDoorG2
import Derived.Test.YtgdhlnfcogcicaaGreatDoorG4
import Derived.Test.YtgdhlnfcogcicaaGreatDoorG5
import Derived.Test.YtgdhlnfcogcicaaGreatDoorG8
set_option linter.all false
namespace Go.Sx
open Go.Proofs
set_option maxRecDepth 10000
set_option maxHeartbeats 100000000
abbrev I_rules_Valid_l1:=fun N (a0:TWorld) (Q:(Ex Bool Unit)→Prop) n (st:St)=>∃ (v7:Int) (ex:_),rules_Valid_l1 N a0 n v7=some ex∧Q ex∧((∃ w64,st.n=64∧st.t 1=.ept 64 w64 10 0 0∧st.t 34=.isl 77 4 (a0.Things.map e77)∧st.t 35=.v (.int .i64 ((a0.Things.length:Nat):Int))∧st.t 36=.v (.int .i64 v7)∧st.s 64=some (w64,.arr true 61 10 [[.v (.int .i64 a0.Conf.PageWords),.v (.int .i64 a0.Conf.Pages),.isl 77 4 (a0.Things.map e77),.isl 210 3 (a0.Locals.Slots.map e210),.isl 159 3 (a0.Locals.Scopes.map e159),.isl 3 1 (a0.Locals.Issued.map e3),.isl 132 3 (a0.Globals.Entries.map e132),.isl 132 3 (a0.Weaks.Entries.map e132),.isl 116 3 (a0.Marks.map e116),.isl 37 1 (a0.Roots.map e37)]] 0)))
instance rules_Valid_i:∀ N (a0:TWorld),OK (rules_Valid N a0) 57 [.agg (e61 a0)] [] (fun r=>.v (.bool r)) fun r=>[]:=by
 refine fun N _=>rn Tryz.f57 [.tmp 2] [] 64 (by kernel_rfl) ?_<;>(rintro _ hw r hr C _ rfl hwf hf;simp only[Tryz.f57,Option.get!];(rw[rules_Valid] at hr);repeat' first
 |(refine El.el hr ?_;intro hr)
 |(with_reducible intro h;refine bc_e hr h ?_;intro hr)
 |with_reducible intro _
 |(refine some_e hr ?_;rintro rfl;have hr:=hk;clear hk)
 |simp only[go_sem,simprocAttr,E,hl77]
 |(with_reducible first|apply guard_of_f|apply guard_of_t|apply cond_of|apply doT_of_t|apply doT_of_f)
 |((first|with_reducible refine idx_s hr (by assumption) ?_ ?_|(with_reducible refine idx_e hr ?_ ?_;rotate_left;intro p;rotate_right));(·simp only[go_sem,simprocAttr]);intro hp hn hd hr;(try have hl77:=hd _ e77);(try simp only[go_sem,simprocAttr] at hl77))
 |(refine and_of' ?_ ?_;·first|assumption|omega)
 |with_reducible refine CallX.c ?_ _
 |with_reducible refine OK.c hr hw ?_ (fun y hr=>?_) _
 |with_reducible refine OK.d hr hw ?_ (fun y hr=>?_) _
 |(with_reducible refine loop_e (I:=I_rules_Valid_l1 N _) hr 1000 N (fun ex hq hk=>⟨_,ex,hq,hk,?_⟩) ?_ _;rotate_left;clear hr;(try clear E);rintro n1 st ⟨v7,ex,hr,hk,⟨_,E⟩⟩<;>(obtain _|n1:=n1<;>rw[rules_Valid_l1] at hr))
 |refine ⟨_,Nat.lt_succ_self _,_,_,hr,hk,?_⟩
 |refine db 57 9 hf [([],[],[46,47,48,49,50,51,52,53,54,55,56,57,58],[3648]),([],[],[45,48,49,50,51,52,53,54,55,56],[]),([1],[],[45,48,49,50,51,52,53,54,55,56],[]),([],[],[45,46,47,51,52,54,55],[]),([3],[],[45,46,47,51,52,54,55],[]),([3,4],[],[45,46,47,51,52,54,55],[]),([],[],[45,46,47,48,49,50,54,55],[]),([6],[],[45,46,47,48,49,50,54,55],[]),([3,4,5,6,7],[],[45,46,47,54,55],[]),([],[],[45,46,47,48,49,50,51,52,53],[]),([9],[],[45,46,47,48,49,50,51,52,53],[]),([3,4,5,6,7,8,9,10],[],[45,46,47],[]),([1,2,3,4,5,6,7,8,9,10,11],[3648],[45],[]),([1,2,3,4,5,6,7,8,9,10,11,12],[3648],[45],[]),([0,1,2,3,4,5,6,7,8,9,10,11,12,13],[],[],[]),([0,1,2,3,4,5,6,7,8,9,10,11,12,13,14],[],[],[]),([0,1,2,3,4,5,6,7,8,9,10,11,12,13,14,15],[],[],[]),([0,1,2,3,4,5,6,7,8,9,10,11,12,13,14,15,16],[],[],[]),([0,1,2,3,4,5,6,7,8,9,10,11,12,13,14,15,16,17],[],[],[]),([0,1,2,3,4,5,6,7,8,9,10,11,12,13,14,15,16,17,18],[],[],[])] rfl rfl (by kernel_rfl) ?_ _
 |(refine some_e hr ?_;rintro rfl;with_reducible refine ret_k ?_)
 |exact no_e hr
 |((first|refine bc_e (c:=true) hr rfl ?_|refine bc_e (c:=false) hr rfl ?_|refine bc_e hr (by assumption) ?_);intro hr)
 |fail)
end Go.Sx
