import Derived.Test.YtgdhlnfcogcicaaGreatDoorQF
import Derived.Test.YtgdhlnfcogcicaaGreatDoorQG0
import Derived.Test.YtgdhlnfcogcicaaGreatDoorQG1
import Derived.Test.YtgdhlnfcogcicaaGreatDoorQG5
import Derived.Test.YtgdhlnfcogcicaaGreatDoorQG13
import Derived.Test.YtgdhlnfcogcicaaGreatDoorQG19
import Derived.Test.YtgdhlnfcogcicaaGreatDoorQG29
set_option linter.all false
namespace Go.Sx
open Go.Proofs
set_option maxRecDepth 10000
set_option maxHeartbeats 100000000
abbrev I_law21_ShadowAccesses_l1:=fun N (a3:Int) (a4:Int) (y1:List TWorld) (p3:TWorld) (v2:Int) (Q:(List Int)→Prop) n (st:St)=>∃ (v4:Int) (v5:List Int) (ex:_),law21_ShadowAccesses_l1 N a3 a4 y1 p3 v2 n v4 v5=some ex∧Q ex∧((∃ w2432 w768,st.n=119∧st.s 2432=some (w2432,.arr false 37 1 (v5.map e37) 0)∧st.t 3=.v (.int .u64 a3)∧st.t 4=.v (.int .u64 a4)∧st.t 12=.ept 768 w768 10 0 0∧st.t 13=.osl 2432 w2432 1 0 v5.length∧st.t 14=.v (.int .i64 v4)∧st.t 28=.isl 36 10 (y1.map e36)∧st.t 29=.v (.int .i64 ((y1.length:Nat):Int))∧st.t 30=.v (.int .i64 v2)∧st.s 768=some (w768,.arr true 36 10 [[.v (.int .i64 p3.Conf.PageWords),.v (.int .i64 p3.Conf.Pages),.isl 115 4 (p3.Things.map e115),.isl 210 3 (p3.Locals.Slots.map e210),.isl 159 3 (p3.Locals.Scopes.map e159),.isl 3 1 (p3.Locals.Issued.map e3),.isl 132 3 (p3.Globals.Entries.map e132),.isl 132 3 (p3.Weaks.Entries.map e132),.isl 96 3 (p3.Marks.map e96),.isl 37 1 (p3.Roots.map e37)]] 0)))
abbrev I_law21_ShadowAccesses_l2:=fun N (a3:Int) (a4:Int) (y1:List TWorld) (p3:TWorld) (v2:Int) (y8:List Int) (Q:(Ex Bool Unit)→Prop) n (st:St)=>∃ (v9:Int) (ex:_),law21_ShadowAccesses_l2 N a3 a4 y1 p3 v2 y8 n v9=some ex∧Q ex∧((∃ w2432 w768,st.n=119∧st.s 2432=some (w2432,.arr false 37 1 (y8.map e37) 0)∧st.t 3=.v (.int .u64 a3)∧st.t 4=.v (.int .u64 a4)∧st.t 12=.ept 768 w768 10 0 0∧st.t 28=.isl 36 10 (y1.map e36)∧st.t 29=.v (.int .i64 ((y1.length:Nat):Int))∧st.t 30=.v (.int .i64 v2)∧st.t 62=.osl 2432 w2432 1 0 y8.length∧st.t 63=.v (.int .i64 ((y8.length:Nat):Int))∧st.t 64=.v (.int .i64 v9)∧st.s 768=some (w768,.arr true 36 10 [[.v (.int .i64 p3.Conf.PageWords),.v (.int .i64 p3.Conf.Pages),.isl 115 4 (p3.Things.map e115),.isl 210 3 (p3.Locals.Slots.map e210),.isl 159 3 (p3.Locals.Scopes.map e159),.isl 3 1 (p3.Locals.Issued.map e3),.isl 132 3 (p3.Globals.Entries.map e132),.isl 132 3 (p3.Weaks.Entries.map e132),.isl 96 3 (p3.Marks.map e96),.isl 37 1 (p3.Roots.map e37)]] 0)))
abbrev I_law21_ShadowAccesses_l3:=fun N (a3:Int) (a4:Int) (y1:List TWorld) (Q:(Ex Bool Unit)→Prop) n (st:St)=>∃ (v2:Int) (ex:_),law21_ShadowAccesses_l3 N a3 a4 y1 n v2=some ex∧Q ex∧((st.n=119∧st.t 3=.v (.int .u64 a3)∧st.t 4=.v (.int .u64 a4)∧st.t 28=.isl 36 10 (y1.map e36)∧st.t 29=.v (.int .i64 ((y1.length:Nat):Int))∧st.t 30=.v (.int .i64 v2)))
instance law21_ShadowAccesses_i:∀ N (a0:TWorld) (a1:List Int) (a2:List Int) (a3:Int) (a4:Int),OK (law21_ShadowAccesses N a0 a1 a2 a3 a4) 7 [.agg (e36 a0),.isl 3 1 (a1.map e3),.isl 3 1 (a2.map e3),.v (.int .u64 a3),.v (.int .u64 a4)] [] (fun r=>.v (.bool r)) fun r=>[]:=by
 refine fun N _ _ _ _ _=>rn Tryz.f7 [.tmp 10] [] 119 (by kernel_rfl) ?_<;>(rintro _ hw r hr C _ rfl hwf hf;simp only[Tryz.f7,Option.get!];(rw[law21_ShadowAccesses] at hr);repeat' first
 |(refine El.el hr ?_;intro hr)
 |(with_reducible intro h;refine bc_e hr h ?_;intro hr)
 |with_reducible intro _
 |(refine some_e hr ?_;rintro rfl;have hr:=hk;clear hk)
 |simp only[go_sem,simprocAttr,E,hl36,hl37,hl96]
 |(with_reducible first|apply guard_of_f|apply guard_of_t|apply cond_of|apply doT_of_t|apply doT_of_f)
 |((first|with_reducible refine idx_s hr (by assumption) ?_ ?_|(with_reducible refine idx_e hr ?_ ?_;rotate_left;intro p;rotate_right));(·simp only[go_sem,simprocAttr]);intro hp hn hd hr;(try have hl36:=hd _ e36);(try simp only[go_sem,simprocAttr] at hl36);(try have hl37:=hd _ e37);(try simp only[go_sem,simprocAttr] at hl37);(try have hl96:=hd _ e96);(try simp only[go_sem,simprocAttr] at hl96))
 |(refine and_of' ?_ ?_;·first|assumption|omega)
 |with_reducible refine CallX.c ?_ _
 |with_reducible refine OK.c hr hw ?_ (fun y hr=>?_) _
 |with_reducible refine OK.d hr hw ?_ (fun y hr=>?_) _
 |(with_reducible refine loop_e (I:=I_law21_ShadowAccesses_l1 N _ _ _ _ _) hr 1000 N (fun ex hq hk=>⟨_,_,ex,hq,hk,?_⟩) ?_ _;rotate_left;clear hr;(try clear E);rintro n1 st ⟨v4,v5,ex,hr,hk,⟨_,_,E⟩⟩<;>(obtain _|n1:=n1<;>rw[law21_ShadowAccesses_l1] at hr))
 |refine ⟨_,Nat.lt_succ_self _,_,_,_,hr,hk,?_⟩
 |(with_reducible refine loop_e (I:=I_law21_ShadowAccesses_l2 N _ _ _ _ _ _) hr 1000 N (fun ex hq hk=>⟨_,ex,hq,hk,?_⟩) ?_ _;rotate_left;clear hr;(try clear E);rintro n2 st ⟨v9,ex,hr,hk,⟨_,_,E⟩⟩<;>(obtain _|n2:=n2<;>rw[law21_ShadowAccesses_l2] at hr))
 |refine ⟨_,Nat.lt_succ_self _,_,_,hr,hk,?_⟩
 |(with_reducible refine loop_e (I:=I_law21_ShadowAccesses_l3 N _ _ _) hr 1000 N (fun ex hq hk=>⟨_,ex,hq,hk,?_⟩) ?_ _;rotate_left;clear hr;(try clear E);rintro n3 st ⟨v2,ex,hr,hk,E⟩<;>(obtain _|n3:=n3<;>rw[law21_ShadowAccesses_l3] at hr))
 |refine db 7 8 hf [([],[],[47,48,49,50,51,52,53,54,55,56,57,58,59,60],[3840]),([],[],[46,49,53,54,55,56,57,58,59],[]),([1],[],[46,49,53,54,55,56,57,58,59],[]),([],[],[46,47,48,53,54,55,56,57,58,59],[]),([1,2,3],[],[46,53,54,55,56,57,58,59],[]),([1,2,3,4],[],[46,53,54,55,56,57,58,59],[]),([1,2,3,4,5],[],[46,53,54,55,56,57,58,59],[]),([],[],[46,47,48,49,50,51,52,55],[]),([7],[],[46,47,48,49,50,51,52,55],[]),([],[],[46,47,48,49,50,51,52,53,54],[]),([7,8,9],[],[46,47,48,49,50,51,52],[]),([7,8,9,10],[],[46,47,48,49,50,51,52],[]),([7,8,9,10,11],[],[46,47,48,49,50,51,52],[]),([7,8,9,10,11,12],[],[46,47,48,49,50,51,52],[]),([1,2,3,4,5,6,7,8,9,10,11,12,13],[3840],[46],[]),([0,1,2,3,4,5,6,7,8,9,10,11,12,13,14],[2432],[],[]),([0,1,2,3,4,5,6,7,8,9,10,11,12,13,14,15],[],[],[])] rfl rfl (by kernel_rfl) ?_ _
 |refine db 7 16 hf [([],[],[97],[]),([],[],[96],[]),([0,1],[],[],[]),([0,1,2],[],[],[]),([0,1,2,3],[],[101],[]),([0,1,2,3],[],[100],[]),([0,1,2,3,4,5],[],[],[]),([0,1,2,3,4,5,6],[],[],[]),([0,1,2,3,4,5,6,7],[],[],[]),([0,1,2,3,4,5,6,7,8],[],[106],[]),([0,1,2,3,4,5,6,7,8],[],[105],[]),([0,1,2,3,4,5,6,7,8,9,10],[],[],[]),([0,1,2,3,4,5,6,7,8,9,10,11],[],[],[]),([0,1,2,3,4,5,6,7,8,9,10,11,12],[],[],[]),([0,1,2,3,4,5,6,7,8,9,10,11,12,13],[],[112],[]),([0,1,2,3,4,5,6,7,8,9,10,11,12,13,14],[],[112],[]),([0,1,2,3,4,5,6,7,8,9,10,11,12,13],[],[110,111],[]),([0,1,2,3,4,5,6,7,8,9,10,11,12,13,14,15,16],[],[],[]),([0,1,2,3,4,5,6,7,8,9,10,11,12,13,14,15,16,17],[],[],[]),([0,1,2,3,4,5,6,7,8,9,10,11,12,13,14,15,16,17,18],[],[],[])] rfl rfl (by kernel_rfl) ?_ _
 |(refine some_e hr ?_;rintro rfl;with_reducible refine ret_k ?_)
 |exact no_e hr
 |((first|refine bc_e (c:=true) hr rfl ?_|refine bc_e (c:=false) hr rfl ?_|refine bc_e hr (by assumption) ?_);intro hr)
 |fail)
end Go.Sx
