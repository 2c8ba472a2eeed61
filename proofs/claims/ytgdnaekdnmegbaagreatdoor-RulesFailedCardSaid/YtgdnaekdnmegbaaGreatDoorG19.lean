import Derived.Test.YtgdnaekdnmegbaaGreatDoorF
import Derived.Test.YtgdnaekdnmegbaaGreatDoorG0
import Derived.Test.YtgdnaekdnmegbaaGreatDoorG1
import Derived.Test.YtgdnaekdnmegbaaGreatDoorG7
import Derived.Test.YtgdnaekdnmegbaaGreatDoorG8
import Derived.Test.YtgdnaekdnmegbaaGreatDoorG14
import Derived.Test.YtgdnaekdnmegbaaGreatDoorG16
import Derived.Test.YtgdnaekdnmegbaaGreatDoorG18
set_option linter.all false
namespace Go.Sx
open Go.Proofs
set_option maxRecDepth 10000
set_option maxHeartbeats 100000000
abbrev I_ref17_Match_l1:=fun N (a0:THeap) (a1:List TPin) (y2:List Int × Int) (Q:(Ex Bool (List Int))→Prop) n (st:St)=>∃ (v3:Int) (v4:List Int) (ex:_),ref17_Match_l1 N a0 a1 y2 n v3 v4=some ex∧Q ex∧((∃ w1664 w128,st.n=103∧st.s 1664=some (w1664,.arr false 3 1 (v4.map e3) 0)∧st.t 1=.isl 193 2 (a1.map e193)∧st.t 2=.ept 128 w128 6 0 0∧st.t 5=.isl 37 1 (y2.1.map e37)∧st.t 7=.osl 1664 w1664 1 0 v4.length∧st.t 8=.v (.int .i64 v3)∧st.s 128=some (w128,.arr true 40 6 [[.v (.int .i64 a0.Conf.PageWords),.v (.int .i64 a0.Conf.Pages),.isl 37 1 (a0.Words.map e37),.isl 260 4 (a0.Pages.map e260),.v (.int .i64 a0.Space),.v (.int .i64 a0.Bump)]] 0)))
abbrev I_ref17_Match_l2:=fun N (a0:THeap) (y16:List Int) (Q:(Ex Bool Unit)→Prop) n (st:St)=>∃ (v17:Int) (ex:_),ref17_Match_l2 N a0 y16 n v17=some ex∧Q ex∧((∃ w1664 w128,st.n=103∧st.s 1664=some (w1664,.arr false 3 1 (y16.map e3) 0)∧st.t 2=.ept 128 w128 6 0 0∧st.t 7=.osl 1664 w1664 1 0 y16.length∧st.t 9=.v (.int .i64 v17)∧st.s 128=some (w128,.arr true 40 6 [[.v (.int .i64 a0.Conf.PageWords),.v (.int .i64 a0.Conf.Pages),.isl 37 1 (a0.Words.map e37),.isl 260 4 (a0.Pages.map e260),.v (.int .i64 a0.Space),.v (.int .i64 a0.Bump)]] 0)))
abbrev I_ref09_Refers_l1:=fun N (a1:List Int) (y2:List Int × Int) (Q:(Ex Bool Unit)→Prop) n (st:St)=>∃ (v3:Int) (ex:_),ref09_Refers_l1 N a1 y2 n v3=some ex∧Q ex∧((st.n=36∧st.t 1=.isl 37 1 (a1.map e37)∧st.t 5=.isl 37 1 (y2.1.map e37)∧st.t 7=.v (.int .i64 v3)))
abbrev I_ref10_Begin_l1:=fun N (a0:THeap) (y3:List Int × Int) (Q:(List TPage)→Prop) n (st:St)=>∃ (v4:Int) (v5:List TPage) (ex:_),ref10_Begin_l1 N a0 y3 n v4 v5=some ex∧Q ex∧((∃ w1472 w64 w128 w256,st.n=61∧st.s 1472=some (w1472,.arr false 260 4 (v5.map e260) 0)∧st.t 1=.ept 64 w64 6 0 0∧st.t 2=.ept 128 w128 16 0 0∧st.t 4=.ept 256 w256 16 0 0∧st.t 5=.v (.int .i64 v4)∧st.s 64=some (w64,.arr true 40 6 [[.v (.int .i64 a0.Conf.PageWords),.v (.int .i64 a0.Conf.Pages),.isl 37 1 (a0.Words.map e37),.isl 260 4 (a0.Pages.map e260),.v (.int .i64 a0.Space),.v (.int .i64 a0.Bump)]] 0)∧st.s 128=some (w128,.arr true 227 16 [[.v (.int .i64 0),.v (.int .i64 0),.nsl,.nsl,.v (.int .i64 0),.v (.int .i64 0),.nsl,.nsl,.nsl,.v (.int .i64 0),.v (.int .i64 0),.v (.int .i64 0),.v (.int .i64 0),.v (.int .i64 0),.v (.int .i64 0),.v (.int .i64 0)]] 0)∧st.s 256=some (w256,.arr true 227 16 [[.v (.int .i64 a0.Conf.PageWords),.v (.int .i64 a0.Conf.Pages),.isl 37 1 (a0.Words.map e37),.osl 1472 w1472 4 0 v5.length,.v (.int .i64 a0.Space),.v (.int .i64 a0.Bump),.isl 37 1 (y3.1.map e37),.nsl,.nsl,.v (.int .i64 0),.v (.int .i64 0),.v (.int .i64 0),.v (.int .i64 0),.v (.int .i64 0),.v (.int .i64 0),.v (.int .i64 0)]] 0)))
abbrev I_ref17_Crowded_l1:=fun N (a0:THeap) (a1:Int) (Q:Int→Prop) n (st:St)=>∃ (v3:Int) (v4:Int) (ex:_),ref17_Crowded_l1 N a0 a1 n v3 v4=some ex∧Q ex∧((∃ w128,st.n=65∧st.t 1=.v (.int .u64 a1)∧st.t 2=.ept 128 w128 6 0 0∧st.t 5=.v (.int .i64 v3)∧st.t 6=.v (.int .i64 v4)∧st.s 128=some (w128,.arr true 40 6 [[.v (.int .i64 a0.Conf.PageWords),.v (.int .i64 a0.Conf.Pages),.isl 37 1 (a0.Words.map e37),.isl 260 4 (a0.Pages.map e260),.v (.int .i64 a0.Space),.v (.int .i64 a0.Bump)]] 0)))
theorem g37:(∀ N (a0:THeap) (a1:List TPin),OK (ref17_Match N a0 a1) 164 [.agg (e40 a0),.isl 193 2 (a1.map e193)] [] (fun r=>.v (.bool r)) fun r=>[])∧(∀ N (a0:THeap) (a1:List Int),OK (ref09_Refers N a0 a1) 166 [.agg (e40 a0),.isl 37 1 (a1.map e37)] [] (fun r=>.v (.bool r)) fun r=>[])∧(∀ N (a0:THeap),OK (ref10_Begin N a0) 168 [.agg (e40 a0)] [] (fun r=>.tup [.agg (e227 r.1),.v (.int .i64 r.2)]) fun r=>[])∧(∀ N (a0:THeap) (a1:Int),OK (ref17_Crowded N a0 a1) 216 [.agg (e40 a0),.v (.int .u64 a1)] [] (fun r=>.v (.bool r)) fun r=>[]):=by
 refine ⟨fun N _ _=>rn Tryz.f164 [.tmp 4] [] 103 (by kernel_rfl) ?_,fun N _ _=>rn Tryz.f166 [.tmp 4] [] 36 (by kernel_rfl) ?_,fun N _=>rn Tryz.f168 [.cell 2 227,.tmp 3] [] 61 (by kernel_rfl) ?_,fun N _ _=>rn Tryz.f216 [.tmp 4] [] 65 (by kernel_rfl) ?_⟩<;>(rintro _ hw r hr C rfl hwf hf;simp only[Tryz.f164,Tryz.f166,Tryz.f168,Tryz.f216,Option.get!];(first|rw[ref17_Match] at hr|rw[ref09_Refers] at hr|rw[ref10_Begin] at hr|rw[ref17_Crowded] at hr);repeat' first
 |(refine El.el hr ?_;intro hr)
 |(with_reducible intro h;refine bc_e hr h ?_;intro hr)
 |with_reducible intro _
 |(refine some_e hr ?_;rintro rfl;have hr:=hk;clear hk)
 |simp only[go_sem,simprocAttr,E,hl3,hl37,hl193,hl260]
 |(with_reducible first|apply guard_of_f|apply guard_of_t|apply cond_of|apply doT_of_t|apply doT_of_f)
 |((first|with_reducible refine idx_s hr (by assumption) ?_ ?_|(with_reducible refine idx_e hr ?_ ?_;rotate_left;intro p;rotate_right));(·simp only[go_sem,simprocAttr]);intro hp hn hd hr;(try have hl3:=hd _ e3);(try simp only[go_sem,simprocAttr] at hl3);(try have hl37:=hd _ e37);(try simp only[go_sem,simprocAttr] at hl37);(try have hl193:=hd _ e193);(try simp only[go_sem,simprocAttr] at hl193);(try have hl260:=hd _ e260);(try simp only[go_sem,simprocAttr] at hl260))
 |(refine and_of' ?_ ?_;·first|assumption|omega)
 |with_reducible refine OK.c hr hw ?_ (fun y hr=>?_) _
 |with_reducible refine OK.d hr hw ?_ (fun y hr=>?_) _
 |(with_reducible refine loop_e (I:=I_ref17_Match_l1 N _ _ _) hr 1000 N (fun ex hq hk=>⟨_,_,ex,hq,hk,?_⟩) ?_ _;rotate_left;clear hr;(try clear E);rintro n1 st ⟨v3,v4,ex,hr,hk,⟨_,_,E⟩⟩<;>(obtain _|n1:=n1<;>rw[ref17_Match_l1] at hr))
 |refine ⟨_,Nat.lt_succ_self _,_,_,_,hr,hk,?_⟩
 |(with_reducible refine loop_e (I:=I_ref17_Match_l2 N _ _) hr 1000 N (fun ex hq hk=>⟨_,ex,hq,hk,?_⟩) ?_ _;rotate_left;clear hr;(try clear E);rintro n2 st ⟨v17,ex,hr,hk,⟨_,_,E⟩⟩<;>(obtain _|n2:=n2<;>rw[ref17_Match_l2] at hr))
 |refine ⟨_,Nat.lt_succ_self _,_,_,hr,hk,?_⟩
 |(with_reducible refine loop_e (I:=I_ref09_Refers_l1 N _ _) hr 1000 N (fun ex hq hk=>⟨_,ex,hq,hk,?_⟩) ?_ _;rotate_left;clear hr;(try clear E);rintro n1 st ⟨v3,ex,hr,hk,E⟩<;>(obtain _|n1:=n1<;>rw[ref09_Refers_l1] at hr))
 |(with_reducible refine loop_e (I:=I_ref10_Begin_l1 N _ _) hr 1000 N (fun ex hq hk=>⟨_,_,ex,hq,hk,?_⟩) ?_ _;rotate_left;clear hr;(try clear E);rintro n1 st ⟨v4,v5,ex,hr,hk,⟨_,_,_,_,E⟩⟩<;>(obtain _|n1:=n1<;>rw[ref10_Begin_l1] at hr))
 |(with_reducible refine loop_e (I:=I_ref17_Crowded_l1 N _ _) hr 1000 N (fun ex hq hk=>⟨_,_,ex,hq,hk,?_⟩) ?_ _;rotate_left;clear hr;(try clear E);rintro n1 st ⟨v3,v4,ex,hr,hk,⟨_,E⟩⟩<;>(obtain _|n1:=n1<;>rw[ref17_Crowded_l1] at hr))
 |refine db 164 10 hf [([],[],[69,70,71,72,73,74,75,78,79,80,81,82],[]),([],[],[68,70,71,72,73,74,78,79,80,81,82],[]),([],[],[68,69,71,78,79,80,81,82],[]),([],[],[68,69,70,78,79,80,81,82],[]),([2,3],[],[68,69,78,79,80,81,82],[]),([2,3,4],[],[68,69,78,79,80,81,82],[]),([2,3,4,5],[],[68,69,78,79,80,81,82],[]),([1,2,3,4,5,6],[],[68,78,79,80,81,82],[]),([0,1,2,3,4,5,6,7],[],[78,79,80,81,82],[]),([0,1,2,3,4,5,6,7,8],[],[78,79,80,81,82],[]),([],[],[68,69,70,71,72,73,74,75,76,77,79],[]),([],[],[68,69,70,71,72,73,74,75,76,77,78],[]),([10,11],[],[68,69,70,71,72,73,74,75,76,77],[]),([10,11,12],[],[68,69,70,71,72,73,74,75,76,77],[]),([10,11,12,13],[],[68,69,70,71,72,73,74,75,76,77],[]),([0,1,2,3,4,5,6,7,8,9,10,11,12,13,14],[],[],[]),([0,1,2,3,4,5,6,7,8,9,10,11,12,13,14,15],[],[],[]),([0,1,2,3,4,5,6,7,8,9,10,11,12,13,14,15,16],[1664],[],[])] rfl rfl (by kernel_rfl) ?_ _
 |refine db 164 14 hf [([],[],[94,98,99,100,101],[]),([0],[],[94,98,99,100,101],[]),([],[],[92,93,98,99,100,101],[]),([0,1,2],[],[98,99,100,101],[]),([0,1,2,3],[],[98,99,100,101],[]),([0,1,2,3,4],[],[98,99,100,101],[]),([],[],[92,93,94,95,96,97,99],[]),([],[],[92,93,94,95,96,97,98],[]),([6,7],[],[92,93,94,95,96,97],[]),([6,7,8],[],[92,93,94,95,96,97],[]),([0,1,2,3,4,5,6,7,8,9],[],[],[])] rfl rfl (by kernel_rfl) ?_ _
 |refine db 216 9 hf [([],[],[7,44,45,46],[448]),([0],[],[7,44,45,46],[448]),([],[],[7,42,43,45],[448]),([],[],[7,42,43,44],[448]),([2,3],[],[7,42,43],[448]),([0,1,2,3,4],[],[7],[448]),([0,1,2,3,4,5],[],[7],[448]),([],[448],[42,43,44,45,46,47,48],[]),([0,1,2,3,4,5,6,7],[448],[],[])] rfl rfl (by kernel_rfl) ?_ _
 |(refine some_e hr ?_;rintro rfl;with_reducible refine ret_k ?_)
 |exact no_e hr
 |((first|refine bc_e (c:=true) hr rfl ?_|refine bc_e (c:=false) hr rfl ?_|refine bc_e hr (by assumption) ?_);intro hr)
 |fail)
@[reducible,instance] def ref17_Match_i:=g37.1
@[reducible,instance] def ref09_Refers_i:=g37.2.1
@[reducible,instance] def ref10_Begin_i:=g37.2.2.1
@[reducible,instance] def ref17_Crowded_i:=g37.2.2.2
end Go.Sx
