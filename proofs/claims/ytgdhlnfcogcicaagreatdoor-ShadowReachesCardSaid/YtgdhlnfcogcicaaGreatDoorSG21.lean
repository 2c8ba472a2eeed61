import Derived.Test.YtgdhlnfcogcicaaGreatDoorSF
import Derived.Test.YtgdhlnfcogcicaaGreatDoorSG2
import Derived.Test.YtgdhlnfcogcicaaGreatDoorSG9
import Derived.Test.YtgdhlnfcogcicaaGreatDoorSG10
import Derived.Test.YtgdhlnfcogcicaaGreatDoorSG11
import Derived.Test.YtgdhlnfcogcicaaGreatDoorSG12
import Derived.Test.YtgdhlnfcogcicaaGreatDoorSG16
import Derived.Test.YtgdhlnfcogcicaaGreatDoorSG18
import Derived.Test.YtgdhlnfcogcicaaGreatDoorSG19
import Derived.Test.YtgdhlnfcogcicaaGreatDoorSG20
set_option linter.all false
namespace Go.Sx
open Go.Proofs
set_option maxRecDepth 10000
set_option maxHeartbeats 100000000
instance QlE:∀ N (a0:TWorld) (a1:Int) (a2:Int) (a3:Int) (a4:Int) (a5:TFact),OK (Qgu N a0 a1 a2 a3 a4 a5) 11 [.agg (e61 a0),.v (.int .i64 a1),.v (.int .u64 a2),.v (.int .u64 a3),.v (.int .u64 a4),.agg (e66 a5)] [] (fun r=>.tup [.agg (e61 r.1),.v (.int .u64 r.2.1),.v (.int .i64 r.2.2)]) fun r=>[]:=by
 refine fun N _ _ _ _ _ _=>rn Tryz.f11 [.cell 12 61,.tmp 13,.tmp 14] [] 57 (by kernel_rfl) ?_<;>(rintro _ hw r hr C _ rfl hwf hf;simp only[Tryz.f11,Option.get!];(rw[Qgu] at hr;refine spec_e hr ?_;rintro rfl hr);repeat' first
 |(refine El.el hr ?_;intro hr)
 |(with_reducible intro h;refine bc_e hr h ?_;intro hr)
 |with_reducible intro _
 |simp only[go_sem,simprocAttr,hl37,hl77]
 |(with_reducible first|apply guard_of_f|apply guard_of_t|apply cond_of|apply doT_of_t|apply doT_of_f)
 |((first|with_reducible refine idx_s hr (by assumption) ?_ ?_|(with_reducible refine idx_e hr ?_ ?_;rotate_left;intro p;rotate_right));(·simp only[go_sem,simprocAttr]);intro hp hn hd hr;(try have hl37:=hd _ e37);(try simp only[go_sem,simprocAttr] at hl37);(try have hl77:=hd _ e77);(try simp only[go_sem,simprocAttr] at hl77))
 |(refine and_of' ?_ ?_;·first|assumption|omega)
 |(refine CallX.inl (f:=42) 400 (fn:=Tryz.f42) (rs:=[.tmp 14,.tmp 15]) (nt:=221) 1000 (by kernel_rfl) (fun x=>?_) _;simp only[Tryz.f42,Option.get!])
 |(refine CallX.inl (f:=86) 800 (fn:=Tryz.f86) (rs:=[.tmp 6,.tmp 7]) (nt:=49) 1000 (by kernel_rfl) (fun x=>?_) _;simp only[Tryz.f86,Option.get!])
 |(refine CallX.inl (f:=87) 1200 (fn:=Tryz.f87) (rs:=[.tmp 4,.tmp 5]) (nt:=36) 1000 (by kernel_rfl) (fun x=>?_) _;simp only[Tryz.f87,Option.get!])
 |with_reducible refine CallX.c ?_ _
 |with_reducible refine OK.c hr hw ?_ (fun y hr=>?_) _
 |with_reducible refine OK.d hr hw ?_ (fun y hr=>?_) _
 |refine db 42 22 ⟨⟩ [([],[],[102,105,106,107,108,109,110,111,112],[]),([0],[],[102,105,106,107,108,109,110,111,112],[]),([],[],[102,103,104,106,107,108,109,110,111,112],[]),([],[],[103,104,105,109],[]),([3],[],[103,104,105,109],[]),([3,4],[],[103,104,105,109],[]),([],[],[103,104,105,106,107,108],[]),([3,4,5,6],[],[103,104,105],[]),([3,4,5,6,7],[],[103,104,105],[]),([3,4,5,6,7,8],[],[103,104,105,112],[]),([3,4,5,6,7,8],[],[103,104,105,111,113],[]),([0,1,2,3,4,5,6,7,8,9],[],[112],[]),([0,1,2,3,4,5,6,7,8,9,11],[],[112],[]),([0,1,2,3,4,5,6,7,8,9,10,11,12],[],[],[])] rfl rfl (by kernel_rfl) ?_ _
 |refine db 86 6 ⟨⟩ [([],[],[26,27,28,29,30,31,32,33,34,35,36],[2560,52224,53312,53440]),([],[],[25,30,31,32,33,34,35],[53312,53440]),([1],[],[25,30,31,32,33,34,35],[53312,53440]),([1,2],[],[25,30,31,32,33,34,35],[53312,53440]),([1,2,3],[],[25,30,31,32,33,34,35],[53312,53440]),([],[],[25,26,27,28,29,31,32,33],[53312]),([],[],[25,26,27,28,29,30],[]),([6],[],[25,26,27,28,29,30],[]),([6,7],[53312],[25,26,27,28,29,30],[]),([5,6,7,8],[],[25,26,27,28,29],[]),([5,6,7,8,9],[53312,53440],[25,26,27,28,29],[]),([1,2,3,4,5,6,7,8,9,10],[2560,52224],[25],[]),([0,1,2,3,4,5,6,7,8,9,10,11],[],[],[]),([0,1,2,3,4,5,6,7,8,9,10,11,12],[],[],[]),([0,1,2,3,4,5,6,7,8,9,10,11,12,13],[1152],[],[])] rfl rfl (by kernel_rfl) ?_ _
 |(refine some_e hr ?_;rintro rfl;with_reducible refine ret_k ?_)
 |exact no_e hr
 |fail)
abbrev Qh6:=fun N (a0:THeap) (a1:List TPin) (y2:List Int × Int) (Q:(Ex Bool (List Int))→Prop) n (st:St)=>∃ (v3:Int) (v4:List Int) (ex:_),Qdf N a0 a1 y2 n v3 v4=some ex∧Q ex∧((∃ w1664 w128,st.n=103∧st.s 1664=some (w1664,.arr false 3 1 (v4.map e3) 0)∧st.t 1=.isl 229 2 (a1.map e229)∧st.t 2=.ept 128 w128 6 0 0∧st.t 5=.isl 37 1 (y2.1.map e37)∧st.t 7=.osl 1664 w1664 1 0 v4.length∧st.t 8=.v (.int .i64 v3)∧st.s 128=some (w128,.arr true 42 6 [e42 a0] 0)))
abbrev Qh7:=fun N (a0:THeap) (y16:List Int) (Q:(Ex Bool Unit)→Prop) n (st:St)=>∃ (v17:Int) (ex:_),Qdg N a0 y16 n v17=some ex∧Q ex∧((∃ w1664 w128,st.n=103∧st.s 1664=some (w1664,.arr false 3 1 (y16.map e3) 0)∧st.t 2=.ept 128 w128 6 0 0∧st.t 7=.osl 1664 w1664 1 0 y16.length∧st.t 9=.v (.int .i64 v17)∧st.s 128=some (w128,.arr true 42 6 [e42 a0] 0)))
abbrev Qhn:=fun N (a1:List Int) (y2:List Int × Int) (Q:(Ex Bool Unit)→Prop) n (st:St)=>∃ (v3:Int) (ex:_),Qb1 N a1 y2 n v3=some ex∧Q ex∧((st.n=36∧st.t 1=.isl 37 1 (a1.map e37)∧st.t 5=.isl 37 1 (y2.1.map e37)∧st.t 7=.v (.int .i64 v3)))
abbrev Qh8:=fun N (a0:THeap) (y3:List Int × Int) (Q:(List TPage)→Prop) n (st:St)=>∃ (v4:Int) (v5:List TPage) (ex:_),QbO N a0 y3 n v4 v5=some ex∧Q ex∧((∃ w1472 w64 w128 w256,st.n=61∧st.s 1472=some (w1472,.arr false 306 4 (v5.map e306) 0)∧st.t 1=.ept 64 w64 6 0 0∧st.t 2=.ept 128 w128 16 0 0∧st.t 4=.ept 256 w256 16 0 0∧st.t 5=.v (.int .i64 v4)∧st.s 64=some (w64,.arr true 42 6 [e42 a0] 0)∧st.s 128=some (w128,.arr true 265 16 [[.v (.int .i64 0),.v (.int .i64 0),.nsl,.nsl,.v (.int .i64 0),.v (.int .i64 0),.nsl,.nsl,.nsl,.v (.int .i64 0),.v (.int .i64 0),.v (.int .i64 0),.v (.int .i64 0),.v (.int .i64 0),.v (.int .i64 0),.v (.int .i64 0)]] 0)∧st.s 256=some (w256,.arr true 265 16 [[.v (.int .i64 a0.Conf.PageWords),.v (.int .i64 a0.Conf.Pages),.isl 37 1 (a0.Words.map e37),.osl 1472 w1472 4 0 v5.length,.v (.int .i64 a0.Space),.v (.int .i64 a0.Bump),.isl 37 1 (y3.1.map e37),.nsl,.nsl,.v (.int .i64 0),.v (.int .i64 0),.v (.int .i64 0),.v (.int .i64 0),.v (.int .i64 0),.v (.int .i64 0),.v (.int .i64 0)]] 0)))
abbrev Qg8:=fun N (a0:THeap) (a1:Int) (Q:Int→Prop) n (st:St)=>∃ (v3:Int) (v4:Int) (ex:_),Qbj N a0 a1 n v3 v4=some ex∧Q ex∧((∃ w128,st.n=65∧st.t 1=.v (.int .u64 a1)∧st.t 2=.ept 128 w128 6 0 0∧st.t 5=.v (.int .i64 v3)∧st.t 6=.v (.int .i64 v4)∧st.s 128=some (w128,.arr true 42 6 [e42 a0] 0)))
theorem g37:(∀ N (a0:THeap) (a1:List TPin),OK (QdO N a0 a1) 204 [.agg (e42 a0),.isl 229 2 (a1.map e229)] [] (fun r=>.v (.bool r)) fun r=>[])∧(∀ N (a0:THeap) (a1:List Int),OK (Qds N a0 a1) 206 [.agg (e42 a0),.isl 37 1 (a1.map e37)] [] (fun r=>.v (.bool r)) fun r=>[])∧(∀ N (a0:THeap),OK (QdP N a0) 208 [.agg (e42 a0)] [] (fun r=>.tup [.agg (e265 r.1),.v (.int .i64 r.2)]) fun r=>[])∧(∀ N (a0:THeap) (a1:Int),OK (Qcc N a0 a1) 260 [.agg (e42 a0),.v (.int .u64 a1)] [] (fun r=>.v (.bool r)) fun r=>[]):=by
 refine ⟨fun N _ _=>rn Tryz.f204 [.tmp 4] [] 103 (by kernel_rfl) ?_,fun N _ _=>rn Tryz.f206 [.tmp 4] [] 36 (by kernel_rfl) ?_,fun N _=>rn Tryz.f208 [.cell 2 265,.tmp 3] [] 61 (by kernel_rfl) ?_,fun N _ _=>rn Tryz.f260 [.tmp 4] [] 65 (by kernel_rfl) ?_⟩<;>(rintro _ hw r hr C _ rfl hwf hf;simp only[Tryz.f204,Tryz.f206,Tryz.f208,Tryz.f260,Option.get!];(first|rw[QdO] at hr|rw[Qds] at hr|rw[QdP] at hr|rw[Qcc] at hr);repeat' first
 |(refine El.el hr ?_;intro hr)
 |(with_reducible intro h;refine bc_e hr h ?_;intro hr)
 |with_reducible intro _
 |(refine some_e hr ?_;rintro rfl;have hr:=hk;clear hk)
 |simp only[go_sem,simprocAttr,E,hl3,hl37,hl229,hl306]
 |(with_reducible first|apply guard_of_f|apply guard_of_t|apply cond_of|apply doT_of_t|apply doT_of_f)
 |((first|with_reducible refine idx_s hr (by assumption) ?_ ?_|(with_reducible refine idx_e hr ?_ ?_;rotate_left;intro p;rotate_right));(·simp only[go_sem,simprocAttr]);intro hp hn hd hr;(try have hl3:=hd _ e3);(try simp only[go_sem,simprocAttr] at hl3);(try have hl37:=hd _ e37);(try simp only[go_sem,simprocAttr] at hl37);(try have hl229:=hd _ e229);(try simp only[go_sem,simprocAttr] at hl229);(try have hl306:=hd _ e306);(try simp only[go_sem,simprocAttr] at hl306))
 |(refine and_of' ?_ ?_;·first|assumption|omega)
 |with_reducible refine CallX.c ?_ _
 |with_reducible refine OK.c hr hw ?_ (fun y hr=>?_) _
 |with_reducible refine OK.d hr hw ?_ (fun y hr=>?_) _
 |(with_reducible refine loop_e (I:=Qh6 N _ _ _) hr 1000 N (fun ex hq hk=>⟨_,_,ex,hq,hk,?_⟩) ?_ _;rotate_left;clear hr;(try clear E);rintro n1 st ⟨v3,v4,ex,hr,hk,⟨_,_,E⟩⟩<;>(obtain _|n1:=n1<;>rw[Qdf] at hr))
 |refine ⟨_,Nat.lt_succ_self _,_,_,_,hr,hk,?_⟩
 |(with_reducible refine loop_e (I:=Qh7 N _ _) hr 1000 N (fun ex hq hk=>⟨_,ex,hq,hk,?_⟩) ?_ _;rotate_left;clear hr;(try clear E);rintro n2 st ⟨v17,ex,hr,hk,⟨_,_,E⟩⟩<;>(obtain _|n2:=n2<;>rw[Qdg] at hr))
 |refine ⟨_,Nat.lt_succ_self _,_,_,hr,hk,?_⟩
 |(with_reducible refine loop_e (I:=Qhn N _ _) hr 1000 N (fun ex hq hk=>⟨_,ex,hq,hk,?_⟩) ?_ _;rotate_left;clear hr;(try clear E);rintro n1 st ⟨v3,ex,hr,hk,E⟩<;>(obtain _|n1:=n1<;>rw[Qb1] at hr))
 |(with_reducible refine loop_e (I:=Qh8 N _ _) hr 1000 N (fun ex hq hk=>⟨_,_,ex,hq,hk,?_⟩) ?_ _;rotate_left;clear hr;(try clear E);rintro n1 st ⟨v4,v5,ex,hr,hk,⟨_,_,_,_,E⟩⟩<;>(obtain _|n1:=n1<;>rw[QbO] at hr))
 |(with_reducible refine loop_e (I:=Qg8 N _ _) hr 1000 N (fun ex hq hk=>⟨_,_,ex,hq,hk,?_⟩) ?_ _;rotate_left;clear hr;(try clear E);rintro n1 st ⟨v3,v4,ex,hr,hk,⟨_,E⟩⟩<;>(obtain _|n1:=n1<;>rw[Qbj] at hr))
 |refine db 204 10 hf [([],[],[69,70,71,72,73,74,75,78,79,80,81,82],[]),([],[],[68,70,71,72,73,74,78,79,80,81,82],[]),([],[],[68,69,71,78,79,80,81,82],[]),([],[],[68,69,70,78,79,80,81,82],[]),([2,3],[],[68,69,78,79,80,81,82],[]),([2,3,4],[],[68,69,78,79,80,81,82],[]),([2,3,4,5],[],[68,69,78,79,80,81,82],[]),([1,2,3,4,5,6],[],[68,78,79,80,81,82],[]),([0,1,2,3,4,5,6,7],[],[78,79,80,81,82],[]),([0,1,2,3,4,5,6,7,8],[],[78,79,80,81,82],[]),([],[],[68,69,70,71,72,73,74,75,76,77,79],[]),([],[],[68,69,70,71,72,73,74,75,76,77,78],[]),([10,11],[],[68,69,70,71,72,73,74,75,76,77],[]),([10,11,12],[],[68,69,70,71,72,73,74,75,76,77],[]),([10,11,12,13],[],[68,69,70,71,72,73,74,75,76,77],[]),([0,1,2,3,4,5,6,7,8,9,10,11,12,13,14],[],[],[]),([0,1,2,3,4,5,6,7,8,9,10,11,12,13,14,15],[],[],[]),([0,1,2,3,4,5,6,7,8,9,10,11,12,13,14,15,16],[1664],[],[])] rfl rfl (by kernel_rfl) ?_ _
 |refine db 204 14 hf [([],[],[94,98,99,100,101],[]),([0],[],[94,98,99,100,101],[]),([],[],[92,93,98,99,100,101],[]),([0,1,2],[],[98,99,100,101],[]),([0,1,2,3],[],[98,99,100,101],[]),([0,1,2,3,4],[],[98,99,100,101],[]),([],[],[92,93,94,95,96,97,99],[]),([],[],[92,93,94,95,96,97,98],[]),([6,7],[],[92,93,94,95,96,97],[]),([6,7,8],[],[92,93,94,95,96,97],[]),([0,1,2,3,4,5,6,7,8,9],[],[],[])] rfl rfl (by kernel_rfl) ?_ _
 |refine db 260 9 hf [([],[],[7,44,45,46],[448]),([0],[],[7,44,45,46],[448]),([],[],[7,42,43,45],[448]),([],[],[7,42,43,44],[448]),([2,3],[],[7,42,43],[448]),([0,1,2,3,4],[],[7],[448]),([0,1,2,3,4,5],[],[7],[448]),([],[448],[42,43,44,45,46,47,48],[]),([0,1,2,3,4,5,6,7],[448],[],[])] rfl rfl (by kernel_rfl) ?_ _
 |(refine some_e hr ?_;rintro rfl;with_reducible refine ret_k ?_)
 |exact no_e hr
 |((first|refine bc_e (c:=true) hr rfl ?_|refine bc_e (c:=false) hr rfl ?_|refine bc_e hr (by assumption) ?_);intro hr)
 |fail)
@[reducible,instance] def QlF:=g37.1
@[reducible,instance] def QkT:=g37.2.1
@[reducible,instance] def QlG:=g37.2.2.1
@[reducible,instance] def Qkr:=g37.2.2.2
end Go.Sx
