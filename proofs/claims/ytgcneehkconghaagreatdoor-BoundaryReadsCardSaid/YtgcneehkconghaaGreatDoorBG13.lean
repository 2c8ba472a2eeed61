import Derived.Test.YtgcneehkconghaaGreatDoorBF
import Derived.Test.YtgcneehkconghaaGreatDoorBG2
import Derived.Test.YtgcneehkconghaaGreatDoorBG4
import Derived.Test.YtgcneehkconghaaGreatDoorBG5
import Derived.Test.YtgcneehkconghaaGreatDoorBG8
import Derived.Test.YtgcneehkconghaaGreatDoorBG9
import Derived.Test.YtgcneehkconghaaGreatDoorBG11
import Derived.Test.YtgcneehkconghaaGreatDoorBG12
set_option linter.all false
namespace Go.Sx
open Go.Proofs
set_option maxRecDepth 10000
set_option maxHeartbeats 100000000
abbrev QjM:=λ N (a0:Wo) (a1:Int) (p2:Wx) (Q:(Ex (List Int × Int) (List Int))→Prop) n (st:St)=>∃ (v3:Int) (v4:List Int) (ex:_),QaU N a0 a1 p2 n v3 v4=some ex/\Q ex/\((∃ w3904 w128 w384,st.n=70/\st.s 3904=some (w3904,.arr false 39 1 (v4.map e39) 0)/\st.t 1=.v (.int .i64 a1)/\st.t 2=.ept 128 w128 6 0 0/\st.t 6=.ept 384 w384 4 0 0/\st.t 7=.osl 3904 w3904 1 0 v4.length/\st.t 8=.v (.int .i64 v3)/\st.s 128=some (w128,.arr true 27 6 [e27 a0] 0)/\st.s 384=some (w384,.arr true 175 4 [XB p2] 0))\/(∃ w128 w384,(st.n=70/\st.t 1=.v (.int .i64 a1)/\st.t 2=.ept 128 w128 6 0 0/\st.t 6=.ept 384 w384 4 0 0/\st.t 7=.nsl/\st.t 8=.v (.int .i64 v3)/\st.s 128=some (w128,.arr true 27 6 [e27 a0] 0)/\st.s 384=some (w384,.arr true 175 4 [XB p2] 0))/\v4=[]))
abbrev QiX:=λ N (a0:Wo) (a1:Int) (a2:List Int) (Q:(Ex Int Unit)→Prop) n (st:St)=>∃ (v1:Int) (ex:_),QaV N a0 a1 a2 n v1=some ex/\Q ex/\((∃ w192,st.n=61/\st.t 1=.v (.int .i64 a1)/\st.t 2=.isl 39 1 (a2.map e39)/\st.t 3=.ept 192 w192 6 0 0/\st.t 7=.v (.int .i64 v1)/\st.s 192=some (w192,.arr true 27 6 [e27 a0] 0)))
abbrev QjN:=λ N (a0:Wo) (a1:Int) (a2:List Int) (v1:Int) (x6:Int) (Q:(List Bool)→Prop) n (st:St)=>∃ (v7:Int) (v8:List Bool) (ex:_),Qa6 N a0 a1 a2 v1 x6 n v7 v8=some ex/\Q ex/\((∃ w1088 w192,st.n=69/\st.s 1088=some (w1088,.arr false 4 1 (v8.map e4) 0)/\st.t 1=.v (.int .i64 a1)/\st.t 2=.isl 39 1 (a2.map e39)/\st.t 3=.ept 192 w192 6 0 0/\st.t 7=.osl 1088 w1088 1 0 v8.length/\st.t 8=.v (.int .i64 v1)/\st.t 11=.v (.int .i64 x6)/\st.t 12=.v (.int .i64 v7)/\st.s 192=some (w192,.arr true 27 6 [e27 a0] 0)))
abbrev QjO:=λ N (a0:Wo) (a1:Int) (a2:List Int) (Q:(List Bool)→Prop) n (st:St)=>∃ (v1:Int) (v2:List Bool) (ex:_),Qb3 N a0 a1 a2 n v1 v2=some ex/\Q ex/\((∃ w1088 w192,st.n=69/\st.s 1088=some (w1088,.arr false 4 1 (v2.map e4) 0)/\st.t 1=.v (.int .i64 a1)/\st.t 2=.isl 39 1 (a2.map e39)/\st.t 3=.ept 192 w192 6 0 0/\st.t 7=.osl 1088 w1088 1 0 v2.length/\st.t 8=.v (.int .i64 v1)/\st.s 192=some (w192,.arr true 27 6 [e27 a0] 0)))
abbrev Qka:=λ N (Q:(WV × Int)→Prop) n (st:St)=>∃ (v1:Int) (v2:Int) (v3:List Int) (v4:List Wx) (v5:Int) (v6:Int) (v7:List Int) (v8:List Int) (v9:List Int) (v10:Int) (v11:Int) (v12:Int) (v13:Int) (v14:Int) (v15:Int) (v16:Int) (ex:_),QbX N n v1 v2 v3 v4 v5 v6 v7 v8 v9 v10 v11 v12 v13 v14 v15 v16=some ex/\Q ex/\((∃ w64 w128,st.n=21/\st.t 1=.ept 64 w64 16 0 0/\st.t 2=.ept 128 w128 16 0 0/\st.s 64=some (w64,.arr true 232 16 [[.v (.int .i64 v1),.v (.int .i64 v2),.isl 39 1 (v3.map e39),.isl 175 4 (v4.map XB),.v (.int .i64 v5),.v (.int .i64 v6),.isl 39 1 (v7.map e39),.isl 3 1 (v8.map e3),.isl 39 1 (v9.map e39),.v (.int .i64 v10),.v (.int .i64 v11),.v (.int .i64 v12),.v (.int .i64 v13),.v (.int .i64 v14),.v (.int .i64 v15),.v (.int .i64 v16)]] 0)/\st.s 128=some (w128,.arr true 232 16 [[.v (.int .i64 0),.v (.int .i64 0),.nsl,.nsl,.v (.int .i64 0),.v (.int .i64 0),.nsl,.nsl,.nsl,.v (.int .i64 0),.v (.int .i64 0),.v (.int .i64 0),.v (.int .i64 0),.v (.int .i64 0),.v (.int .i64 0),.v (.int .i64 0)]] 0)))
abbrev Qh3:=λ N (a0:WI) (y2:List Bool) (Q:(List Int)→Prop) n (st:St)=>∃ (v4:Int) (v5:List Int) (ex:_),QaJ N a0 y2 n v4 v5=some ex/\Q ex/\((∃ w960 w64 w128,st.n=50/\st.s 960=some (w960,.arr false 39 1 (v5.map e39) 0)/\st.t 1=.ept 64 w64 10 0 0/\st.t 2=.ept 128 w128 10 0 0/\st.t 4=.isl 4 1 (y2.map e4)/\st.t 5=.osl 960 w960 1 0 v5.length/\st.t 6=.v (.int .i64 v4)/\st.s 64=some (w64,.arr true 43 10 [e43 a0] 0)/\st.s 128=some (w128,.arr true 43 10 [[.v (.int .i64 0),.v (.int .i64 0),.nsl,.nsl,.nsl,.nsl,.nsl,.nsl,.nsl,.nsl]] 0)))
abbrev QiY:=λ N (a0:Wo) (Q:(Ex Bool Unit)→Prop) n (st:St)=>∃ (v3:Int) (ex:_),QcX N a0 n v3=some ex/\Q ex/\((∃ w64,st.n=83/\st.t 1=.ept 64 w64 6 0 0/\st.t 3=.v (.int .i64 v3)/\st.s 64=some (w64,.arr true 27 6 [e27 a0] 0)))
theorem g21:(∀ N (a0:Wo) (a1:Int),OK (Qar N a0 a1) 297 [.agg (e27 a0),.v (.int .i64 a1)] [] (λ r=>.tup [.isl 39 1 (r.1.map e39),.v (.int .i64 r.2)]) λ r=>[])/\(∀ N (a0:Wo) (a1:Int) (a2:List Int),OK (Qdp N a0 a1 a2) 339 [.agg (e27 a0),.v (.int .i64 a1),.isl 39 1 (a2.map e39)] [] (λ r=>.v (.int .u64 r)) λ r=>[])/\(∀ N (a0:Wo) (a1:Int) (a2:List Int),OK (Qfv N a0 a1 a2) 367 [.agg (e27 a0),.v (.int .i64 a1),.isl 39 1 (a2.map e39)] [] (λ r=>.isl 4 1 (r.map e4)) λ r=>[])/\(∀ N (a0:WV),OK (Qfh N a0) 184 [.agg (Kg a0)] [] (λ r=>.tup [.agg (Kg r.1),.v (.int .i64 r.2)]) λ r=>[])/\(∀ N (a0:WI),OK (QcF N a0) 41 [.agg (e43 a0)] [] (λ r=>.tup [.agg (e43 r.1),.v (.int .i64 r.2)]) λ r=>[])/\(∀ N (a0:Wo),OK (Qb0 N a0) 153 [.agg (e27 a0)] [] (λ r=>.v (.bool r)) λ r=>[]):=by
 refine ⟨λ N _ _=>rn Tryz.f297 [.tmp 4,.tmp 5] [] 70 (by kernel_rfl) ?_,λ N _ _ _=>rn Tryz.f339 [.tmp 6] [] 61 (by kernel_rfl) ?_,λ N _ _ _=>rn Tryz.f367 [.tmp 6] [] 69 (by kernel_rfl) ?_,λ N _=>rn Tryz.f184 [.cell 2 232,.tmp 3] [] 21 (by kernel_rfl) ?_,λ N _=>rn Tryz.f41 [.cell 2 43,.tmp 3] [] 50 (by kernel_rfl) ?_,λ N _=>rn Tryz.f153 [.tmp 2] [] 83 (by kernel_rfl) ?_⟩<;>(rintro _ hw r hr C _ rfl hwf hf;simp only[Tryz.f297,Tryz.f339,Tryz.f367,Tryz.f184,Tryz.f41,Tryz.f153,Option.get!];(first|rw[Qar] at hr|rw[Qdp] at hr|rw[Qfv] at hr|rw[Qfh] at hr|rw[QcF] at hr|rw[Qb0] at hr);repeat' first
 |(refine El.el hr ?_;intro hr)
 |(with_reducible intro h;refine Xw hr h ?_;intro hr)
 |with_reducible intro _
 |(refine Xn hr ?_;rintro rfl;have hr:=hk;clear hk)
 |simp only[go_sem,simprocAttr,E,hl4,XQ,XE]
 |(with_reducible first|apply Xg|apply Xf|apply Xo|apply Xt|apply Xu)
 |((first|with_reducible refine Yb hr (by assumption) ?_ ?_|(with_reducible refine X7 hr ?_ ?_;rotate_left;intro p;rotate_right));(·simp only[go_sem,simprocAttr]);intro hp hn hd hr;(try have hl4:=hd _ e4);(try simp only[go_sem,simprocAttr] at hl4);(try have XQ:=hd _ e39);(try simp only[go_sem,simprocAttr] at XQ);(try have XE:=hd _ XB);(try simp only[go_sem,simprocAttr] at XE))
 |(refine Xp ?_ ?_;·first|assumption|omega)
 |(with_reducible first|refine CallX.c ?_ _|refine OK.c hr hw ?_ (λ y hr=>?_) _|refine IX hr hw ?_ (λ y hr=>?_) _)
 |(with_reducible refine Xe (I:=QjM N _ _ _) hr 1000 N (λ ex hq hk=>⟨_,_,ex,hq,hk,?_⟩) ?_ _;rotate_left;clear hr;(try clear E);rintro n1 st ⟨v3,v4,ex,hr,hk,(⟨_,_,_,E⟩|⟨_,_,E,z0⟩)⟩<;>(try subst z0)<;>(obtain _|n1:=n1<;>rw[QaU] at hr))
 |refine ⟨_,WA _,_,_,_,hr,hk,?_⟩
 |(with_reducible refine Xe (I:=QiX N _ _ _) hr 1000 N (λ ex hq hk=>⟨_,ex,hq,hk,?_⟩) ?_ _;rotate_left;clear hr;(try clear E);rintro n1 st ⟨v1,ex,hr,hk,⟨_,E⟩⟩<;>(obtain _|n1:=n1<;>rw[QaV] at hr))
 |refine ⟨_,WA _,_,_,hr,hk,?_⟩
 |(with_reducible refine Xe (I:=QjN N _ _ _ _ _) hr 1000 N (λ ex hq hk=>⟨_,_,ex,hq,hk,?_⟩) ?_ _;rotate_left;clear hr;(try clear E);rintro n1 st ⟨v7,v8,ex,hr,hk,⟨_,_,E⟩⟩<;>(obtain _|n1:=n1<;>rw[Qa6] at hr))
 |(with_reducible refine Xe (I:=QjO N _ _ _) hr 1000 N (λ ex hq hk=>⟨_,_,ex,hq,hk,?_⟩) ?_ _;rotate_left;clear hr;(try clear E);rintro n2 st ⟨v1,v2,ex,hr,hk,⟨_,_,E⟩⟩<;>(obtain _|n2:=n2<;>rw[Qb3] at hr))
 |(with_reducible refine Xe (I:=Qka N) hr 1000 N (λ ex hq hk=>⟨_,_,_,_,_,_,_,_,_,_,_,_,_,_,_,_,ex,hq,hk,?_⟩) ?_ _;rotate_left;clear hr;(try clear E);rintro n1 st ⟨v1,v2,v3,v4,v5,v6,v7,v8,v9,v10,v11,v12,v13,v14,v15,v16,ex,hr,hk,⟨_,_,E⟩⟩<;>(obtain _|n1:=n1<;>rw[QbX] at hr))
 |refine ⟨_,WA _,_,_,_,_,_,_,_,_,_,_,_,_,_,_,_,_,_,hr,hk,?_⟩
 |(with_reducible refine Xe (I:=Qh3 N _ _) hr 1000 N (λ ex hq hk=>⟨_,_,ex,hq,hk,?_⟩) ?_ _;rotate_left;clear hr;(try clear E);rintro n1 st ⟨v4,v5,ex,hr,hk,⟨_,_,_,E⟩⟩<;>(obtain _|n1:=n1<;>rw[QaJ] at hr))
 |(with_reducible refine Xe (I:=QiY N _) hr 1000 N (λ ex hq hk=>⟨_,ex,hq,hk,?_⟩) ?_ _;rotate_left;clear hr;(try clear E);rintro n1 st ⟨v3,ex,hr,hk,⟨_,E⟩⟩<;>(obtain _|n1:=n1<;>rw[QcX] at hr))
 |refine db 339 4 hf 8 [(0,30721,[[],[512]]),(0,5121,[[],[512]]),(0,3073,[[],[512]]),(6,1025,[[],[512]]),(14,1025,[[],[512]]),(31,1,[[],[512]]),(63,1,[[],[512]]),(127,131073,[[],[512]]),(127,65537,[[],[512]]),(0,261632,[[512],[]]),(767,131072,[[512],[]]),(2047,0,[])] rfl rfl (by kernel_rfl) ?_ _
 |refine db 339 5 hf 26 [(0,12,[]),(1,12,[]),(0,3,[]),(4,3,[]),(15,0,[]),(31,0,[]),(63,0,[])] rfl rfl (by kernel_rfl) ?_ _
 |refine db 367 5 hf 9 [(0,1966081,[[],[576]]),(0,327681,[[],[576]]),(0,196609,[[],[576]]),(6,65537,[[],[576]]),(14,65537,[[],[576]]),(31,1,[[],[576]]),(63,1,[[],[576]]),(127,8388609,[[],[576]]),(127,4194305,[[],[576]]),(0,16744448,[[576],[]]),(767,8388608,[[576],[]]),(2047,0,[])] rfl rfl (by kernel_rfl) ?_ _
 |refine db 367 12 hf 43 [(0,8002,[]),(0,8001,[]),(3,8000,[]),(7,8000,[]),(15,8000,[]),(31,8000,[]),(0,7999,[]),(127,7936,[]),(0,3839,[]),(0,511,[]),(512,511,[]),(1536,511,[]),(3840,255,[]),(8191,0,[]),(16383,0,[])] rfl rfl (by kernel_rfl) ?_ _
 |(refine Xn hr ?_;rintro rfl;with_reducible refine XF ?_)
 |exact Yj hr
 |((first|refine Xw (c:=true) hr rfl ?_|refine Xw (c:=false) hr rfl ?_|refine Xw hr (by assumption) ?_);intro hr)
 |fail)
@[reducible,instance] def QnZ:=g21.1
@[reducible,instance] def QmQ:=g21.2.1
@[reducible,instance] def Qn0:=g21.2.2.1
@[reducible,instance] def Qoy:=g21.2.2.2.1
@[reducible,instance] def QlA:=g21.2.2.2.2.1
@[reducible,instance] def QmR:=g21.2.2.2.2.2
end Go.Sx
