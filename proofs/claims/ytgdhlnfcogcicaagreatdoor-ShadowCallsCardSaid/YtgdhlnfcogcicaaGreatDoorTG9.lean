import Derived.Test.YtgdhlnfcogcicaaGreatDoorTF
import Derived.Test.YtgdhlnfcogcicaaGreatDoorTG1
import Derived.Test.YtgdhlnfcogcicaaGreatDoorTG2
import Derived.Test.YtgdhlnfcogcicaaGreatDoorTG3
import Derived.Test.YtgdhlnfcogcicaaGreatDoorTG4
import Derived.Test.YtgdhlnfcogcicaaGreatDoorTG5
import Derived.Test.YtgdhlnfcogcicaaGreatDoorTG6
import Derived.Test.YtgdhlnfcogcicaaGreatDoorTG7
import Derived.Test.YtgdhlnfcogcicaaGreatDoorTG8
set_option linter.all false
namespace Go.Sx
open Go.Proofs
set_option maxRecDepth 10000
set_option maxHeartbeats 100000000
abbrev QjE:=λ N (a0:W5) (Q:(List Int)→Prop) n (st:St)=>∃ (v1:Int) (v2:List Int) (ex:_),Qdp N a0 n v1 v2=some ex/\Q ex/\((∃ w1472 w64,st.n=25/\st.s 1472=some (w1472,.arr false 37 1 (v2.map e37) 0)/\st.t 1=.ept 64 w64 4 0 0/\st.t 3=.osl 1472 w1472 1 0 v2.length/\st.t 4=.v (.int .i64 v1)/\st.s 64=some (w64,.arr true 115 4 [KG a0] 0))\/(∃ w64,(st.n=25/\st.t 1=.ept 64 w64 4 0 0/\st.t 3=.nsl/\st.t 4=.v (.int .i64 v1)/\st.s 64=some (w64,.arr true 115 4 [KG a0] 0))/\v2=[]))
abbrev QjF:=λ N (a0:Ws) (Q:(List Int)→Prop) n (st:St)=>∃ (v1:Int) (v2:List Int) (ex:_),Qa8 N a0 n v1 v2=some ex/\Q ex/\((∃ w1920 w64,st.n=32/\st.s 1920=some (w1920,.arr false 37 1 (v2.map e37) 0)/\st.t 1=.ept 64 w64 3 0 0/\st.t 3=.osl 1920 w1920 1 0 v2.length/\st.t 4=.v (.int .i64 v1)/\st.s 64=some (w64,.arr true 29 3 [e29 a0] 0))\/(∃ w64,(st.n=32/\st.t 1=.ept 64 w64 3 0 0/\st.t 3=.nsl/\st.t 4=.v (.int .i64 v1)/\st.s 64=some (w64,.arr true 29 3 [e29 a0] 0))/\v2=[]))
abbrev QjG:=λ N (a1:List Int) (Q:(List WP)→Prop) n (st:St)=>∃ (v3:Int) (v4:Int) (v5:List WP) (ex:_),QaS N a1 n v3 v4 v5=some ex/\Q ex/\((∃ w1344 w256,st.n=48/\st.s 1344=some (w1344,.arr false 132 3 (v5.map XC) 0)/\st.t 1=.isl 37 1 (a1.map e37)/\st.t 4=.ept 256 w256 1 0 0/\st.t 6=.osl 1344 w1344 3 0 v5.length/\st.t 7=.v (.int .i64 v3)/\st.t 8=.v (.int .i64 v4)/\st.s 256=some (w256,.arr true 32 1 [[.nsl]] 0)))
abbrev QjH:=λ N (a0:Ut) (a1:Int) (Q:(Ex Int Unit)→Prop) n (st:St)=>∃ (v3:Int) (ex:_),Qb4 N a0 a1 n v3=some ex/\Q ex/\((∃ w128,st.n=28/\st.t 1=.v (.int .i64 a1)/\st.t 2=.ept 128 w128 2 0 0/\st.t 5=.v (.int .i64 v3)/\st.s 128=some (w128,.arr true 23 2 [e23 a0] 0)))
abbrev QhT:=λ N (a0:WE) (Q:(List Int)→Prop) n (st:St)=>∃ (v1:Int) (v2:List Int) (ex:_),Qbu N a0 n v1 v2=some ex/\Q ex/\((∃ w1344 w64,st.n=23/\st.s 1344=some (w1344,.arr false 3 1 (v2.map e3) 0)/\st.t 1=.ept 64 w64 3 0 0/\st.t 3=.osl 1344 w1344 1 0 v2.length/\st.t 4=.v (.int .i64 v1)/\st.s 64=some (w64,.arr true 75 3 [e75 a0] 0))\/(∃ w64,(st.n=23/\st.t 1=.ept 64 w64 3 0 0/\st.t 3=.nsl/\st.t 4=.v (.int .i64 v1)/\st.s 64=some (w64,.arr true 75 3 [e75 a0] 0))/\v2=[]))
abbrev QiY:=λ N (a0:Wm) (y1:List W5) (Q:(List W5)→Prop) n (st:St)=>∃ (v2:Int) (v3:List W5) (ex:_),Qd9 N a0 y1 n v2 v3=some ex/\Q ex/\((∃ w448 w64 w128,st.n=47/\st.s 448=some (w448,.arr false 77 4 (v3.map e77) 0)/\st.t 1=.ept 64 w64 10 0 0/\st.t 2=.ept 128 w128 10 0 0/\st.t 10=.osl 448 w448 4 0 v3.length/\st.t 11=.v (.int .i64 ((y1.length:Nat):Int))/\st.t 12=.v (.int .i64 v2)/\st.s 64=some (w64,.arr true 61 10 [[.v (.int .i64 a0.Conf.PageWords),.v (.int .i64 a0.Conf.Pages),.osl 448 w448 4 0 v3.length,.isl 210 3 (a0.Locals.Slots.map X4),.isl 159 3 (a0.Locals.Scopes.map X9),.isl 3 1 (a0.Locals.Issued.map e3),.isl 132 3 (a0.Globals.Entries.map XC),.isl 132 3 (a0.Weaks.Entries.map XC),.isl 116 3 (a0.Marks.map Yv),.isl 37 1 (a0.Roots.map e37)]] 0)/\st.s 128=some (w128,.arr true 61 10 [[.v (.int .i64 0),.v (.int .i64 0),.nsl,.nsl,.nsl,.nsl,.nsl,.nsl,.nsl,.nsl]] 0)))
abbrev Qj6:=λ N (a0:List IB) (Q:(Ex (Int × Int) Unit)→Prop) n (st:St)=>∃ (v1:Int) (v2:Int) (ex:_),Qf3 N a0 n v1 v2=some ex/\Q ex/\((st.n=55/\st.t 0=.isl 291 2 (a0.map XhT)/\st.t 4=.v (.int .i64 v1)/\st.t 11=.isl 291 2 (a0.map XhT)/\st.t 12=.v (.int .i64 ((a0.length:Nat):Int))/\st.t 13=.v (.int .i64 v2)))
abbrev Qj7:=λ N (a0:List IB) (Q:(Ex (Int × Int) Int)→Prop) n (st:St)=>∃ (v5:Int) (v6:Int) (v7:Int) (ex:_),Qcx N a0 n v5 v6 v7=some ex/\Q ex/\((st.n=55/\st.t 7=.v (.int .u64 v5)/\st.t 8=.v (.int .i64 v6)/\st.t 31=.isl 291 2 (a0.map XhT)/\st.t 32=.v (.int .i64 ((a0.length:Nat):Int))/\st.t 33=.v (.int .i64 v7)))
theorem g11:(∀ N (a0:W5),OK (QcX N a0) 67 [.agg (KG a0)] [] (λ r=>.isl 37 1 (r.map e37)) λ r=>[])/\(∀ N (a0:Ws),OK (Qb3 N a0) 127 [.agg (e29 a0)] [] (λ r=>.isl 37 1 (r.map e37)) λ r=>[])/\(∀ N (a0:WC) (a1:List Int),OK (Qcr N a0 a1) 69 [.agg (e32 a0),.isl 37 1 (a1.map e37)] [] (λ r=>.tup [.agg (e32 r.1),.v (.int .i64 r.2)]) λ r=>[])/\(∀ N (a0:Ut) (a1:Int),OK (QeC N a0 a1) 233 [.agg (e23 a0),.v (.int .i64 a1)] [] (λ r=>.v (.int .i64 r)) λ r=>[])/\(∀ N (a0:WE),OK (Qe1 N a0) 271 [.agg (e75 a0)] [] (λ r=>.isl 3 1 (r.map e3)) λ r=>[])/\(∀ N (a0:Wm),OK (Qaq N a0) 41 [.agg (e61 a0)] [] (λ r=>.agg [.v (.int .i64 r.Conf.PageWords),.v (.int .i64 r.Conf.Pages),.fsl 77 4 (r.Things.map e77),.isl 210 3 (r.Locals.Slots.map X4),.isl 159 3 (r.Locals.Scopes.map X9),.isl 3 1 (r.Locals.Issued.map e3),.isl 132 3 (r.Globals.Entries.map XC),.fsl 132 3 (r.Weaks.Entries.map XC),.fsl 116 3 (r.Marks.map Yv),.isl 37 1 (r.Roots.map e37)]) λ r=>[])/\(∀ N (a0:List IB),OK (Qht N a0) 230 [.isl 291 2 (a0.map XhT)] [] (λ r=>.tup [.v (.int .u64 r.1),.v (.int .i64 r.2)]) λ r=>[]):=by
 refine ⟨λ N _=>rn Tryz.f67 [.tmp 2] [] 25 (by kernel_rfl) ?_,λ N _=>rn Tryz.f127 [.tmp 2] [] 32 (by kernel_rfl) ?_,λ N _ _=>rn Tryz.f69 [.cell 4 32,.tmp 5] [] 48 (by kernel_rfl) ?_,λ N _ _=>rn Tryz.f233 [.tmp 4] [] 28 (by kernel_rfl) ?_,λ N _=>rn Tryz.f271 [.tmp 2] [] 23 (by kernel_rfl) ?_,λ N _=>rn Tryz.f41 [.cell 2 61] [448,2176,2560] 47 (by kernel_rfl) ?_,λ N _=>rn Tryz.f230 [.tmp 2,.tmp 3] [] 55 (by kernel_rfl) ?_⟩<;>(rintro _ hw r hr C _ rfl hwf hf;simp only[Tryz.f67,Tryz.f127,Tryz.f69,Tryz.f233,Tryz.f271,Tryz.f41,Tryz.f230,Option.get!];(first|rw[QcX] at hr|rw[Qb3] at hr|rw[Qcr] at hr|rw[QeC] at hr|rw[Qe1] at hr|rw[Qaq] at hr|rw[Qht] at hr);repeat' first
 |(refine El.el hr ?_;intro hr)
 |(with_reducible intro h;refine Xz hr h ?_;intro hr)
 |with_reducible intro _
 |(refine Xq hr ?_;rintro rfl;have hr:=hk;clear hk)
 |simp only[go_sem,simprocAttr,E,XQ,Y5,Yw,Yx,Xkf]
 |(with_reducible first|apply Xg|apply Xf|apply Xs|apply Xx|apply Xy)
 |((first|with_reducible refine Ye hr (by assumption) ?_ ?_|(with_reducible refine Yd hr ?_ ?_;rotate_left;intro p;rotate_right));(·simp only[go_sem,simprocAttr]);intro hp hn hd hr;(try have XQ:=hd _ e37);(try simp only[go_sem,simprocAttr] at XQ);(try have Y5:=hd _ e77);(try simp only[go_sem,simprocAttr] at Y5);(try have Yw:=hd _ XC);(try simp only[go_sem,simprocAttr] at Yw);(try have Yx:=hd _ X4);(try simp only[go_sem,simprocAttr] at Yx);(try have Xkf:=hd _ XhT);(try simp only[go_sem,simprocAttr] at Xkf))
 |(refine Xl ?_ ?_;·first|assumption|omega)
 |(with_reducible first|refine CallX.c ?_ _|refine OK.c hr hw ?_ (λ y hr=>?_) _|refine Oy hr hw ?_ (λ y hr=>?_) _)
 |(with_reducible refine Xj (I:=QjE N _) hr 1000 N (λ ex hq hk=>⟨_,_,ex,hq,hk,?_⟩) ?_ _;rotate_left;clear hr;(try clear E);rintro n1 st ⟨v1,v2,ex,hr,hk,(⟨_,_,E⟩|⟨_,E,z0⟩)⟩<;>(try subst z0)<;>(obtain _|n1:=n1<;>rw[Qdp] at hr))
 |refine ⟨_,WJ _,_,_,_,hr,hk,?_⟩
 |(with_reducible refine Xj (I:=QjF N _) hr 1000 N (λ ex hq hk=>⟨_,_,ex,hq,hk,?_⟩) ?_ _;rotate_left;clear hr;(try clear E);rintro n1 st ⟨v1,v2,ex,hr,hk,(⟨_,_,E⟩|⟨_,E,z0⟩)⟩<;>(try subst z0)<;>(obtain _|n1:=n1<;>rw[Qa8] at hr))
 |(with_reducible refine Xj (I:=QjG N _) hr 1000 N (λ ex hq hk=>⟨_,_,_,ex,hq,hk,?_⟩) ?_ _;rotate_left;clear hr;(try clear E);rintro n1 st ⟨v3,v4,v5,ex,hr,hk,⟨_,_,E⟩⟩<;>(obtain _|n1:=n1<;>rw[QaS] at hr))
 |refine ⟨_,WJ _,_,_,_,_,hr,hk,?_⟩
 |(with_reducible refine Xj (I:=QjH N _ _) hr 1000 N (λ ex hq hk=>⟨_,ex,hq,hk,?_⟩) ?_ _;rotate_left;clear hr;(try clear E);rintro n1 st ⟨v3,ex,hr,hk,⟨_,E⟩⟩<;>(obtain _|n1:=n1<;>rw[Qb4] at hr))
 |refine ⟨_,WJ _,_,_,hr,hk,?_⟩
 |(with_reducible refine Xj (I:=QhT N _) hr 1000 N (λ ex hq hk=>⟨_,_,ex,hq,hk,?_⟩) ?_ _;rotate_left;clear hr;(try clear E);rintro n1 st ⟨v1,v2,ex,hr,hk,(⟨_,_,E⟩|⟨_,E,z0⟩)⟩<;>(try subst z0)<;>(obtain _|n1:=n1<;>rw[Qbu] at hr))
 |(with_reducible refine Xj (I:=QiY N _ _) hr 1000 N (λ ex hq hk=>⟨_,_,ex,hq,hk,?_⟩) ?_ _;rotate_left;clear hr;(try clear E);rintro n1 st ⟨v2,v3,ex,hr,hk,⟨_,_,_,E⟩⟩<;>(obtain _|n1:=n1<;>rw[Qd9] at hr))
 |(with_reducible refine Xj (I:=Qj6 N _) hr 1000 N (λ ex hq hk=>⟨_,_,ex,hq,hk,?_⟩) ?_ _;rotate_left;clear hr;(try clear E);rintro n1 st ⟨v1,v2,ex,hr,hk,E⟩<;>(obtain _|n1:=n1<;>rw[Qf3] at hr))
 |(with_reducible refine Xj (I:=Qj7 N _) hr 1000 N (λ ex hq hk=>⟨_,_,_,ex,hq,hk,?_⟩) ?_ _;rotate_left;clear hr;(try clear E);rintro n2 st ⟨v5,v6,v7,ex,hr,hk,E⟩<;>(obtain _|n2:=n2<;>rw[Qcx] at hr))
 |refine db 41 5 hf 17 [(0,60,[[],[1408]]),(1,60,[[],[1408]]),(0,59,[[],[1408]]),(0,7,[]),(8,7,[]),(24,7,[[1408],[]]),(63,0,[]),(127,0,[]),(255,0,[[448,1408],[]])] rfl rfl (by kernel_rfl) ?_ _
 |refine db 41 7 hf 26 [(0,216,[]),(1,216,[]),(3,216,[]),(0,199,[]),(8,199,[]),(31,704,[[1984],[]]),(0,63,[[],[1984]]),(64,63,[[],[1984]]),(255,512,[[2176],[]]),(223,288,[[],[1984,2176]]),(1023,0,[[64],[]]),(2047,0,[]),(4095,0,[[64],[]]),(8191,0,[]),(16383,0,[[64],[]])] rfl rfl (by kernel_rfl) ?_ _
 |refine db 41 8 hf 38 [(0,24,[]),(1,24,[]),(3,24,[[2560],[]]),(0,7,[[],[2560]]),(8,7,[[],[2560]]),(31,64,[[2752],[]]),(31,32,[[],[2752]]),(127,0,[[64],[]]),(255,0,[]),(511,0,[[64],[]])] rfl rfl (by kernel_rfl) ?_ _
 |(refine Xq hr ?_;rintro rfl;with_reducible refine XG ?_)
 |exact Yo hr
 |((first|refine Xz (c:=true) hr rfl ?_|refine Xz (c:=false) hr rfl ?_|refine Xz hr (by assumption) ?_);intro hr)
 |fail)
@[reducible,instance] def QnW:=g11.1
@[reducible,instance] def QnX:=g11.2.1
@[reducible,instance] def QnY:=g11.2.2.1
@[reducible,instance] def QnZ:=g11.2.2.2.1
@[reducible,instance] def Qll:=g11.2.2.2.2.1
@[reducible,instance] def Qm5:=g11.2.2.2.2.2.1
@[reducible,instance] def QoB:=g11.2.2.2.2.2.2
theorem g9:(∀ N (a0:IL) (a1:Ir),OK (QbN N a0 a1) 9 [.agg (e47 a0),.ept 1000000 0 2 0 0] [.arr true 51 2 [[.isl 3 1 (a1.L.map e3),.v (.int .i64 a1.at_)]] 0] (λ r=>.agg (e53 r.1)) λ r=>[.arr true 51 2 [[.isl 3 1 (r.2.L.map e3),.v (.int .i64 r.2.at_)]] 0])/\(∀ N (a0:Ws) (a1:Int),OK (QdP N a0 a1) 104 [.agg (e29 a0),.v (.int .u64 a1)] [] (λ r=>.tup [.agg (e29 r.1),.v (.int .i64 r.2.1),.v (.int .i64 r.2.2.1),.v (.int .i64 r.2.2.2)]) λ r=>[])/\(∀ N (a0:Ws) (a1:Int) (a2:Int),OK (QdQ N a0 a1 a2) 102 [.agg (e29 a0),.v (.int .i64 a1),.v (.int .i64 a2)] [] (λ r=>.tup [.v (.int .u64 r.1),.v (.int .i64 r.2)]) λ r=>[])/\(∀ N (a0:Ws),OK (QeD N a0) 51 [.agg (e29 a0)] [] (λ r=>.tup [.agg (e29 r.1),.v (.int .i64 r.2)]) λ r=>[])/\(∀ N (a0:WC) (a1:Int) (a2:Int),OK (Qb1 N a0 a1 a2) 108 [.agg (e32 a0),.v (.int .i64 a1),.v (.int .i64 a2)] [] (λ r=>.tup [.agg (e32 r.1),.v (.int .i64 r.2)]) λ r=>[])/\(∀ N (a0:List Int) (a1:Int),OK (QbO N a0 a1) 248 [.isl 37 1 (a0.map e37),.v (.int .u64 a1)] [] (λ r=>.tup [.v (.int .u64 r.1),.v (.int .i64 r.2)]) λ r=>[])/\(∀ N (a0:Wz) (a1:Int),OK (Qfh N a0 a1) 243 [.agg (e42 a0),.v (.int .u64 a1)] [] (λ r=>.v (.int .i64 r)) λ r=>[])/\(∀ N (a0:W9) (a1:Int),OK (QdW N a0 a1) 268 [.agg (KH a0),.v (.int .i64 a1)] [] (λ r=>.tup [.agg (KH r.1),.v (.int .u64 r.2.1),.v (.bool r.2.2)]) λ r=>[])/\(∀ N (a0:Wz) (a1:Int),OK (QeQ N a0 a1) 275 [.agg (e42 a0),.v (.int .i64 a1)] [] (λ r=>.tup [.agg (e42 r.1),.v (.int .u64 r.2.1),.v (.bool r.2.2)]) λ r=>[])/\(∀ N (a0:List WP),OK (Qaz N a0) 197 [.isl 132 3 (a0.map XC),.clo (.func 198) [] []] [] (λ r=>.v (.bool r)) λ r=>[])/\(∀ N (a0:WE) (a1:Int),OK (QcT N a0 a1) 123 [.agg (e75 a0),.v (.int .i64 a1)] [] (λ r=>.v (.bool r)) λ r=>[])/\(∀ N (a0:Wm) (a1:Int),OK (Qbi N a0 a1) 166 [.agg (e61 a0),.v (.int .u64 a1)] [] (λ r=>.v (.int .i64 r)) λ r=>[])/\(∀ N (a0:Ut) (a1:Int),OK (QgS N a0 a1) 261 [.agg (e23 a0),.v (.int .i64 a1)] [] (λ r=>.v (.int .i64 r)) λ r=>[]):=by
 refine ⟨λ N _ _=>rn Tryz.f9 [.cell 4 53] [] 79 (by kernel_rfl) ?_,λ N _ _=>rn Tryz.f104 [.cell 4 29,.tmp 5,.tmp 6,.tmp 7] [] 79 (by kernel_rfl) ?_,λ N _ _ _=>rn Tryz.f102 [.tmp 6,.tmp 7] [] 58 (by kernel_rfl) ?_,λ N _=>rn Tryz.f51 [.cell 2 29,.tmp 3] [] 28 (by kernel_rfl) ?_,λ N _ _ _=>rn Tryz.f108 [.cell 6 32,.tmp 7] [] 26 (by kernel_rfl) ?_,λ N _ _=>rn Tryz.f248 [.tmp 4,.tmp 5] [] 21 (by kernel_rfl) ?_,λ N _ _=>rn Tryz.f243 [.tmp 4] [] 17 (by kernel_rfl) ?_,λ N _ _=>rn Tryz.f268 [.cell 4 265,.tmp 5,.tmp 6] [] 111 (by kernel_rfl) ?_,λ N _ _=>rn Tryz.f275 [.cell 4 42,.tmp 5,.tmp 6] [] 108 (by kernel_rfl) ?_,λ N _=>rn Tryz.f197 [.tmp 4] [] 9 (by kernel_rfl) ?_,λ N _ _=>rn Tryz.f123 [.tmp 4] [] 34 (by kernel_rfl) ?_,λ N _ _=>rn Tryz.f166 [.tmp 4] [] 9 (by kernel_rfl) ?_,λ N _ _=>rn Tryz.f261 [.tmp 4] [] 33 (by kernel_rfl) ?_⟩<;>(rintro _ hw r hr C _ rfl hwf hf;simp only[Tryz.f9,Tryz.f104,Tryz.f102,Tryz.f51,Tryz.f108,Tryz.f248,Tryz.f243,Tryz.f268,Tryz.f275,Tryz.f197,Tryz.f123,Tryz.f166,Tryz.f261,Option.get!];(first|rw[QbN] at hr|rw[QdP] at hr|rw[QdQ] at hr|rw[QeD] at hr|rw[Qb1] at hr|rw[QbO] at hr|rw[Qfh] at hr|rw[QdW] at hr|rw[QeQ] at hr|rw[Qaz] at hr|rw[QcT] at hr|rw[Qbi] at hr|rw[QgS] at hr);repeat' first
 |(refine El.el hr ?_;intro hr)
 |(with_reducible intro h;refine Xz hr h ?_;intro hr)
 |with_reducible intro _
 |simp only[go_sem,simprocAttr,hl3,XQ,YU,Yx,Yn]
 |(with_reducible first|apply Xg|apply Xf|apply Xs|apply Xx|apply Xy)
 |((first|with_reducible refine Ye hr (by assumption) ?_ ?_|(with_reducible refine Yd hr ?_ ?_;rotate_left;intro p;rotate_right));(·simp only[go_sem,simprocAttr]);intro hp hn hd hr;(try have hl3:=hd _ e3);(try simp only[go_sem,simprocAttr] at hl3);(try have XQ:=hd _ e37);(try simp only[go_sem,simprocAttr] at XQ);(try have YU:=hd _ X9);(try simp only[go_sem,simprocAttr] at YU);(try have Yx:=hd _ X4);(try simp only[go_sem,simprocAttr] at Yx);(try have Yn:=hd _ Ym);(try simp only[go_sem,simprocAttr] at Yn))
 |(refine Xl ?_ ?_;·first|assumption|omega)
 |(with_reducible first|refine CallX.c ?_ _|refine OK.c hr hw ?_ (λ y hr=>?_) _|refine Oy hr hw ?_ (λ y hr=>?_) _)
 |refine db 104 6 hf 25 [(0,522238,[]),(0,522009,[]),(2,522009,[]),(0,521991,[]),(8,521991,[]),(30,521985,[]),(62,521985,[]),(126,521985,[]),(0,520447,[]),(256,520447,[]),(768,520447,[]),(2047,520192,[]),(0,53247,[]),(4096,53247,[]),(0,16383,[]),(16384,16383,[]),(61440,4095,[]),(126976,4095,[]),(258048,4095,[]),(524287,0,[])] rfl rfl (by kernel_rfl) ?_ _
 |refine db 104 10 hf 9 [(0,527765581332480,[]),(1,527765581332480,[]),(3,527765581332480,[]),(0,30786325577729,[]),(8,30786325577729,[]),(24,30786325577729,[]),(56,30786325577729,[]),(7,527765581332480,[]),(255,0,[])] rfl rfl (by kernel_rfl) ?_ _
 |refine db 268 4 hf 23 [(0,0,[]),(1,0,[]),(3,0,[]),(7,250360,[]),(15,250360,[]),(31,250360,[]),(7,249959,[]),(71,249959,[]),(7,249887,[]),(263,249887,[]),(967,249863,[]),(1991,249863,[]),(4095,249856,[]),(8191,249856,[]),(16383,249856,[]),(7,249855,[]),(65535,245760,[]),(7,16383,[]),(131079,16383,[]),(393223,16383,[]),(917511,16383,[]),(2097151,0,[]),(4194303,0,[])] rfl rfl (by kernel_rfl) ?_ _
 |refine db 268 11 hf 78 [(0,16286,[]),(0,16257,[]),(2,16257,[]),(6,16257,[]),(14,16257,[]),(31,16256,[]),(63,16256,[]),(0,1151,[]),(128,1151,[]),(384,1151,[]),(0,1023,[]),(1920,127,[]),(3968,127,[]),(8064,127,[]),(16383,0,[]),(32767,0,[]),(65535,0,[])] rfl rfl (by kernel_rfl) ?_ _
 |refine db 268 12 hf 94 [(0,8184,[]),(1,8184,[]),(3,8184,[]),(0,8183,[]),(0,2191,[]),(16,2191,[]),(48,2191,[]),(0,2175,[]),(240,2063,[]),(496,2063,[]),(1008,2063,[]),(0,2047,[]),(4080,15,[]),(8191,0,[]),(16383,0,[]),(32767,0,[[640,4160],[]])] rfl rfl (by kernel_rfl) ?_ _
 |refine db 275 5 hf 27 [(0,0,[]),(1,0,[]),(3,0,[]),(7,196,[]),(15,196,[]),(7,195,[]),(63,192,[]),(127,192,[]),(255,192,[]),(7,63,[]),(519,63,[]),(2047,0,[]),(4095,0,[]),(8191,0,[]),(16383,3809280,[]),(32767,3809280,[]),(16383,3807232,[]),(131071,3801088,[]),(262143,3801088,[]),(524287,3801088,[]),(16383,3799040,[]),(2097151,3670016,[]),(16383,522240,[]),(4210687,522240,[]),(12599295,522240,[]),(33554431,0,[]),(67108863,0,[]),(134217727,0,[]),(268435455,67108864,[]),(268435455,33554432,[]),(1073741823,0,[]),(2147483647,0,[])] rfl rfl (by kernel_rfl) ?_ _
 |refine db 275 11 hf 79 [(0,4046,[]),(0,4033,[]),(2,4033,[]),(6,4033,[]),(15,4032,[]),(31,4032,[]),(0,319,[]),(64,319,[]),(0,255,[]),(448,63,[]),(960,63,[]),(1984,63,[]),(4095,0,[]),(8191,0,[]),(16383,0,[])] rfl rfl (by kernel_rfl) ?_ _
 |refine db 275 12 hf 93 [(0,2044,[]),(1,2044,[]),(0,2043,[]),(0,551,[]),(8,551,[]),(0,543,[]),(56,519,[]),(120,519,[]),(248,519,[]),(0,511,[]),(1016,7,[]),(2047,0,[]),(4095,0,[]),(8191,0,[[704,4672],[]])] rfl rfl (by kernel_rfl) ?_ _
 |(refine Xq hr ?_;rintro rfl;with_reducible refine XG ?_)
 |exact Yo hr
 |fail)
@[reducible,instance] def Qlm:=g9.1
@[reducible,instance] def QoC:=g9.2.1
@[reducible,instance] def QoD:=g9.2.2.1
@[reducible,instance] def QoE:=g9.2.2.2.1
@[reducible,instance] def Qmt:=g9.2.2.2.2.1
@[reducible,instance] def Qn0:=g9.2.2.2.2.2.1
@[reducible,instance] def Qn1:=g9.2.2.2.2.2.2.1
@[reducible,instance] def Qm6:=g9.2.2.2.2.2.2.2.1
@[reducible,instance] def Qm7:=g9.2.2.2.2.2.2.2.2.1
@[reducible,instance] def Qhq:=g9.2.2.2.2.2.2.2.2.2.1
@[reducible,instance] def Qln:=g9.2.2.2.2.2.2.2.2.2.2.1
@[reducible,instance] def QkU:=g9.2.2.2.2.2.2.2.2.2.2.2.1
@[reducible,instance] def QoF:=g9.2.2.2.2.2.2.2.2.2.2.2.2
end Go.Sx
