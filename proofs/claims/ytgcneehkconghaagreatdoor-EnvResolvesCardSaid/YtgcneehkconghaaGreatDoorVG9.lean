import Derived.Test.YtgcneehkconghaaGreatDoorVF
import Derived.Test.YtgcneehkconghaaGreatDoorVG0
import Derived.Test.YtgcneehkconghaaGreatDoorVG1
import Derived.Test.YtgcneehkconghaaGreatDoorVG2
import Derived.Test.YtgcneehkconghaaGreatDoorVG3
import Derived.Test.YtgcneehkconghaaGreatDoorVG4
import Derived.Test.YtgcneehkconghaaGreatDoorVG5
import Derived.Test.YtgcneehkconghaaGreatDoorVG6
set_option linter.all false
namespace Go.Sx
open Go.Proofs
set_option maxRecDepth 10000
set_option maxHeartbeats 100000000
abbrev Qjm:=λ N (a0:WT) (a1:Int) (Q:(Ex Int Unit)→Prop) n (st:St)=>∃ (v3:Int) (ex:_),Qcn N a0 a1 n v3=some ex/\Q ex/\((∃ w128,st.n=28/\st.t 1=.v (.int .i64 a1)/\st.t 2=.ept 128 w128 2 0 0/\st.t 5=.v (.int .i64 v3)/\st.s 128=some (w128,.arr true 23 2 [e23 a0] 0)))
abbrev Qjn:=λ N (a0:Ww) (Q:(List Int)→Prop) n (st:St)=>∃ (v1:Int) (v2:List Int) (ex:_),Qbg N a0 n v1 v2=some ex/\Q ex/\((∃ w1920 w64,st.n=32/\st.s 1920=some (w1920,.arr false 39 1 (v2.map e39) 0)/\st.t 1=.ept 64 w64 3 0 0/\st.t 3=.osl 1920 w1920 1 0 v2.length/\st.t 4=.v (.int .i64 v1)/\st.s 64=some (w64,.arr true 32 3 [e32 a0] 0))\/(∃ w64,(st.n=32/\st.t 1=.ept 64 w64 3 0 0/\st.t 3=.nsl/\st.t 4=.v (.int .i64 v1)/\st.s 64=some (w64,.arr true 32 3 [e32 a0] 0))/\v2=[]))
abbrev QhC:=λ N (a0:Wy) (Q:(List Int)→Prop) n (st:St)=>∃ (v1:Int) (v2:List Int) (ex:_),QbE N a0 n v1 v2=some ex/\Q ex/\((∃ w1344 w64,st.n=23/\st.s 1344=some (w1344,.arr false 3 1 (v2.map e3) 0)/\st.t 1=.ept 64 w64 3 0 0/\st.t 3=.osl 1344 w1344 1 0 v2.length/\st.t 4=.v (.int .i64 v1)/\st.s 64=some (w64,.arr true 80 3 [e80 a0] 0))\/(∃ w64,(st.n=23/\st.t 1=.ept 64 w64 3 0 0/\st.t 3=.nsl/\st.t 4=.v (.int .i64 v1)/\st.s 64=some (w64,.arr true 80 3 [e80 a0] 0))/\v2=[]))
abbrev Qjo:=λ N (a1:List Int) (Q:(List Ub)→Prop) n (st:St)=>∃ (v3:Int) (v4:Int) (v5:List Ub) (ex:_),Qa1 N a1 n v3 v4 v5=some ex/\Q ex/\((∃ w1344 w256,st.n=48/\st.s 1344=some (w1344,.arr false 117 3 (v5.map Yz) 0)/\st.t 1=.isl 39 1 (a1.map e39)/\st.t 4=.ept 256 w256 1 0 0/\st.t 6=.osl 1344 w1344 3 0 v5.length/\st.t 7=.v (.int .i64 v3)/\st.t 8=.v (.int .i64 v4)/\st.s 256=some (w256,.arr true 35 1 [[.nsl]] 0)))
abbrev Qjp:=λ N (a0:Il) (Q:(List Int)→Prop) n (st:St)=>∃ (v1:Int) (v2:List Int) (ex:_),Qdx N a0 n v1 v2=some ex/\Q ex/\((∃ w1472 w64,st.n=25/\st.s 1472=some (w1472,.arr false 39 1 (v2.map e39) 0)/\st.t 1=.ept 64 w64 4 0 0/\st.t 3=.osl 1472 w1472 1 0 v2.length/\st.t 4=.v (.int .i64 v1)/\st.s 64=some (w64,.arr true 165 4 [XaB a0] 0))\/(∃ w64,(st.n=25/\st.t 1=.ept 64 w64 4 0 0/\st.t 3=.nsl/\st.t 4=.v (.int .i64 v1)/\st.s 64=some (w64,.arr true 165 4 [XaB a0] 0))/\v2=[]))
abbrev Qff:=λ N (a0:List Int) (a1:Int) (Q:Int→Prop) n (st:St)=>∃ (v1:Int) (v2:Int) (ex:_),Qan N a0 a1 n v1 v2=some ex/\Q ex/\((st.n=54/\st.t 0=.isl 39 1 (a0.map e39)/\st.t 1=.v (.int .u64 a1)/\st.t 6=.v (.int .i64 ((a0.length:Nat):Int))/\st.t 7=.v (.int .i64 v1)/\st.t 8=.v (.int .i64 v2)))
abbrev QjS:=λ N (a0:List Iq) (Q:(Ex (Int × Int) Unit)→Prop) n (st:St)=>∃ (v1:Int) (v2:Int) (ex:_),Qcl N a0 n v1 v2=some ex/\Q ex/\((st.n=55/\st.t 0=.isl 349 2 (a0.map Xiy)/\st.t 4=.v (.int .i64 v1)/\st.t 11=.isl 349 2 (a0.map Xiy)/\st.t 12=.v (.int .i64 ((a0.length:Nat):Int))/\st.t 13=.v (.int .i64 v2)))
abbrev QjT:=λ N (a0:List Iq) (Q:(Ex (Int × Int) Int)→Prop) n (st:St)=>∃ (v5:Int) (v6:Int) (v7:Int) (ex:_),Qcm N a0 n v5 v6 v7=some ex/\Q ex/\((st.n=55/\st.t 7=.v (.int .u64 v5)/\st.t 8=.v (.int .i64 v6)/\st.t 31=.isl 349 2 (a0.map Xiy)/\st.t 32=.v (.int .i64 ((a0.length:Nat):Int))/\st.t 33=.v (.int .i64 v7)))
theorem g14:(∀ N (a0:WT) (a1:Int),OK (Qeh N a0 a1) 268 [.agg (e23 a0),.v (.int .i64 a1)] [] (λ r=>.v (.int .i64 r)) λ r=>[])/\(∀ N (a0:Ww),OK (Qcq N a0) 64 [.agg (e32 a0)] [] (λ r=>.isl 39 1 (r.map e39)) λ r=>[])/\(∀ N (a0:Wy),OK (QeB N a0) 328 [.agg (e80 a0)] [] (λ r=>.isl 3 1 (r.map e3)) λ r=>[])/\(∀ N (a0:WI) (a1:List Int),OK (Qct N a0 a1) 102 [.agg (e35 a0),.isl 39 1 (a1.map e39)] [] (λ r=>.tup [.agg (e35 r.1),.v (.int .i64 r.2)]) λ r=>[])/\(∀ N (a0:Il),OK (QfB N a0) 190 [.agg (XaB a0)] [] (λ r=>.isl 39 1 (r.map e39)) λ r=>[])/\(∀ N (a0:List Int) (a1:Int),OK (Qas N a0 a1) 136 [.isl 39 1 (a0.map e39),.v (.int .u64 a1)] [] (λ r=>.tup [.v (.int .i64 r.1),.v (.bool r.2)]) λ r=>[])/\(∀ N (a0:List Iq),OK (QgD N a0) 308 [.isl 349 2 (a0.map Xiy)] [] (λ r=>.tup [.v (.int .u64 r.1),.v (.int .i64 r.2)]) λ r=>[]):=by
 refine ⟨λ N _ _=>rn Tryz.f268 [.tmp 4] [] 28 (by kernel_rfl) ?_,λ N _=>rn Tryz.f64 [.tmp 2] [] 32 (by kernel_rfl) ?_,λ N _=>rn Tryz.f328 [.tmp 2] [] 23 (by kernel_rfl) ?_,λ N _ _=>rn Tryz.f102 [.cell 4 35,.tmp 5] [] 48 (by kernel_rfl) ?_,λ N _=>rn Tryz.f190 [.tmp 2] [] 25 (by kernel_rfl) ?_,λ N _ _=>rn Tryz.f136 [.tmp 4,.tmp 5] [] 54 (by kernel_rfl) ?_,λ N _=>rn Tryz.f308 [.tmp 2,.tmp 3] [] 55 (by kernel_rfl) ?_⟩<;>(rintro _ hw r hr C _ rfl hwf hf;simp only[Tryz.f268,Tryz.f64,Tryz.f328,Tryz.f102,Tryz.f190,Tryz.f136,Tryz.f308,Option.get!];(first|rw[Qeh] at hr|rw[Qcq] at hr|rw[QeB] at hr|rw[Qct] at hr|rw[QfB] at hr|rw[Qas] at hr|rw[QgD] at hr);repeat' first
 |(refine El.el hr ?_;intro hr)
 |(with_reducible intro h;refine XA hr h ?_;intro hr)
 |with_reducible intro _
 |(refine Xn hr ?_;rintro rfl;have hr:=hk;clear hk)
 |simp only[go_sem,simprocAttr,E,XR,Yk,YJ,Xlb]
 |(with_reducible first|apply Xk|apply Xj|apply Xo)
 |((first|with_reducible refine Ym hr (by assumption) ?_ ?_|(with_reducible refine Yi hr ?_ ?_;rotate_left;intro p;rotate_right));(·simp only[go_sem,simprocAttr]);intro hp hn hd hr;(try have XR:=hd _ e39);(try simp only[go_sem,simprocAttr] at XR);(try have Yk:=hd _ Zm);(try simp only[go_sem,simprocAttr] at Yk);(try have YJ:=hd _ Yz);(try simp only[go_sem,simprocAttr] at YJ);(try have Xlb:=hd _ Xiy);(try simp only[go_sem,simprocAttr] at Xlb))
 |(refine Xp ?_ ?_;·first|assumption|omega)
 |(with_reducible first|refine CallX.c ?_ _|refine OK.c hr hw ?_ (λ y hr=>?_) _)
 |(with_reducible refine Xf (I:=Qjm N _ _) hr 1000 N (λ ex hq hk=>⟨_,ex,hq,hk,?_⟩) ?_ _;rotate_left;clear hr;(try clear E);rintro n1 st ⟨v3,ex,hr,hk,⟨_,E⟩⟩<;>(obtain _|n1:=n1<;>rw[Qcn] at hr))
 |refine ⟨_,WD _,_,_,hr,hk,?_⟩
 |(with_reducible refine Xf (I:=Qjn N _) hr 1000 N (λ ex hq hk=>⟨_,_,ex,hq,hk,?_⟩) ?_ _;rotate_left;clear hr;(try clear E);rintro n1 st ⟨v1,v2,ex,hr,hk,(⟨_,_,E⟩|⟨_,E,z0⟩)⟩<;>(try subst z0)<;>(obtain _|n1:=n1<;>rw[Qbg] at hr))
 |refine ⟨_,WD _,_,_,_,hr,hk,?_⟩
 |(with_reducible refine Xf (I:=QhC N _) hr 1000 N (λ ex hq hk=>⟨_,_,ex,hq,hk,?_⟩) ?_ _;rotate_left;clear hr;(try clear E);rintro n1 st ⟨v1,v2,ex,hr,hk,(⟨_,_,E⟩|⟨_,E,z0⟩)⟩<;>(try subst z0)<;>(obtain _|n1:=n1<;>rw[QbE] at hr))
 |(with_reducible refine Xf (I:=Qjo N _) hr 1000 N (λ ex hq hk=>⟨_,_,_,ex,hq,hk,?_⟩) ?_ _;rotate_left;clear hr;(try clear E);rintro n1 st ⟨v3,v4,v5,ex,hr,hk,⟨_,_,E⟩⟩<;>(obtain _|n1:=n1<;>rw[Qa1] at hr))
 |refine ⟨_,WD _,_,_,_,_,hr,hk,?_⟩
 |(with_reducible refine Xf (I:=Qjp N _) hr 1000 N (λ ex hq hk=>⟨_,_,ex,hq,hk,?_⟩) ?_ _;rotate_left;clear hr;(try clear E);rintro n1 st ⟨v1,v2,ex,hr,hk,(⟨_,_,E⟩|⟨_,E,z0⟩)⟩<;>(try subst z0)<;>(obtain _|n1:=n1<;>rw[Qdx] at hr))
 |(with_reducible refine Xf (I:=Qff N _ _) hr 1000 N (λ ex hq hk=>⟨_,_,ex,hq,hk,?_⟩) ?_ _;rotate_left;clear hr;(try clear E);rintro n1 st ⟨v1,v2,ex,hr,hk,E⟩<;>(obtain _|n1:=n1<;>rw[Qan] at hr))
 |(with_reducible refine Xf (I:=QjS N _) hr 1000 N (λ ex hq hk=>⟨_,_,ex,hq,hk,?_⟩) ?_ _;rotate_left;clear hr;(try clear E);rintro n1 st ⟨v1,v2,ex,hr,hk,E⟩<;>(obtain _|n1:=n1<;>rw[Qcl] at hr))
 |(with_reducible refine Xf (I:=QjT N _) hr 1000 N (λ ex hq hk=>⟨_,_,_,ex,hq,hk,?_⟩) ?_ _;rotate_left;clear hr;(try clear E);rintro n2 st ⟨v5,v6,v7,ex,hr,hk,E⟩<;>(obtain _|n2:=n2<;>rw[Qcm] at hr))
 |(refine Xn hr ?_;rintro rfl;with_reducible refine XM ?_)
 |exact Yw hr
 |((first|refine XA (c:=true) hr rfl ?_|refine XA (c:=false) hr rfl ?_|refine XA hr (by assumption) ?_);intro hr)
 |fail)
@[reducible,instance] def Qng:=g14.1
@[reducible,instance] def Qnh:=g14.2.1
@[reducible,instance] def QkX:=g14.2.2.1
@[reducible,instance] def Qni:=g14.2.2.2.1
@[reducible,instance] def Qnj:=g14.2.2.2.2.1
@[reducible,instance] def QhY:=g14.2.2.2.2.2.1
@[reducible,instance] def Qn6:=g14.2.2.2.2.2.2
theorem g11:(∀ N (a0:WT),OK (Qeg N a0) 37 [.agg (e23 a0)] [] (λ r=>.tup [.agg (e38 r.1),.v (.int .i64 r.2)]) λ r=>[])/\(∀ N (a0:Wn) (a1:Int),OK (QeN N a0 a1) 144 [.agg (e27 a0),.v (.int .u64 a1)] [] (λ r=>.v (.int .i64 r)) λ r=>[])/\(∀ N (a0:List Int) (a1:Int) (a2:Int) (a3:Int),OK (QeO N a0 a1 a2 a3) 326 [.isl 39 1 (a0.map e39),.v (.int .u64 a1),.v (.int .u64 a2),.v (.int .i64 a3)] [] (λ r=>.tup [.isl 39 1 (r.1.map e39),.v (.int .i64 r.2)]) λ r=>[])/\(∀ N (a0:Int),OK (QbN N a0) 24 [.v (.int .u64 a0)] [] (λ r=>.tup [.agg (e70 r.1),.v (.int .i64 r.2)]) λ r=>[])/\(∀ N (a0:Ww) (a1:Int) (a2:Bool),OK (QfC N a0 a1 a2) 214 [.agg (e32 a0),.v (.int .i64 a1),.v (.bool a2)] [] (λ r=>.tup [.agg (e32 r.1),.v (.int .i64 r.2)]) λ r=>[])/\(∀ N (a0:WM) (a1:Int) (a2:Int) (a3:Int),OK (QeS N a0 a1 a2 a3) 122 [.agg (e43 a0),.v (.int .i64 a1),.v (.int .u64 a2),.v (.int .u64 a3)] [] (λ r=>.tup [.agg (e43 r.1),.v (.int .u64 r.2)]) λ r=>[])/\(∀ N (a0:WT) (a1:Int),OK (Qen N a0 a1) 151 [.agg (e23 a0),.v (.int .i64 a1)] [] (λ r=>.v (.int .i64 r)) λ r=>[])/\(∀ N (a0:List Int) (a1:Int),OK (QfE N a0 a1) 320 [.isl 39 1 (a0.map e39),.v (.int .u64 a1)] [] (λ r=>.tup [.v (.int .u64 r.1),.v (.int .i64 r.2)]) λ r=>[])/\(∀ N (a0:List Int),OK (Qbd N a0) 125 [.isl 3 1 (a0.map e3),.clo (.func 126) [] []] [] (λ r=>.v (.bool r)) λ r=>[])/\(∀ N (a0:Int),OK (Qe7 N a0) 20 [.v (.int .u64 a0)] [] (λ r=>.tup [.agg (e70 r.1),.v (.int .i64 r.2)]) λ r=>[])/\(∀ N (a0:List Wv) (a1:Int) (a2:Int),OK (QfK N a0 a1 a2) 238 [.isl 175 4 (a0.map XG),.v (.int .i64 a1),.v (.int .i64 a2)] [] (λ r=>.tup [.fsl 175 4 (r.1.map XG),.v (.int .i64 r.2)]) λ r=>[]):=by
 refine ⟨λ N _=>rn Tryz.f37 [.cell 2 38,.tmp 3] [] 14 (by kernel_rfl) ?_,λ N _ _=>rn Tryz.f144 [.tmp 4] [] 17 (by kernel_rfl) ?_,λ N _ _ _ _=>rn Tryz.f326 [.tmp 8,.tmp 9] [] 28 (by kernel_rfl) ?_,λ N _=>rn Tryz.f24 [.cell 2 70,.tmp 3] [] 35 (by kernel_rfl) ?_,λ N _ _ _=>rn Tryz.f214 [.cell 6 32,.tmp 7] [] 48 (by kernel_rfl) ?_,λ N _ _ _ _=>rn Tryz.f122 [.cell 8 43,.tmp 9] [] 77 (by kernel_rfl) ?_,λ N _ _=>rn Tryz.f151 [.tmp 4] [] 33 (by kernel_rfl) ?_,λ N _ _=>rn Tryz.f320 [.tmp 4,.tmp 5] [] 21 (by kernel_rfl) ?_,λ N _=>rn Tryz.f125 [.tmp 4] [] 9 (by kernel_rfl) ?_,λ N _=>rn Tryz.f20 [.cell 2 70,.tmp 3] [] 37 (by kernel_rfl) ?_,λ N _ _ _=>rn Tryz.f238 [.tmp 6,.tmp 7] [1152] 21 (by kernel_rfl) ?_⟩<;>(rintro _ hw r hr C _ rfl hwf hf;have hgw:=hw;unfold GW at hgw;simp only[Tryz.f37,Tryz.f144,Tryz.f326,Tryz.f24,Tryz.f214,Tryz.f122,Tryz.f151,Tryz.f320,Tryz.f125,Tryz.f20,Tryz.f238,Option.get!];(first|rw[Qeg] at hr|rw[QeN] at hr|rw[QeO] at hr|rw[QbN] at hr|rw[QfC] at hr|rw[QeS] at hr|rw[Qen] at hr|rw[QfE] at hr|rw[Qbd] at hr|rw[Qe7] at hr|rw[QfK] at hr);repeat' first
 |(refine El.el hr ?_;intro hr)
 |(with_reducible intro h;refine XA hr h ?_;intro hr)
 |with_reducible intro _
 |simp only[go_sem,simprocAttr,Xq4,XR,Kb,hgw,Wz,WO,UL]
 |(with_reducible first|apply Xk|apply Xj|apply Xo|apply Xt|apply Xu)
 |((first|with_reducible refine Ym hr (by assumption) ?_ ?_|(with_reducible refine Yi hr ?_ ?_;rotate_left;intro p;rotate_right));(·simp only[go_sem,simprocAttr,hgw,Wz,WO,UL]);intro hp hn hd hr;(try have XR:=hd _ e39);(try simp only[go_sem,simprocAttr] at XR);(try have Kb:=hd _ Xcw);(try simp only[go_sem,simprocAttr] at Kb))
 |(refine Xp ?_ ?_;·first|assumption|omega)
 |(with_reducible refine Xgw hr ?_ ?_;(·simp only[go_sem]);intro p hp hn hd hr;(try have XR:=hd _ e39);(try simp only[go_sem,simprocAttr] at XR);(try have Kb:=hd _ Xcw);(try simp only[go_sem,simprocAttr] at Kb))
 |(with_reducible first|refine CallX.c ?_ _|refine OK.c hr hw ?_ (λ y hr=>?_) _)
 |with_reducible refine OB 6 ?_ _
 |with_reducible refine LoopU.s 1000 ?_ _
 |refine db 214 7 hf 34 [(0,2038,[[2176],[2816]]),(0,2033,[[],[2176,2816]]),(2,2033,[[],[2176,2816]]),(7,2032,[[2176],[2816]]),(0,399,[[],[2176]]),(16,399,[[],[2176]]),(48,399,[[],[2176]]),(0,383,[[],[2176]]),(0,255,[[],[2176]]),(496,15,[[],[2176]]),(1008,15,[[2816],[2176]]),(2047,0,[[2176],[]]),(4095,0,[]),(8191,0,[[192],[]])] rfl rfl (by kernel_rfl) ?_ _
 |refine db 122 6 hf 37 [(0,500,[]),(1,500,[]),(0,499,[]),(7,496,[]),(0,207,[]),(16,207,[]),(0,63,[]),(64,63,[]),(240,15,[]),(511,0,[[896],[]]),(1023,0,[]),(2047,0,[[256],[]])] rfl rfl (by kernel_rfl) ?_ _
 |refine db 122 10 hf 60 [(0,126,[]),(0,9,[[],[512]]),(2,9,[[],[512]]),(0,7,[[],[512]]),(14,1,[[],[512]]),(30,1,[[],[512]]),(62,1,[[],[512]]),(1,126,[[512],[]]),(255,0,[])] rfl rfl (by kernel_rfl) ?_ _
 |refine db 20 6 hf 6 [(0,33423361,[[],[384]]),(1,33423361,[[],[384]]),(3,33423361,[[],[384]]),(7,33423361,[[],[384]]),(0,31580161,[[],[384]]),(16,31580161,[[],[384]]),(48,31580161,[[],[384]]),(112,31580161,[[],[384]]),(0,2088961,[[],[384]]),(256,2088961,[[],[384]]),(768,2088961,[[],[384]]),(1792,2088961,[[],[384]]),(4095,1,[[],[384]]),(0,67100672,[[384],[]]),(16383,0,[[384],[]])] rfl rfl (by kernel_rfl) ?_ _
 |(refine Xn hr ?_;rintro rfl;with_reducible refine XM ?_)
 |exact Yw hr
 |with_reducible refine Xnl (λ hi=>?_) (λ hi=>?_)
 |(exfalso;omega)
 |fail)
@[reducible,instance] def Qn7:=g11.1
@[reducible,instance] def Qnk:=g11.2.1
@[reducible,instance] def Qnl:=g11.2.2.1
@[reducible,instance] def QlJ:=g11.2.2.2.1
@[reducible,instance] def Qnm:=g11.2.2.2.2.1
@[reducible,instance] def Qnn:=g11.2.2.2.2.2.1
@[reducible,instance] def Qn8:=g11.2.2.2.2.2.2.1
@[reducible,instance] def Qno:=g11.2.2.2.2.2.2.2.1
@[reducible,instance] def QhQ:=g11.2.2.2.2.2.2.2.2.1
@[reducible,instance] def Qlf:=g11.2.2.2.2.2.2.2.2.2.1
@[reducible,instance] def Qnp:=g11.2.2.2.2.2.2.2.2.2.2
end Go.Sx
