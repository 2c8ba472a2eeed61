import Derived.Test.YtgcneehkconghaaGreatDoorBF
import Derived.Test.YtgcneehkconghaaGreatDoorBG0
import Derived.Test.YtgcneehkconghaaGreatDoorBG1
import Derived.Test.YtgcneehkconghaaGreatDoorBG2
set_option linter.all false
namespace Go.Sx
open Go.Proofs
set_option maxRecDepth 10000
set_option maxHeartbeats 100000000
abbrev QiK:=λ N (a0:Wq) (Q:(Ex Bool Unit)→Prop) n (st:St)=>∃ (v1:Int) (ex:_),QcO N a0 n v1=some ex/\Q ex/\((∃ w64,st.n=174/\st.t 1=.ept 64 w64 3 0 0/\st.t 3=.v (.int .i64 v1)/\st.s 64=some (w64,.arr true 32 3 [e32 a0] 0)))
abbrev QiL:=λ N (a0:Wq) (Q:(Ex Bool Unit)→Prop) n (st:St)=>∃ (v5:Int) (v6:Int) (ex:_),Qai N a0 n v5 v6=some ex/\Q ex/\((∃ w64,st.n=174/\st.t 1=.ept 64 w64 3 0 0/\st.t 4=.v (.int .i64 v5)/\st.t 5=.v (.int .i64 v6)/\st.s 64=some (w64,.arr true 32 3 [e32 a0] 0)))
abbrev QiM:=λ N (a0:Wq) (Q:(Ex Bool Unit)→Prop) n (st:St)=>∃ (v10:Int) (v11:Int) (ex:_),Qag N a0 n v10 v11=some ex/\Q ex/\((∃ w64,st.n=174/\st.t 1=.ept 64 w64 3 0 0/\st.t 7=.v (.int .i64 v10)/\st.t 8=.v (.int .i64 v11)/\st.s 64=some (w64,.arr true 32 3 [e32 a0] 0)))
abbrev QiN:=λ N (a0:Wq) (Q:(Ex Bool Unit)→Prop) n (st:St)=>∃ (v14:Int) (ex:_),Qcb N a0 n v14=some ex/\Q ex/\((∃ w64,st.n=174/\st.t 1=.ept 64 w64 3 0 0/\st.t 10=.v (.int .i64 v14)/\st.s 64=some (w64,.arr true 32 3 [e32 a0] 0)))
abbrev QiO:=λ N (a2:List Int) (y1:Int × Bool) (Q:(List Int)→Prop) n (st:St)=>∃ (v2:Int) (v3:List Int) (ex:_),Qbo N a2 y1 n v2 v3=some ex/\Q ex/\((∃ w1408,st.n=41/\st.s 1408=some (w1408,.arr false 39 1 (v3.map e39) 0)/\st.t 2=.isl 39 1 (a2.map e39)/\st.t 8=.v (.int .i64 y1.1)/\st.t 10=.osl 1408 w1408 1 0 v3.length/\st.t 11=.v (.int .i64 v2)))
abbrev Qj6:=λ N (a0:Wy) (a1:Int) (Q:(Ex (Wy × Int × Int × Int) Unit)→Prop) n (st:St)=>∃ (v2:Int) (ex:_),Qbl N a0 a1 n v2=some ex/\Q ex/\((∃ w896 w256,st.n=69/\st.s 896=some (w896,.arr false 117 3 (a0.Entries.map Ym) 0)/\st.t 1=.v (.int .u64 a1)/\st.t 4=.ept 256 w256 1 0 0/\st.t 8=.osl 896 w896 3 0 a0.Entries.length/\st.t 9=.v (.int .i64 v2)/\st.s 256=some (w256,.arr true 35 1 [[.nsl]] 0)))
abbrev Qey:=λ N (a0:List Int) (Q:(Ex Int Unit)→Prop) n (st:St)=>∃ (v1:Int) (ex:_),Qan N a0 n v1=some ex/\Q ex/\((st.n=19/\st.t 0=.isl 39 1 (a0.map e39)/\st.t 1=.clo (.func 364) [] []/\st.t 7=.v (.int .i64 ((a0.length:Nat):Int))/\st.t 8=.v (.int .i64 v1)))
abbrev Qel:=λ N (a0:List UE) (c0:Int) (Q:(Ex Int Unit)→Prop) n (st:St)=>∃ (v1:Int) (ex:_),Qaj N a0 c0 n v1=some ex/\Q ex/\((st.n=19/\st.t 0=.isl 119 2 (a0.map YT)/\st.t 1=.clo (.func 291) [] [.ept 1000000 0 1 0 0]/\st.t 7=.v (.int .i64 ((a0.length:Nat):Int))/\st.t 8=.v (.int .i64 v1)/\st.s 1000000=some (0,.arr true 39 1 [[.v (.int .u64 c0)]] 0)))
abbrev Qft:=λ N (a0:List Int) (Q:(Ex Int Unit)→Prop) n (st:St)=>∃ (v1:Int) (ex:_),Qaw N a0 n v1=some ex/\Q ex/\((st.n=19/\st.t 0=.isl 3 1 (a0.map e3)/\st.t 1=.clo (.func 126) [] []/\st.t 7=.v (.int .i64 ((a0.length:Nat):Int))/\st.t 8=.v (.int .i64 v1)))
abbrev QfV:=λ N (a0:List (List Int)) (Q:Int→Prop) n (st:St)=>∃ (v1:Int) (v2:Int) (ex:_),QaH N a0 n v1 v2=some ex/\Q ex/\((st.n=36/\st.t 0=.isl 24 1 (a0.map e24)/\st.t 3=.v (.int .i64 v1)/\st.t 9=.isl 24 1 (a0.map e24)/\st.t 10=.v (.int .i64 ((a0.length:Nat):Int))/\st.t 11=.v (.int .i64 v2)))
abbrev QfW:=λ N (a0:List (List Int)) (Q:(List Int)→Prop) n (st:St)=>∃ (v6:Int) (v7:List Int) (ex:_),QaI N a0 n v6 v7=some ex/\Q ex/\((∃ w1536,st.n=36/\st.s 1536=some (w1536,.arr false 39 1 (v7.map e39) 0)/\st.t 6=.osl 1536 w1536 1 0 v7.length/\st.t 25=.isl 24 1 (a0.map e24)/\st.t 26=.v (.int .i64 ((a0.length:Nat):Int))/\st.t 27=.v (.int .i64 v6)))
abbrev Qjz:=λ N (a0:Wo) (a1:Wo) (Q:(Ex Bool Unit)→Prop) n (st:St)=>∃ (v2:Int) (ex:_),Qdi N a0 a1 n v2=some ex/\Q ex/\((∃ w128 w192,st.n=60/\st.t 2=.ept 128 w128 6 0 0/\st.t 3=.ept 192 w192 6 0 0/\st.t 5=.v (.int .i64 v2)/\st.s 128=some (w128,.arr true 27 6 [e27 a0] 0)/\st.s 192=some (w192,.arr true 27 6 [e27 a1] 0)))
theorem g9:(∀ N (a0:Wq),OK (QbG N a0) 60 [.agg (e32 a0)] [] (λ r=>.v (.bool r)) λ r=>[])/\(∀ N (a0:List Int) (a1:Int) (a2:List Int),OK (Qci N a0 a1 a2) 277 [.isl 39 1 (a0.map e39),.v (.int .u64 a1),.isl 39 1 (a2.map e39)] [] (λ r=>.tup [.isl 39 1 (r.1.map e39),.v (.int .i64 r.2)]) λ r=>[])/\(∀ N (a0:Wy) (a1:Int),OK (QbT N a0 a1) 202 [.agg (e35 a0),.v (.int .u64 a1)] [] (λ r=>.tup [.agg (e35 r.1),.v (.int .i64 r.2.1),.v (.int .i64 r.2.2.1),.v (.int .i64 r.2.2.2)]) λ r=>[])/\(∀ N (a0:List Int),OK (QaF N a0) 227 [.isl 39 1 (a0.map e39),.clo (.func 364) [] []] [] (λ r=>.v (.int .i64 r)) λ r=>[])/\(∀ N (a0:List UE) (c0:Int),OK (QaR N a0 c0) 290 [.isl 119 2 (a0.map YT),.clo (.func 291) [] [.ept 1000000 0 1 0 0]] [.arr true 39 1 [[.v (.int .u64 c0)]] 0] (λ r=>.v (.int .i64 r)) λ r=>[.arr true 39 1 [[.v (.int .u64 c0)]] 0])/\(∀ N (a0:List Int),OK (Qbm N a0) 220 [.isl 3 1 (a0.map e3),.clo (.func 126) [] []] [] (λ r=>.v (.int .i64 r)) λ r=>[])/\(∀ N (a0:List (List Int)),OK (Qbf N a0) 137 [.isl 24 1 (a0.map e24)] [] (λ r=>.isl 39 1 (r.map e39)) λ r=>[])/\(∀ N (a0:Wo) (a1:Wo),OK (Qgg N a0 a1) 31 [.agg (e27 a0),.agg (e27 a1)] [] (λ r=>.v (.bool r)) λ r=>[]):=by
 refine ⟨λ N _=>rn Tryz.f60 [.tmp 2] [] 174 (by kernel_rfl) ?_,λ N _ _ _=>rn Tryz.f277 [.tmp 6,.tmp 7] [] 41 (by kernel_rfl) ?_,λ N _ _=>rn Tryz.f202 [.cell 4 35,.tmp 5,.tmp 6,.tmp 7] [] 69 (by kernel_rfl) ?_,λ N _=>rn Tryz.f227 [.tmp 4] [] 19 (by kernel_rfl) ?_,λ N _ _=>rn Tryz.f290 [.tmp 4] [] 19 (by kernel_rfl) ?_,λ N _=>rn Tryz.f220 [.tmp 4] [] 19 (by kernel_rfl) ?_,λ N _=>rn Tryz.f137 [.tmp 2] [] 36 (by kernel_rfl) ?_,λ N _ _=>rn Tryz.f31 [.tmp 4] [] 60 (by kernel_rfl) ?_⟩<;>(rintro _ hw r hr C _ rfl hwf hf;simp only[Tryz.f60,Tryz.f277,Tryz.f202,Tryz.f227,Tryz.f290,Tryz.f220,Tryz.f137,Tryz.f31,Option.get!];(first|rw[QbG] at hr|rw[Qci] at hr|rw[QbT] at hr|rw[QaF] at hr|rw[QaR] at hr|rw[Qbm] at hr|rw[Qbf] at hr|rw[Qgg] at hr);repeat' first
 |(refine El.el hr ?_;intro hr)
 |(with_reducible intro h;refine Xw hr h ?_;intro hr)
 |with_reducible intro _
 |(refine Xn hr ?_;rintro rfl;have hr:=hk;clear hk)
 |simp only[go_sem,simprocAttr,E,hl3,XmC,XQ,Zt,Yd,Ye,Zd]
 |(with_reducible first|apply Xg|apply Xf|apply Xo|apply Xt|apply Xu)
 |((first|with_reducible refine Yb hr (by assumption) ?_ ?_|(with_reducible refine X7 hr ?_ ?_;rotate_left;intro p;rotate_right));(·simp only[go_sem,simprocAttr]);intro hp hn hd hr;(try have hl3:=hd _ e3);(try simp only[go_sem,simprocAttr] at hl3);(try have XmC:=hd _ e24);(try simp only[go_sem,simprocAttr] at XmC);(try have XQ:=hd _ e39);(try simp only[go_sem,simprocAttr] at XQ);(try have Zt:=hd _ e98);(try simp only[go_sem,simprocAttr] at Zt);(try have Yd:=hd _ Zg);(try simp only[go_sem,simprocAttr] at Yd);(try have Ye:=hd _ Ym);(try simp only[go_sem,simprocAttr] at Ye);(try have Zd:=hd _ YT);(try simp only[go_sem,simprocAttr] at Zd))
 |(refine Xp ?_ ?_;·first|assumption|omega)
 |(with_reducible first|refine CallX.c ?_ _|refine OK.c hr hw ?_ (λ y hr=>?_) _|refine IX hr hw ?_ (λ y hr=>?_) _)
 |(with_reducible refine Xe (I:=QiK N _) hr 1000 N (λ ex hq hk=>⟨_,ex,hq,hk,?_⟩) ?_ _;rotate_left;clear hr;(try clear E);rintro n1 st ⟨v1,ex,hr,hk,⟨_,E⟩⟩<;>(obtain _|n1:=n1<;>rw[QcO] at hr))
 |refine ⟨_,WA _,_,_,hr,hk,?_⟩
 |(with_reducible refine Xe (I:=QiL N _) hr 1000 N (λ ex hq hk=>⟨_,_,ex,hq,hk,?_⟩) ?_ _;rotate_left;clear hr;(try clear E);rintro n2 st ⟨v5,v6,ex,hr,hk,⟨_,E⟩⟩<;>(obtain _|n2:=n2<;>rw[Qai] at hr))
 |refine ⟨_,WA _,_,_,_,hr,hk,?_⟩
 |(with_reducible refine Xe (I:=QiM N _) hr 1000 N (λ ex hq hk=>⟨_,_,ex,hq,hk,?_⟩) ?_ _;rotate_left;clear hr;(try clear E);rintro n3 st ⟨v10,v11,ex,hr,hk,⟨_,E⟩⟩<;>(obtain _|n3:=n3<;>rw[Qag] at hr))
 |(with_reducible refine Xe (I:=QiN N _) hr 1000 N (λ ex hq hk=>⟨_,ex,hq,hk,?_⟩) ?_ _;rotate_left;clear hr;(try clear E);rintro n4 st ⟨v14,ex,hr,hk,⟨_,E⟩⟩<;>(obtain _|n4:=n4<;>rw[Qcb] at hr))
 |(with_reducible refine Xe (I:=QiO N _ _) hr 1000 N (λ ex hq hk=>⟨_,_,ex,hq,hk,?_⟩) ?_ _;rotate_left;clear hr;(try clear E);rintro n1 st ⟨v2,v3,ex,hr,hk,⟨_,E⟩⟩<;>(obtain _|n1:=n1<;>rw[Qbo] at hr))
 |(with_reducible refine Xe (I:=Qj6 N _ _) hr 1000 N (λ ex hq hk=>⟨_,ex,hq,hk,?_⟩) ?_ _;rotate_left;clear hr;(try clear E);rintro n1 st ⟨v2,ex,hr,hk,⟨_,_,E⟩⟩<;>(obtain _|n1:=n1<;>rw[Qbl] at hr))
 |(with_reducible refine Xe (I:=Qey N _) hr 1000 N (λ ex hq hk=>⟨_,ex,hq,hk,?_⟩) ?_ _;rotate_left;clear hr;(try clear E);rintro n1 st ⟨v1,ex,hr,hk,E⟩<;>(obtain _|n1:=n1<;>rw[Qan] at hr))
 |(with_reducible refine Xe (I:=Qel N _ _) hr 1000 N (λ ex hq hk=>⟨_,ex,hq,hk,?_⟩) ?_ _;rotate_left;clear hr;(try clear E);rintro n1 st ⟨v1,ex,hr,hk,E⟩<;>(obtain _|n1:=n1<;>rw[Qaj] at hr))
 |(with_reducible refine Xe (I:=Qft N _) hr 1000 N (λ ex hq hk=>⟨_,ex,hq,hk,?_⟩) ?_ _;rotate_left;clear hr;(try clear E);rintro n1 st ⟨v1,ex,hr,hk,E⟩<;>(obtain _|n1:=n1<;>rw[Qaw] at hr))
 |(with_reducible refine Xe (I:=QfV N _) hr 1000 N (λ ex hq hk=>⟨_,_,ex,hq,hk,?_⟩) ?_ _;rotate_left;clear hr;(try clear E);rintro n1 st ⟨v1,v2,ex,hr,hk,E⟩<;>(obtain _|n1:=n1<;>rw[QaH] at hr))
 |(with_reducible refine Xe (I:=QfW N _) hr 1000 N (λ ex hq hk=>⟨_,_,ex,hq,hk,?_⟩) ?_ _;rotate_left;clear hr;(try clear E);rintro n2 st ⟨v6,v7,ex,hr,hk,⟨_,E⟩⟩<;>(obtain _|n2:=n2<;>rw[QaI] at hr))
 |(with_reducible refine Xe (I:=Qjz N _ _) hr 1000 N (λ ex hq hk=>⟨_,ex,hq,hk,?_⟩) ?_ _;rotate_left;clear hr;(try clear E);rintro n1 st ⟨v2,ex,hr,hk,⟨_,_,E⟩⟩<;>(obtain _|n1:=n1<;>rw[Qdi] at hr))
 |refine db 60 27 hf 156 [(0,130046,[]),(0,129929,[]),(2,129929,[]),(0,129927,[]),(14,129921,[]),(30,129921,[]),(62,129921,[]),(0,129407,[]),(0,129279,[]),(384,129151,[]),(1023,129024,[]),(0,10239,[]),(2048,10239,[]),(0,8191,[]),(14336,2047,[]),(30720,2047,[]),(63488,2047,[]),(131071,0,[])] rfl rfl (by kernel_rfl) ?_ _
 |refine db 202 9 hf 5 [(0,4433230883192832,[]),(1,4433230883192832,[]),(0,4415638697148416,[[],[256]]),(0,404620279021569,[[],[256]]),(0,263882790666241,[[],[256]]),(24,123145302310913,[[],[256]]),(56,123145302310913,[[],[256]]),(120,123145302310913,[[],[256]]),(3,4433230883192832,[[256],[]]),(263,4362862139015168,[]),(1023,0,[]),(2047,0,[])] rfl rfl (by kernel_rfl) ?_ _
 |refine db 31 6 hf 49 [(0,996,[]),(1,996,[]),(0,995,[]),(7,992,[]),(15,992,[]),(0,159,[]),(32,159,[]),(0,127,[]),(224,31,[]),(480,31,[]),(1023,0,[])] rfl rfl (by kernel_rfl) ?_ _
 |(refine Xn hr ?_;rintro rfl;with_reducible refine XF ?_)
 |exact Yj hr
 |((first|refine Xw (c:=true) hr rfl ?_|refine Xw (c:=false) hr rfl ?_|refine Xw hr (by assumption) ?_);intro hr)
 |fail)
@[reducible,instance] def Qmp:=g9.1
@[reducible,instance] def Qmq:=g9.2.1
@[reducible,instance] def Qoi:=g9.2.2.1
@[reducible,instance] def QhJ:=g9.2.2.2.1
@[reducible,instance] def Qhu:=g9.2.2.2.2.1
@[reducible,instance] def Qim:=g9.2.2.2.2.2.1
@[reducible,instance] def QjR:=g9.2.2.2.2.2.2.1
@[reducible,instance] def Qns:=g9.2.2.2.2.2.2.2
end Go.Sx
