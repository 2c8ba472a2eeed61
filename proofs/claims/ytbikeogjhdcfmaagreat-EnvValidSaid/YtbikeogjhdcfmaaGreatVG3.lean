import Derived.Test.YtbikeogjhdcfmaaGreatVF
import Derived.Test.YtbikeogjhdcfmaaGreatVG0
import Derived.Test.YtbikeogjhdcfmaaGreatVG1
import Derived.Test.YtbikeogjhdcfmaaGreatVG2
set_option linter.all false
namespace Go.Sx
open Go.Proofs
set_option maxRecDepth 10000
set_option maxHeartbeats 100000000
abbrev QiK:=λ N (a0:Ww) (Q:(Ex Bool Unit)→Prop) n (st:St)=>∃ (v1:Int) (ex:_),Qdc N a0 n v1=some ex/\Q ex/\((∃ w64,st.n=174/\st.t 1=.ept 64 w64 3 0 0/\st.t 3=.v (.int .i64 v1)/\st.s 64=some (w64,.arr true 32 3 [e32 a0] 0)))
abbrev QiL:=λ N (a0:Ww) (Q:(Ex Bool Unit)→Prop) n (st:St)=>∃ (v5:Int) (v6:Int) (ex:_),Qaj N a0 n v5 v6=some ex/\Q ex/\((∃ w64,st.n=174/\st.t 1=.ept 64 w64 3 0 0/\st.t 4=.v (.int .i64 v5)/\st.t 5=.v (.int .i64 v6)/\st.s 64=some (w64,.arr true 32 3 [e32 a0] 0)))
abbrev QiM:=λ N (a0:Ww) (Q:(Ex Bool Unit)→Prop) n (st:St)=>∃ (v10:Int) (v11:Int) (ex:_),Qah N a0 n v10 v11=some ex/\Q ex/\((∃ w64,st.n=174/\st.t 1=.ept 64 w64 3 0 0/\st.t 7=.v (.int .i64 v10)/\st.t 8=.v (.int .i64 v11)/\st.s 64=some (w64,.arr true 32 3 [e32 a0] 0)))
abbrev QiN:=λ N (a0:Ww) (Q:(Ex Bool Unit)→Prop) n (st:St)=>∃ (v14:Int) (ex:_),QcE N a0 n v14=some ex/\Q ex/\((∃ w64,st.n=174/\st.t 1=.ept 64 w64 3 0 0/\st.t 10=.v (.int .i64 v14)/\st.s 64=some (w64,.arr true 32 3 [e32 a0] 0)))
abbrev QiO:=λ N (a2:List Int) (y1:Int × Bool) (Q:(List Int)→Prop) n (st:St)=>∃ (v2:Int) (v3:List Int) (ex:_),Qbv N a2 y1 n v2 v3=some ex/\Q ex/\((∃ w1408,st.n=41/\st.s 1408=some (w1408,.arr false 71 1 (v3.map e71) 0)/\st.t 2=.isl 71 1 (a2.map e71)/\st.t 8=.v (.int .i64 y1.1)/\st.t 10=.osl 1408 w1408 1 0 v3.length/\st.t 11=.v (.int .i64 v2)))
abbrev Qj6:=λ N (a0:WG) (a1:Int) (Q:(Ex (WG × Int × Int × Int) Unit)→Prop) n (st:St)=>∃ (v2:Int) (ex:_),Qbs N a0 a1 n v2=some ex/\Q ex/\((∃ w896 w256,st.n=69/\st.s 896=some (w896,.arr false 92 3 (a0.Entries.map e92) 0)/\st.t 1=.v (.int .u64 a1)/\st.t 4=.ept 256 w256 1 0 0/\st.t 8=.osl 896 w896 3 0 a0.Entries.length/\st.t 9=.v (.int .i64 v2)/\st.s 256=some (w256,.arr true 35 1 [[.nsl]] 0)))
abbrev Qea:=λ N (a0:List Ua) (Q:(Ex Int Unit)→Prop) n (st:St)=>∃ (v1:Int) (ex:_),Qai N a0 n v1=some ex/\Q ex/\((st.n=19/\st.t 0=.isl 92 3 (a0.map e92)/\st.t 1=.clo (.func 59) [] []/\st.t 7=.v (.int .i64 ((a0.length:Nat):Int))/\st.t 8=.v (.int .i64 v1)))
abbrev Qhr:=λ N (y1:List UX) (Q:Int→Prop) n (st:St)=>∃ (v2:Int) (v3:Int) (ex:_),Qbp N y1 n v2 v3=some ex/\Q ex/\((st.n=22/\st.t 5=.v (.int .i64 v2)/\st.t 10=.isl 88 3 (y1.map e88)/\st.t 11=.v (.int .i64 ((y1.length:Nat):Int))/\st.t 12=.v (.int .i64 v3)))
abbrev QiP:=λ N (a0:Int) (a1:List Int) (Q:(Ex (List Int × Int) Unit)→Prop) n (st:St)=>∃ (v1:Int) (v2:Int) (ex:_),Qbz N a0 a1 n v1 v2=some ex/\Q ex/\((st.n=49/\st.t 0=.v (.int .u64 a0)/\st.t 1=.isl 3 1 (a1.map e3)/\st.t 6=.v (.int .i64 v1)/\st.t 12=.isl 3 1 (a1.map e3)/\st.t 13=.v (.int .i64 ((a1.length:Nat):Int))/\st.t 14=.v (.int .i64 v2)))
abbrev QiQ:=λ N (a1:List Int) (Q:(Int × List Int)→Prop) n (st:St)=>∃ (v5:Int) (v6:Int) (v7:List Int) (ex:_),QbA N a1 n v5 v6 v7=some ex/\Q ex/\((∃ w2624,st.n=49/\st.s 2624=some (w2624,.arr false 71 1 (v7.map e71) 0)/\st.t 0=.v (.int .u64 v5)/\st.t 9=.osl 2624 w2624 1 0 v7.length/\st.t 29=.isl 3 1 (a1.map e3)/\st.t 30=.v (.int .i64 ((a1.length:Nat):Int))/\st.t 31=.v (.int .i64 v6))\/((st.n=49/\st.t 0=.v (.int .u64 v5)/\st.t 9=.nsl/\st.t 29=.isl 3 1 (a1.map e3)/\st.t 30=.v (.int .i64 ((a1.length:Nat):Int))/\st.t 31=.v (.int .i64 v6))/\v7=[]))
abbrev QdH:=λ N (a0:List UJ) (Q:(Ex Int Unit)→Prop) n (st:St)=>∃ (v1:Int) (ex:_),Qaf N a0 n v1=some ex/\Q ex/\((st.n=19/\st.t 0=.isl 162 4 (a0.map KK)/\st.t 1=.clo (.func 93) [] []/\st.t 7=.v (.int .i64 ((a0.length:Nat):Int))/\st.t 8=.v (.int .i64 v1)))
abbrev Qjz:=λ N (a1:Int) (y1:List Og) (Q:(Ex Int Unit)→Prop) n (st:St)=>∃ (v2:Int) (ex:_),QdG N a1 y1 n v2=some ex/\Q ex/\((st.n=23/\st.t 1=.v (.int .i64 a1)/\st.t 10=.isl 360 2 (y1.map Xcl)/\st.t 11=.v (.int .i64 ((y1.length:Nat):Int))/\st.t 12=.v (.int .i64 v2)))
theorem g10:(∀ N (a0:Ww),OK (QbV N a0) 31 [.agg (e32 a0)] [] (λ r=>.v (.bool r)) λ r=>[])/\(∀ N (a0:List Int) (a1:Int) (a2:List Int),OK (QbX N a0 a1 a2) 259 [.isl 71 1 (a0.map e71),.v (.int .u64 a1),.isl 71 1 (a2.map e71)] [] (λ r=>.tup [.isl 71 1 (r.1.map e71),.v (.int .i64 r.2)]) λ r=>[])/\(∀ N (a0:WG) (a1:Int),OK (Qce N a0 a1) 200 [.agg (e35 a0),.v (.int .u64 a1)] [] (λ r=>.tup [.agg (e35 r.1),.v (.int .i64 r.2.1),.v (.int .i64 r.2.2.1),.v (.int .i64 r.2.2.2)]) λ r=>[])/\(∀ N (a0:List Ua),OK (QaF N a0) 89 [.isl 92 3 (a0.map e92),.clo (.func 59) [] []] [] (λ r=>.v (.int .i64 r)) λ r=>[])/\(∀ N (a0:Iu) (a1:Int),OK (QdI N a0 a1) 57 [.agg (Xgv a0),.v (.int .i64 a1)] [] (λ r=>.v (.int .i64 r)) λ r=>[])/\(∀ N (a0:Int) (a1:List Int),OK (Qf6 N a0 a1) 303 [.v (.int .u64 a0),.isl 3 1 (a1.map e3)] [] (λ r=>.tup [.isl 71 1 (r.1.map e71),.v (.int .i64 r.2)]) λ r=>[])/\(∀ N (a0:List UJ),OK (Qag N a0) 146 [.isl 162 4 (a0.map KK),.clo (.func 93) [] []] [] (λ r=>.v (.int .i64 r)) λ r=>[])/\(∀ N (a0:List Wv) (a1:Int),OK (QfW N a0 a1) 242 [.isl 108 4 (a0.map XF),.v (.int .i64 a1)] [] (λ r=>.v (.int .i64 r)) λ r=>[]):=by
 refine ⟨λ N _=>rn Tryz.f31 [.tmp 2] [] 174 (by kernel_rfl) ?_,λ N _ _ _=>rn Tryz.f259 [.tmp 6,.tmp 7] [] 41 (by kernel_rfl) ?_,λ N _ _=>rn Tryz.f200 [.cell 4 35,.tmp 5,.tmp 6,.tmp 7] [] 69 (by kernel_rfl) ?_,λ N _=>rn Tryz.f89 [.tmp 4] [] 19 (by kernel_rfl) ?_,λ N _ _=>rn Tryz.f57 [.tmp 4] [] 22 (by kernel_rfl) ?_,λ N _ _=>rn Tryz.f303 [.tmp 4,.tmp 5] [] 49 (by kernel_rfl) ?_,λ N _=>rn Tryz.f146 [.tmp 4] [] 19 (by kernel_rfl) ?_,λ N _ _=>rn Tryz.f242 [.tmp 4] [] 23 (by kernel_rfl) ?_⟩<;>(rintro _ hw r hr C _ rfl hwf hf;simp only[Tryz.f31,Tryz.f259,Tryz.f200,Tryz.f89,Tryz.f57,Tryz.f303,Tryz.f146,Tryz.f242,Option.get!];(first|rw[QbV] at hr|rw[QbX] at hr|rw[Qce] at hr|rw[QaF] at hr|rw[QdI] at hr|rw[Qf6] at hr|rw[Qag] at hr|rw[QfW] at hr);repeat' first
 |(refine El.el hr ?_;intro hr)
 |(with_reducible intro h;refine XB hr h ?_;intro hr)
 |with_reducible intro _
 |(refine Xn hr ?_;rintro rfl;have hr:=hk;clear hk)
 |simp only[go_sem,simprocAttr,E,hl3,XU,ZB,Jn,Z8,V3,V4]
 |(with_reducible first|apply Xk|apply Xj|apply Xp|apply Xr|apply Xs)
 |((first|with_reducible refine Yk hr (by assumption) ?_ ?_|(with_reducible refine Yf hr ?_ ?_;rotate_left;intro p;rotate_right));(·simp only[go_sem,simprocAttr]);intro hp hn hd hr;(try have hl3:=hd _ e3);(try simp only[go_sem,simprocAttr] at hl3);(try have XU:=hd _ e71);(try simp only[go_sem,simprocAttr] at XU);(try have ZB:=hd _ e88);(try simp only[go_sem,simprocAttr] at ZB);(try have Jn:=hd _ e90);(try simp only[go_sem,simprocAttr] at Jn);(try have Z8:=hd _ e92);(try simp only[go_sem,simprocAttr] at Z8);(try have V3:=hd _ KK);(try simp only[go_sem,simprocAttr] at V3);(try have V4:=hd _ Xcl);(try simp only[go_sem,simprocAttr] at V4))
 |(refine Xq ?_ ?_;·first|assumption|omega)
 |(with_reducible first|refine CallX.c ?_ _|refine OK.c hr hw ?_ (λ y hr=>?_) _|refine Oe hr hw ?_ (λ y hr=>?_) _)
 |(with_reducible refine Xf (I:=QiK N _) hr 1000 N (λ ex hq hk=>⟨_,ex,hq,hk,?_⟩) ?_ _;rotate_left;clear hr;(try clear E);rintro n1 st ⟨v1,ex,hr,hk,⟨_,E⟩⟩<;>(obtain _|n1:=n1<;>rw[Qdc] at hr))
 |refine ⟨_,WD _,_,_,hr,hk,?_⟩
 |(with_reducible refine Xf (I:=QiL N _) hr 1000 N (λ ex hq hk=>⟨_,_,ex,hq,hk,?_⟩) ?_ _;rotate_left;clear hr;(try clear E);rintro n2 st ⟨v5,v6,ex,hr,hk,⟨_,E⟩⟩<;>(obtain _|n2:=n2<;>rw[Qaj] at hr))
 |refine ⟨_,WD _,_,_,_,hr,hk,?_⟩
 |(with_reducible refine Xf (I:=QiM N _) hr 1000 N (λ ex hq hk=>⟨_,_,ex,hq,hk,?_⟩) ?_ _;rotate_left;clear hr;(try clear E);rintro n3 st ⟨v10,v11,ex,hr,hk,⟨_,E⟩⟩<;>(obtain _|n3:=n3<;>rw[Qah] at hr))
 |(with_reducible refine Xf (I:=QiN N _) hr 1000 N (λ ex hq hk=>⟨_,ex,hq,hk,?_⟩) ?_ _;rotate_left;clear hr;(try clear E);rintro n4 st ⟨v14,ex,hr,hk,⟨_,E⟩⟩<;>(obtain _|n4:=n4<;>rw[QcE] at hr))
 |(with_reducible refine Xf (I:=QiO N _ _) hr 1000 N (λ ex hq hk=>⟨_,_,ex,hq,hk,?_⟩) ?_ _;rotate_left;clear hr;(try clear E);rintro n1 st ⟨v2,v3,ex,hr,hk,⟨_,E⟩⟩<;>(obtain _|n1:=n1<;>rw[Qbv] at hr))
 |(with_reducible refine Xf (I:=Qj6 N _ _) hr 1000 N (λ ex hq hk=>⟨_,ex,hq,hk,?_⟩) ?_ _;rotate_left;clear hr;(try clear E);rintro n1 st ⟨v2,ex,hr,hk,⟨_,_,E⟩⟩<;>(obtain _|n1:=n1<;>rw[Qbs] at hr))
 |(with_reducible refine Xf (I:=Qea N _) hr 1000 N (λ ex hq hk=>⟨_,ex,hq,hk,?_⟩) ?_ _;rotate_left;clear hr;(try clear E);rintro n1 st ⟨v1,ex,hr,hk,E⟩<;>(obtain _|n1:=n1<;>rw[Qai] at hr))
 |(with_reducible refine Xf (I:=Qhr N _) hr 1000 N (λ ex hq hk=>⟨_,_,ex,hq,hk,?_⟩) ?_ _;rotate_left;clear hr;(try clear E);rintro n1 st ⟨v2,v3,ex,hr,hk,E⟩<;>(obtain _|n1:=n1<;>rw[Qbp] at hr))
 |(with_reducible refine Xf (I:=QiP N _ _) hr 1000 N (λ ex hq hk=>⟨_,_,ex,hq,hk,?_⟩) ?_ _;rotate_left;clear hr;(try clear E);rintro n1 st ⟨v1,v2,ex,hr,hk,E⟩<;>(obtain _|n1:=n1<;>rw[Qbz] at hr))
 |(with_reducible refine Xf (I:=QiQ N _) hr 1000 N (λ ex hq hk=>⟨_,_,_,ex,hq,hk,?_⟩) ?_ _;rotate_left;clear hr;(try clear E);rintro n2 st ⟨v5,v6,v7,ex,hr,hk,(⟨_,E⟩|⟨E,z0⟩)⟩<;>(try subst z0)<;>(obtain _|n2:=n2<;>rw[QbA] at hr))
 |refine ⟨_,WD _,_,_,_,_,hr,hk,?_⟩
 |(with_reducible refine Xf (I:=QdH N _) hr 1000 N (λ ex hq hk=>⟨_,ex,hq,hk,?_⟩) ?_ _;rotate_left;clear hr;(try clear E);rintro n1 st ⟨v1,ex,hr,hk,E⟩<;>(obtain _|n1:=n1<;>rw[Qaf] at hr))
 |(with_reducible refine Xf (I:=Qjz N _ _) hr 1000 N (λ ex hq hk=>⟨_,ex,hq,hk,?_⟩) ?_ _;rotate_left;clear hr;(try clear E);rintro n1 st ⟨v2,ex,hr,hk,E⟩<;>(obtain _|n1:=n1<;>rw[QdG] at hr))
 |refine db 31 27 hf 156 [(0,130046,[]),(0,129929,[]),(2,129929,[]),(0,129927,[]),(14,129921,[]),(30,129921,[]),(62,129921,[]),(0,129407,[]),(0,129279,[]),(384,129151,[]),(1023,129024,[]),(0,10239,[]),(2048,10239,[]),(0,8191,[]),(14336,2047,[]),(30720,2047,[]),(63488,2047,[]),(131071,0,[])] rfl rfl (by kernel_rfl) ?_ _
 |refine db 200 9 hf 5 [(0,4433230883192832,[]),(1,4433230883192832,[]),(0,4415638697148416,[[],[256]]),(0,404620279021569,[[],[256]]),(0,263882790666241,[[],[256]]),(24,123145302310913,[[],[256]]),(56,123145302310913,[[],[256]]),(120,123145302310913,[[],[256]]),(3,4433230883192832,[[256],[]]),(263,4362862139015168,[]),(1023,0,[]),(2047,0,[])] rfl rfl (by kernel_rfl) ?_ _
 |(refine Xn hr ?_;rintro rfl;with_reducible refine XM ?_)
 |exact Yw hr
 |((first|refine XB (c:=true) hr rfl ?_|refine XB (c:=false) hr rfl ?_|refine XB hr (by assumption) ?_);intro hr)
 |fail)
@[reducible,instance] def Qmm:=g10.1
@[reducible,instance] def Qmn:=g10.2.1
@[reducible,instance] def Qoe:=g10.2.2.1
@[reducible,instance] def Qho:=g10.2.2.2.1
@[reducible,instance] def QkM:=g10.2.2.2.2.1
@[reducible,instance] def Qmo:=g10.2.2.2.2.2.1
@[reducible,instance] def QgX:=g10.2.2.2.2.2.2.1
@[reducible,instance] def Qnn:=g10.2.2.2.2.2.2.2
end Go.Sx
