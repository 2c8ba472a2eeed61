import Derived.Test.YtbikeogjhdcfmaaGreatVF
import Derived.Test.YtbikeogjhdcfmaaGreatVG0
import Derived.Test.YtbikeogjhdcfmaaGreatVG1
import Derived.Test.YtbikeogjhdcfmaaGreatVG2
import Derived.Test.YtbikeogjhdcfmaaGreatVG3
import Derived.Test.YtbikeogjhdcfmaaGreatVG4
import Derived.Test.YtbikeogjhdcfmaaGreatVG5
set_option linter.all false
namespace Go.Sx
open Go.Proofs
set_option maxRecDepth 10000
set_option maxHeartbeats 100000000
theorem g11:(∀ N (a0:WQ),OK (QgW N a0) 4 [.agg (e23 a0)] [] (λ r=>.tup [.agg (e38 r.1),.v (.int .i64 r.2)]) λ r=>[])/\(∀ N (a0:List Int) (a1:Int),OK (Qa3 N a0 a1) 152 [.isl 71 1 (a0.map e71),.v (.int .u64 a1)] [] (λ r=>.tup [.v (.int .u64 r.1),.v (.int .i64 r.2)]) λ r=>[])/\(∀ N (a0:List Int) (a1:Int) (a2:Int),OK (Qdn N a0 a1 a2) 261 [.isl 71 1 (a0.map e71),.v (.int .u64 a1),.v (.int .u64 a2)] [] (λ r=>.tup [.isl 71 1 (r.1.map e71),.v (.int .i64 r.2)]) λ r=>[])/\(∀ N (a0:Ww) (a1:Int),OK (QdS N a0 a1) 191 [.agg (e32 a0),.v (.int .u64 a1)] [] (λ r=>.tup [.agg (e32 r.1),.v (.int .i64 r.2.1),.v (.int .i64 r.2.2.1),.v (.int .i64 r.2.2.2)]) λ r=>[])/\(∀ N (a0:Ww) (a1:Int) (a2:Int),OK (Qen N a0 a1 a2) 214 [.agg (e32 a0),.v (.int .i64 a1),.v (.int .i64 a2)] [] (λ r=>.tup [.v (.int .u64 r.1),.v (.int .i64 r.2)]) λ r=>[])/\(∀ N (a0:Ww),OK (Qeo N a0) 139 [.agg (e32 a0)] [] (λ r=>.tup [.agg (e32 r.1),.v (.int .i64 r.2)]) λ r=>[])/\(∀ N (a0:Iv) (a1:UU),OK (QcH N a0 a1) 47 [.agg (e61 a0),.ept 1000000 0 2 0 0] [.arr true 66 2 [[.isl 3 1 (a1.L.map e3),.v (.int .i64 a1.at_)]] 0] (λ r=>.agg (e97 r.1)) λ r=>[.arr true 66 2 [[.isl 3 1 (r.2.L.map e3),.v (.int .i64 r.2.at_)]] 0])/\(∀ N (a0:List (List Int)),OK (QfM N a0) 29 [.isl 24 1 (a0.map e24)] [] (λ r=>.isl 71 1 (r.map e71)) λ r=>[])/\(∀ N (a0:Wz),OK (Qb5 N a0) 104 [.agg (e82 a0)] [] (λ r=>.v (.int .i64 r)) λ r=>[])/\(∀ N (a0:Wz) (a1:Int),OK (QeH N a0 a1) 274 [.agg (e82 a0),.v (.int .i64 a1)] [] (λ r=>.v (.bool r)) λ r=>[])/\(∀ N (a0:List Wv) (a1:Int) (a2:Int),OK (QfU N a0 a1 a2) 164 [.isl 108 4 (a0.map XF),.v (.int .i64 a1),.v (.int .i64 a2)] [] (λ r=>.tup [.fsl 108 4 (r.1.map XF),.v (.int .i64 r.2)]) λ r=>[]):=by
 refine ⟨λ N _=>rn Tryz.f4 [.cell 2 38,.tmp 3] [] 17 (by kernel_rfl) ?_,λ N _ _=>rn Tryz.f152 [.tmp 4,.tmp 5] [] 21 (by kernel_rfl) ?_,λ N _ _ _=>rn Tryz.f261 [.tmp 6,.tmp 7] [] 15 (by kernel_rfl) ?_,λ N _ _=>rn Tryz.f191 [.cell 4 32,.tmp 5,.tmp 6,.tmp 7] [] 79 (by kernel_rfl) ?_,λ N _ _ _=>rn Tryz.f214 [.tmp 6,.tmp 7] [] 58 (by kernel_rfl) ?_,λ N _=>rn Tryz.f139 [.cell 2 32,.tmp 3] [] 28 (by kernel_rfl) ?_,λ N _ _=>rn Tryz.f47 [.cell 4 97] [] 79 (by kernel_rfl) ?_,λ N _=>rn Tryz.f29 [.tmp 2] [] 5 (by kernel_rfl) ?_,λ N _=>rn Tryz.f104 [.tmp 2] [] 9 (by kernel_rfl) ?_,λ N _ _=>rn Tryz.f274 [.tmp 4] [] 34 (by kernel_rfl) ?_,λ N _ _ _=>rn Tryz.f164 [.tmp 6,.tmp 7] [1152] 21 (by kernel_rfl) ?_⟩<;>(rintro _ hw r hr C _ rfl hwf hf;simp only[Tryz.f4,Tryz.f152,Tryz.f261,Tryz.f191,Tryz.f214,Tryz.f139,Tryz.f47,Tryz.f29,Tryz.f104,Tryz.f274,Tryz.f164,Option.get!];(first|rw[QgW] at hr|rw[Qa3] at hr|rw[Qdn] at hr|rw[QdS] at hr|rw[Qen] at hr|rw[Qeo] at hr|rw[QcH] at hr|rw[QfM] at hr|rw[Qb5] at hr|rw[QeH] at hr|rw[QfU] at hr);repeat' first
 |(refine El.el hr ?_;intro hr)
 |(with_reducible intro h;refine XB hr h ?_;intro hr)
 |with_reducible intro _
 |simp only[go_sem,simprocAttr,hl3,XU,ZB,Jn]
 |(with_reducible first|apply Xk|apply Xj|apply Xp|apply Xr|apply Xs)
 |((first|with_reducible refine Yk hr (by assumption) ?_ ?_|(with_reducible refine Yf hr ?_ ?_;rotate_left;intro p;rotate_right));(·simp only[go_sem,simprocAttr]);intro hp hn hd hr;(try have hl3:=hd _ e3);(try simp only[go_sem,simprocAttr] at hl3);(try have XU:=hd _ e71);(try simp only[go_sem,simprocAttr] at XU);(try have ZB:=hd _ e88);(try simp only[go_sem,simprocAttr] at ZB);(try have Jn:=hd _ e90);(try simp only[go_sem,simprocAttr] at Jn))
 |(refine Xq ?_ ?_;·first|assumption|omega)
 |(with_reducible first|refine CallX.c ?_ _|refine OK.c hr hw ?_ (λ y hr=>?_) _|refine Oe hr hw ?_ (λ y hr=>?_) _)
 |refine db 191 6 hf 25 [(0,522238,[]),(0,522009,[]),(2,522009,[]),(0,521991,[]),(8,521991,[]),(30,521985,[]),(62,521985,[]),(126,521985,[]),(0,520447,[]),(256,520447,[]),(768,520447,[]),(2047,520192,[]),(0,53247,[]),(4096,53247,[]),(0,16383,[]),(16384,16383,[]),(61440,4095,[]),(126976,4095,[]),(258048,4095,[]),(524287,0,[])] rfl rfl (by kernel_rfl) ?_ _
 |refine db 191 10 hf 9 [(0,527765581332480,[]),(1,527765581332480,[]),(3,527765581332480,[]),(0,30786325577729,[]),(8,30786325577729,[]),(24,30786325577729,[]),(56,30786325577729,[]),(7,527765581332480,[]),(255,0,[])] rfl rfl (by kernel_rfl) ?_ _
 |(refine Xn hr ?_;rintro rfl;with_reducible refine XM ?_)
 |exact Yw hr
 |fail)
@[reducible,instance] def QoL:=g11.1
@[reducible,instance] def Qnu:=g11.2.1
@[reducible,instance] def Qmy:=g11.2.2.1
@[reducible,instance] def Qom:=g11.2.2.2.1
@[reducible,instance] def Qon:=g11.2.2.2.2.1
@[reducible,instance] def Qoo:=g11.2.2.2.2.2.1
@[reducible,instance] def Qla:=g11.2.2.2.2.2.2.1
@[reducible,instance] def Qnv:=g11.2.2.2.2.2.2.2.1
@[reducible,instance] def Qmz:=g11.2.2.2.2.2.2.2.2.1
@[reducible,instance] def Qlb:=g11.2.2.2.2.2.2.2.2.2.1
@[reducible,instance] def Qnw:=g11.2.2.2.2.2.2.2.2.2.2
abbrev QjC:=λ N (a0:WQ) (a1:Int) (Q:(Ex Int Unit)→Prop) n (st:St)=>∃ (v3:Int) (ex:_),Qcp N a0 a1 n v3=some ex/\Q ex/\((∃ w128,st.n=28/\st.t 1=.v (.int .i64 a1)/\st.t 2=.ept 128 w128 2 0 0/\st.t 5=.v (.int .i64 v3)/\st.s 128=some (w128,.arr true 23 2 [e23 a0] 0)))
abbrev QjD:=λ N (a0:Ww) (Q:(List Int)→Prop) n (st:St)=>∃ (v1:Int) (v2:List Int) (ex:_),Qbd N a0 n v1 v2=some ex/\Q ex/\((∃ w1920 w64,st.n=32/\st.s 1920=some (w1920,.arr false 71 1 (v2.map e71) 0)/\st.t 1=.ept 64 w64 3 0 0/\st.t 3=.osl 1920 w1920 1 0 v2.length/\st.t 4=.v (.int .i64 v1)/\st.s 64=some (w64,.arr true 32 3 [e32 a0] 0))\/(∃ w64,(st.n=32/\st.t 1=.ept 64 w64 3 0 0/\st.t 3=.nsl/\st.t 4=.v (.int .i64 v1)/\st.s 64=some (w64,.arr true 32 3 [e32 a0] 0))/\v2=[]))
abbrev QhM:=λ N (a0:Wz) (Q:(List Int)→Prop) n (st:St)=>∃ (v1:Int) (v2:List Int) (ex:_),QbC N a0 n v1 v2=some ex/\Q ex/\((∃ w1344 w64,st.n=23/\st.s 1344=some (w1344,.arr false 3 1 (v2.map e3) 0)/\st.t 1=.ept 64 w64 3 0 0/\st.t 3=.osl 1344 w1344 1 0 v2.length/\st.t 4=.v (.int .i64 v1)/\st.s 64=some (w64,.arr true 82 3 [e82 a0] 0))\/(∃ w64,(st.n=23/\st.t 1=.ept 64 w64 3 0 0/\st.t 3=.nsl/\st.t 4=.v (.int .i64 v1)/\st.s 64=some (w64,.arr true 82 3 [e82 a0] 0))/\v2=[]))
abbrev QjE:=λ N (a1:List Int) (Q:(List Ua)→Prop) n (st:St)=>∃ (v3:Int) (v4:Int) (v5:List Ua) (ex:_),QaZ N a1 n v3 v4 v5=some ex/\Q ex/\((∃ w1344 w256,st.n=48/\st.s 1344=some (w1344,.arr false 92 3 (v5.map e92) 0)/\st.t 1=.isl 71 1 (a1.map e71)/\st.t 4=.ept 256 w256 1 0 0/\st.t 6=.osl 1344 w1344 3 0 v5.length/\st.t 7=.v (.int .i64 v3)/\st.t 8=.v (.int .i64 v4)/\st.s 256=some (w256,.arr true 35 1 [[.nsl]] 0)))
abbrev QjF:=λ N (a0:Ii) (Q:(List Int)→Prop) n (st:St)=>∃ (v1:Int) (v2:List Int) (ex:_),QdA N a0 n v1 v2=some ex/\Q ex/\((∃ w1472 w64,st.n=25/\st.s 1472=some (w1472,.arr false 71 1 (v2.map e71) 0)/\st.t 1=.ept 64 w64 4 0 0/\st.t 3=.osl 1472 w1472 1 0 v2.length/\st.t 4=.v (.int .i64 v1)/\st.s 64=some (w64,.arr true 205 4 [Xat a0] 0))\/(∃ w64,(st.n=25/\st.t 1=.ept 64 w64 4 0 0/\st.t 3=.nsl/\st.t 4=.v (.int .i64 v1)/\st.s 64=some (w64,.arr true 205 4 [Xat a0] 0))/\v2=[]))
abbrev Qfn:=λ N (a0:List Int) (a1:Int) (Q:Int→Prop) n (st:St)=>∃ (v1:Int) (v2:Int) (ex:_),Qan N a0 a1 n v1 v2=some ex/\Q ex/\((st.n=54/\st.t 0=.isl 71 1 (a0.map e71)/\st.t 1=.v (.int .u64 a1)/\st.t 6=.v (.int .i64 ((a0.length:Nat):Int))/\st.t 7=.v (.int .i64 v1)/\st.t 8=.v (.int .i64 v2)))
abbrev Qj7:=λ N (a0:List Im) (Q:(Ex (Int × Int) Unit)→Prop) n (st:St)=>∃ (v1:Int) (v2:Int) (ex:_),Qcn N a0 n v1 v2=some ex/\Q ex/\((st.n=55/\st.t 0=.isl 324 2 (a0.map Xiz)/\st.t 4=.v (.int .i64 v1)/\st.t 11=.isl 324 2 (a0.map Xiz)/\st.t 12=.v (.int .i64 ((a0.length:Nat):Int))/\st.t 13=.v (.int .i64 v2)))
abbrev Qj8:=λ N (a0:List Im) (Q:(Ex (Int × Int) Int)→Prop) n (st:St)=>∃ (v5:Int) (v6:Int) (v7:Int) (ex:_),Qco N a0 n v5 v6 v7=some ex/\Q ex/\((st.n=55/\st.t 7=.v (.int .u64 v5)/\st.t 8=.v (.int .i64 v6)/\st.t 31=.isl 324 2 (a0.map Xiz)/\st.t 32=.v (.int .i64 ((a0.length:Nat):Int))/\st.t 33=.v (.int .i64 v7)))
theorem g14:(∀ N (a0:WQ) (a1:Int),OK (Qei N a0 a1) 227 [.agg (e23 a0),.v (.int .i64 a1)] [] (λ r=>.v (.int .i64 r)) λ r=>[])/\(∀ N (a0:Ww),OK (Qcs N a0) 35 [.agg (e32 a0)] [] (λ r=>.isl 71 1 (r.map e71)) λ r=>[])/\(∀ N (a0:Wz),OK (QeD N a0) 298 [.agg (e82 a0)] [] (λ r=>.isl 3 1 (r.map e3)) λ r=>[])/\(∀ N (a0:WG) (a1:List Int),OK (Qcv N a0 a1) 120 [.agg (e35 a0),.isl 71 1 (a1.map e71)] [] (λ r=>.tup [.agg (e35 r.1),.v (.int .i64 r.2)]) λ r=>[])/\(∀ N (a0:Ii),OK (QfJ N a0) 187 [.agg (Xat a0)] [] (λ r=>.isl 71 1 (r.map e71)) λ r=>[])/\(∀ N (a0:List Int) (a1:Int),OK (Qas N a0 a1) 64 [.isl 71 1 (a0.map e71),.v (.int .u64 a1)] [] (λ r=>.tup [.v (.int .i64 r.1),.v (.bool r.2)]) λ r=>[])/\(∀ N (a0:List Im),OK (QgL N a0) 245 [.isl 324 2 (a0.map Xiz)] [] (λ r=>.tup [.v (.int .u64 r.1),.v (.int .i64 r.2)]) λ r=>[]):=by
 refine ⟨λ N _ _=>rn Tryz.f227 [.tmp 4] [] 28 (by kernel_rfl) ?_,λ N _=>rn Tryz.f35 [.tmp 2] [] 32 (by kernel_rfl) ?_,λ N _=>rn Tryz.f298 [.tmp 2] [] 23 (by kernel_rfl) ?_,λ N _ _=>rn Tryz.f120 [.cell 4 35,.tmp 5] [] 48 (by kernel_rfl) ?_,λ N _=>rn Tryz.f187 [.tmp 2] [] 25 (by kernel_rfl) ?_,λ N _ _=>rn Tryz.f64 [.tmp 4,.tmp 5] [] 54 (by kernel_rfl) ?_,λ N _=>rn Tryz.f245 [.tmp 2,.tmp 3] [] 55 (by kernel_rfl) ?_⟩<;>(rintro _ hw r hr C _ rfl hwf hf;simp only[Tryz.f227,Tryz.f35,Tryz.f298,Tryz.f120,Tryz.f187,Tryz.f64,Tryz.f245,Option.get!];(first|rw[Qei] at hr|rw[Qcs] at hr|rw[QeD] at hr|rw[Qcv] at hr|rw[QfJ] at hr|rw[Qas] at hr|rw[QgL] at hr);repeat' first
 |(refine El.el hr ?_;intro hr)
 |(with_reducible intro h;refine XB hr h ?_;intro hr)
 |with_reducible intro _
 |(refine Xn hr ?_;rintro rfl;have hr:=hk;clear hk)
 |simp only[go_sem,simprocAttr,E,XU,ZB,Z8,Xk7]
 |(with_reducible first|apply Xk|apply Xj|apply Xp)
 |((first|with_reducible refine Yk hr (by assumption) ?_ ?_|(with_reducible refine Yf hr ?_ ?_;rotate_left;intro p;rotate_right));(·simp only[go_sem,simprocAttr]);intro hp hn hd hr;(try have XU:=hd _ e71);(try simp only[go_sem,simprocAttr] at XU);(try have ZB:=hd _ e88);(try simp only[go_sem,simprocAttr] at ZB);(try have Z8:=hd _ e92);(try simp only[go_sem,simprocAttr] at Z8);(try have Xk7:=hd _ Xiz);(try simp only[go_sem,simprocAttr] at Xk7))
 |(refine Xq ?_ ?_;·first|assumption|omega)
 |(with_reducible first|refine CallX.c ?_ _|refine OK.c hr hw ?_ (λ y hr=>?_) _)
 |(with_reducible refine Xf (I:=QjC N _ _) hr 1000 N (λ ex hq hk=>⟨_,ex,hq,hk,?_⟩) ?_ _;rotate_left;clear hr;(try clear E);rintro n1 st ⟨v3,ex,hr,hk,⟨_,E⟩⟩<;>(obtain _|n1:=n1<;>rw[Qcp] at hr))
 |refine ⟨_,WD _,_,_,hr,hk,?_⟩
 |(with_reducible refine Xf (I:=QjD N _) hr 1000 N (λ ex hq hk=>⟨_,_,ex,hq,hk,?_⟩) ?_ _;rotate_left;clear hr;(try clear E);rintro n1 st ⟨v1,v2,ex,hr,hk,(⟨_,_,E⟩|⟨_,E,z0⟩)⟩<;>(try subst z0)<;>(obtain _|n1:=n1<;>rw[Qbd] at hr))
 |refine ⟨_,WD _,_,_,_,hr,hk,?_⟩
 |(with_reducible refine Xf (I:=QhM N _) hr 1000 N (λ ex hq hk=>⟨_,_,ex,hq,hk,?_⟩) ?_ _;rotate_left;clear hr;(try clear E);rintro n1 st ⟨v1,v2,ex,hr,hk,(⟨_,_,E⟩|⟨_,E,z0⟩)⟩<;>(try subst z0)<;>(obtain _|n1:=n1<;>rw[QbC] at hr))
 |(with_reducible refine Xf (I:=QjE N _) hr 1000 N (λ ex hq hk=>⟨_,_,_,ex,hq,hk,?_⟩) ?_ _;rotate_left;clear hr;(try clear E);rintro n1 st ⟨v3,v4,v5,ex,hr,hk,⟨_,_,E⟩⟩<;>(obtain _|n1:=n1<;>rw[QaZ] at hr))
 |refine ⟨_,WD _,_,_,_,_,hr,hk,?_⟩
 |(with_reducible refine Xf (I:=QjF N _) hr 1000 N (λ ex hq hk=>⟨_,_,ex,hq,hk,?_⟩) ?_ _;rotate_left;clear hr;(try clear E);rintro n1 st ⟨v1,v2,ex,hr,hk,(⟨_,_,E⟩|⟨_,E,z0⟩)⟩<;>(try subst z0)<;>(obtain _|n1:=n1<;>rw[QdA] at hr))
 |(with_reducible refine Xf (I:=Qfn N _ _) hr 1000 N (λ ex hq hk=>⟨_,_,ex,hq,hk,?_⟩) ?_ _;rotate_left;clear hr;(try clear E);rintro n1 st ⟨v1,v2,ex,hr,hk,E⟩<;>(obtain _|n1:=n1<;>rw[Qan] at hr))
 |(with_reducible refine Xf (I:=Qj7 N _) hr 1000 N (λ ex hq hk=>⟨_,_,ex,hq,hk,?_⟩) ?_ _;rotate_left;clear hr;(try clear E);rintro n1 st ⟨v1,v2,ex,hr,hk,E⟩<;>(obtain _|n1:=n1<;>rw[Qcn] at hr))
 |(with_reducible refine Xf (I:=Qj8 N _) hr 1000 N (λ ex hq hk=>⟨_,_,_,ex,hq,hk,?_⟩) ?_ _;rotate_left;clear hr;(try clear E);rintro n2 st ⟨v5,v6,v7,ex,hr,hk,E⟩<;>(obtain _|n2:=n2<;>rw[Qco] at hr))
 |(refine Xn hr ?_;rintro rfl;with_reducible refine XM ?_)
 |exact Yw hr
 |((first|refine XB (c:=true) hr rfl ?_|refine XB (c:=false) hr rfl ?_|refine XB hr (by assumption) ?_);intro hr)
 |fail)
@[reducible,instance] def Qnx:=g14.1
@[reducible,instance] def Qny:=g14.2.1
@[reducible,instance] def Qlc:=g14.2.2.1
@[reducible,instance] def Qnz:=g14.2.2.2.1
@[reducible,instance] def QnA:=g14.2.2.2.2.1
@[reducible,instance] def Qh8:=g14.2.2.2.2.2.1
@[reducible,instance] def Qop:=g14.2.2.2.2.2.2
end Go.Sx
