import Derived.Test.YtgcneehkconghaaGreatDoorBF
import Derived.Test.YtgcneehkconghaaGreatDoorBG0
import Derived.Test.YtgcneehkconghaaGreatDoorBG1
import Derived.Test.YtgcneehkconghaaGreatDoorBG2
import Derived.Test.YtgcneehkconghaaGreatDoorBG3
import Derived.Test.YtgcneehkconghaaGreatDoorBG4
import Derived.Test.YtgcneehkconghaaGreatDoorBG5
set_option linter.all false
namespace Go.Sx
open Go.Proofs
set_option maxRecDepth 10000
set_option maxHeartbeats 100000000
abbrev QjC:=λ N (a0:WX) (a1:Int) (Q:(Ex Int Unit)→Prop) n (st:St)=>∃ (v3:Int) (ex:_),Qb1 N a0 a1 n v3=some ex/\Q ex/\((∃ w128,st.n=28/\st.t 1=.v (.int .i64 a1)/\st.t 2=.ept 128 w128 2 0 0/\st.t 5=.v (.int .i64 v3)/\st.s 128=some (w128,.arr true 23 2 [e23 a0] 0)))
abbrev QjD:=λ N (a0:Wq) (Q:(List Int)→Prop) n (st:St)=>∃ (v1:Int) (v2:List Int) (ex:_),Qa8 N a0 n v1 v2=some ex/\Q ex/\((∃ w1920 w64,st.n=32/\st.s 1920=some (w1920,.arr false 39 1 (v2.map e39) 0)/\st.t 1=.ept 64 w64 3 0 0/\st.t 3=.osl 1920 w1920 1 0 v2.length/\st.t 4=.v (.int .i64 v1)/\st.s 64=some (w64,.arr true 32 3 [e32 a0] 0))\/(∃ w64,(st.n=32/\st.t 1=.ept 64 w64 3 0 0/\st.t 3=.nsl/\st.t 4=.v (.int .i64 v1)/\st.s 64=some (w64,.arr true 32 3 [e32 a0] 0))/\v2=[]))
abbrev QhK:=λ N (a0:Ww) (Q:(List Int)→Prop) n (st:St)=>∃ (v1:Int) (v2:List Int) (ex:_),Qbr N a0 n v1 v2=some ex/\Q ex/\((∃ w1344 w64,st.n=23/\st.s 1344=some (w1344,.arr false 3 1 (v2.map e3) 0)/\st.t 1=.ept 64 w64 3 0 0/\st.t 3=.osl 1344 w1344 1 0 v2.length/\st.t 4=.v (.int .i64 v1)/\st.s 64=some (w64,.arr true 80 3 [e80 a0] 0))\/(∃ w64,(st.n=23/\st.t 1=.ept 64 w64 3 0 0/\st.t 3=.nsl/\st.t 4=.v (.int .i64 v1)/\st.s 64=some (w64,.arr true 80 3 [e80 a0] 0))/\v2=[]))
abbrev QjE:=λ N (a1:List Int) (Q:(List W6)→Prop) n (st:St)=>∃ (v3:Int) (v4:Int) (v5:List W6) (ex:_),Qbj N a1 n v3 v4 v5=some ex/\Q ex/\((∃ w1344 w256,st.n=48/\st.s 1344=some (w1344,.arr false 117 3 (v5.map Ym) 0)/\st.t 1=.isl 39 1 (a1.map e39)/\st.t 4=.ept 256 w256 1 0 0/\st.t 6=.osl 1344 w1344 3 0 v5.length/\st.t 7=.v (.int .i64 v3)/\st.t 8=.v (.int .i64 v4)/\st.s 256=some (w256,.arr true 35 1 [[.nsl]] 0)))
abbrev QjF:=λ N (a0:Ie) (Q:(List Int)→Prop) n (st:St)=>∃ (v1:Int) (v2:List Int) (ex:_),Qc9 N a0 n v1 v2=some ex/\Q ex/\((∃ w1472 w64,st.n=25/\st.s 1472=some (w1472,.arr false 39 1 (v2.map e39) 0)/\st.t 1=.ept 64 w64 4 0 0/\st.t 3=.osl 1472 w1472 1 0 v2.length/\st.t 4=.v (.int .i64 v1)/\st.s 64=some (w64,.arr true 165 4 [VZ a0] 0))\/(∃ w64,(st.n=25/\st.t 1=.ept 64 w64 4 0 0/\st.t 3=.nsl/\st.t 4=.v (.int .i64 v1)/\st.s 64=some (w64,.arr true 165 4 [VZ a0] 0))/\v2=[]))
abbrev Qe9:=λ N (a0:List Int) (a1:Int) (Q:Int→Prop) n (st:St)=>∃ (v1:Int) (v2:Int) (ex:_),Qal N a0 a1 n v1 v2=some ex/\Q ex/\((st.n=54/\st.t 0=.isl 39 1 (a0.map e39)/\st.t 1=.v (.int .u64 a1)/\st.t 6=.v (.int .i64 ((a0.length:Nat):Int))/\st.t 7=.v (.int .i64 v1)/\st.t 8=.v (.int .i64 v2)))
abbrev Qj7:=λ N (a0:List IU) (Q:(Ex (Int × Int) Unit)→Prop) n (st:St)=>∃ (v1:Int) (v2:Int) (ex:_),Qgd N a0 n v1 v2=some ex/\Q ex/\((st.n=55/\st.t 0=.isl 349 2 (a0.map Xg6)/\st.t 4=.v (.int .i64 v1)/\st.t 11=.isl 349 2 (a0.map Xg6)/\st.t 12=.v (.int .i64 ((a0.length:Nat):Int))/\st.t 13=.v (.int .i64 v2)))
abbrev Qj8:=λ N (a0:List IU) (Q:(Ex (Int × Int) Int)→Prop) n (st:St)=>∃ (v5:Int) (v6:Int) (v7:Int) (ex:_),Qge N a0 n v5 v6 v7=some ex/\Q ex/\((st.n=55/\st.t 7=.v (.int .u64 v5)/\st.t 8=.v (.int .i64 v6)/\st.t 31=.isl 349 2 (a0.map Xg6)/\st.t 32=.v (.int .i64 ((a0.length:Nat):Int))/\st.t 33=.v (.int .i64 v7)))
theorem g14:(∀ N (a0:WX) (a1:Int),OK (QdZ N a0 a1) 268 [.agg (e23 a0),.v (.int .i64 a1)] [] (λ r=>.v (.int .i64 r)) λ r=>[])/\(∀ N (a0:Wq),OK (Qb5 N a0) 64 [.agg (e32 a0)] [] (λ r=>.isl 39 1 (r.map e39)) λ r=>[])/\(∀ N (a0:Ww),OK (Qes N a0) 328 [.agg (e80 a0)] [] (λ r=>.isl 3 1 (r.map e3)) λ r=>[])/\(∀ N (a0:Wy) (a1:List Int),OK (Qc1 N a0 a1) 102 [.agg (e35 a0),.isl 39 1 (a1.map e39)] [] (λ r=>.tup [.agg (e35 r.1),.v (.int .i64 r.2)]) λ r=>[])/\(∀ N (a0:Ie),OK (Qfy N a0) 190 [.agg (VZ a0)] [] (λ r=>.isl 39 1 (r.map e39)) λ r=>[])/\(∀ N (a0:List Int) (a1:Int),OK (Qaq N a0 a1) 136 [.isl 39 1 (a0.map e39),.v (.int .u64 a1)] [] (λ r=>.tup [.v (.int .i64 r.1),.v (.bool r.2)]) λ r=>[])/\(∀ N (a0:List IU),OK (Qhe N a0) 308 [.isl 349 2 (a0.map Xg6)] [] (λ r=>.tup [.v (.int .u64 r.1),.v (.int .i64 r.2)]) λ r=>[]):=by
 refine ⟨λ N _ _=>rn Tryz.f268 [.tmp 4] [] 28 (by kernel_rfl) ?_,λ N _=>rn Tryz.f64 [.tmp 2] [] 32 (by kernel_rfl) ?_,λ N _=>rn Tryz.f328 [.tmp 2] [] 23 (by kernel_rfl) ?_,λ N _ _=>rn Tryz.f102 [.cell 4 35,.tmp 5] [] 48 (by kernel_rfl) ?_,λ N _=>rn Tryz.f190 [.tmp 2] [] 25 (by kernel_rfl) ?_,λ N _ _=>rn Tryz.f136 [.tmp 4,.tmp 5] [] 54 (by kernel_rfl) ?_,λ N _=>rn Tryz.f308 [.tmp 2,.tmp 3] [] 55 (by kernel_rfl) ?_⟩<;>(rintro _ hw r hr C _ rfl hwf hf;simp only[Tryz.f268,Tryz.f64,Tryz.f328,Tryz.f102,Tryz.f190,Tryz.f136,Tryz.f308,Option.get!];(first|rw[QdZ] at hr|rw[Qb5] at hr|rw[Qes] at hr|rw[Qc1] at hr|rw[Qfy] at hr|rw[Qaq] at hr|rw[Qhe] at hr);repeat' first
 |(refine El.el hr ?_;intro hr)
 |(with_reducible intro h;refine Xw hr h ?_;intro hr)
 |with_reducible intro _
 |(refine Xn hr ?_;rintro rfl;have hr:=hk;clear hk)
 |simp only[go_sem,simprocAttr,E,XQ,Yd,Ye,Xjz]
 |(with_reducible first|apply Xg|apply Xf|apply Xo)
 |((first|with_reducible refine Yb hr (by assumption) ?_ ?_|(with_reducible refine X7 hr ?_ ?_;rotate_left;intro p;rotate_right));(·simp only[go_sem,simprocAttr]);intro hp hn hd hr;(try have XQ:=hd _ e39);(try simp only[go_sem,simprocAttr] at XQ);(try have Yd:=hd _ Zg);(try simp only[go_sem,simprocAttr] at Yd);(try have Ye:=hd _ Ym);(try simp only[go_sem,simprocAttr] at Ye);(try have Xjz:=hd _ Xg6);(try simp only[go_sem,simprocAttr] at Xjz))
 |(refine Xp ?_ ?_;·first|assumption|omega)
 |(with_reducible first|refine CallX.c ?_ _|refine OK.c hr hw ?_ (λ y hr=>?_) _)
 |(with_reducible refine Xe (I:=QjC N _ _) hr 1000 N (λ ex hq hk=>⟨_,ex,hq,hk,?_⟩) ?_ _;rotate_left;clear hr;(try clear E);rintro n1 st ⟨v3,ex,hr,hk,⟨_,E⟩⟩<;>(obtain _|n1:=n1<;>rw[Qb1] at hr))
 |refine ⟨_,WA _,_,_,hr,hk,?_⟩
 |(with_reducible refine Xe (I:=QjD N _) hr 1000 N (λ ex hq hk=>⟨_,_,ex,hq,hk,?_⟩) ?_ _;rotate_left;clear hr;(try clear E);rintro n1 st ⟨v1,v2,ex,hr,hk,(⟨_,_,E⟩|⟨_,E,z0⟩)⟩<;>(try subst z0)<;>(obtain _|n1:=n1<;>rw[Qa8] at hr))
 |refine ⟨_,WA _,_,_,_,hr,hk,?_⟩
 |(with_reducible refine Xe (I:=QhK N _) hr 1000 N (λ ex hq hk=>⟨_,_,ex,hq,hk,?_⟩) ?_ _;rotate_left;clear hr;(try clear E);rintro n1 st ⟨v1,v2,ex,hr,hk,(⟨_,_,E⟩|⟨_,E,z0⟩)⟩<;>(try subst z0)<;>(obtain _|n1:=n1<;>rw[Qbr] at hr))
 |(with_reducible refine Xe (I:=QjE N _) hr 1000 N (λ ex hq hk=>⟨_,_,_,ex,hq,hk,?_⟩) ?_ _;rotate_left;clear hr;(try clear E);rintro n1 st ⟨v3,v4,v5,ex,hr,hk,⟨_,_,E⟩⟩<;>(obtain _|n1:=n1<;>rw[Qbj] at hr))
 |refine ⟨_,WA _,_,_,_,_,hr,hk,?_⟩
 |(with_reducible refine Xe (I:=QjF N _) hr 1000 N (λ ex hq hk=>⟨_,_,ex,hq,hk,?_⟩) ?_ _;rotate_left;clear hr;(try clear E);rintro n1 st ⟨v1,v2,ex,hr,hk,(⟨_,_,E⟩|⟨_,E,z0⟩)⟩<;>(try subst z0)<;>(obtain _|n1:=n1<;>rw[Qc9] at hr))
 |(with_reducible refine Xe (I:=Qe9 N _ _) hr 1000 N (λ ex hq hk=>⟨_,_,ex,hq,hk,?_⟩) ?_ _;rotate_left;clear hr;(try clear E);rintro n1 st ⟨v1,v2,ex,hr,hk,E⟩<;>(obtain _|n1:=n1<;>rw[Qal] at hr))
 |(with_reducible refine Xe (I:=Qj7 N _) hr 1000 N (λ ex hq hk=>⟨_,_,ex,hq,hk,?_⟩) ?_ _;rotate_left;clear hr;(try clear E);rintro n1 st ⟨v1,v2,ex,hr,hk,E⟩<;>(obtain _|n1:=n1<;>rw[Qgd] at hr))
 |(with_reducible refine Xe (I:=Qj8 N _) hr 1000 N (λ ex hq hk=>⟨_,_,_,ex,hq,hk,?_⟩) ?_ _;rotate_left;clear hr;(try clear E);rintro n2 st ⟨v5,v6,v7,ex,hr,hk,E⟩<;>(obtain _|n2:=n2<;>rw[Qge] at hr))
 |(refine Xn hr ?_;rintro rfl;with_reducible refine XF ?_)
 |exact Yj hr
 |((first|refine Xw (c:=true) hr rfl ?_|refine Xw (c:=false) hr rfl ?_|refine Xw hr (by assumption) ?_);intro hr)
 |fail)
@[reducible,instance] def QnE:=g14.1
@[reducible,instance] def QnF:=g14.2.1
@[reducible,instance] def Qla:=g14.2.2.1
@[reducible,instance] def QnG:=g14.2.2.2.1
@[reducible,instance] def QnH:=g14.2.2.2.2.1
@[reducible,instance] def Qh8:=g14.2.2.2.2.2.1
@[reducible,instance] def Qos:=g14.2.2.2.2.2.2
theorem g11:(∀ N (a0:WX),OK (Qff N a0) 37 [.agg (e23 a0)] [] (λ r=>.tup [.agg (e38 r.1),.v (.int .i64 r.2)]) λ r=>[])/\(∀ N (a0:Wo) (a1:Int),OK (QeE N a0 a1) 144 [.agg (e27 a0),.v (.int .u64 a1)] [] (λ r=>.v (.int .i64 r)) λ r=>[])/\(∀ N (a0:List Int) (a1:Int) (a2:Int) (a3:Int),OK (QeF N a0 a1 a2 a3) 326 [.isl 39 1 (a0.map e39),.v (.int .u64 a1),.v (.int .u64 a2),.v (.int .i64 a3)] [] (λ r=>.tup [.isl 39 1 (r.1.map e39),.v (.int .i64 r.2)]) λ r=>[])/\(∀ N (a0:Int),OK (Qbx N a0) 24 [.v (.int .u64 a0)] [] (λ r=>.tup [.agg (e70 r.1),.v (.int .i64 r.2)]) λ r=>[])/\(∀ N (a0:Wq) (a1:Int) (a2:Bool),OK (Qfz N a0 a1 a2) 214 [.agg (e32 a0),.v (.int .i64 a1),.v (.bool a2)] [] (λ r=>.tup [.agg (e32 r.1),.v (.int .i64 r.2)]) λ r=>[])/\(∀ N (a0:WI) (a1:Int) (a2:Int) (a3:Int),OK (QeO N a0 a1 a2 a3) 122 [.agg (e43 a0),.v (.int .i64 a1),.v (.int .u64 a2),.v (.int .u64 a3)] [] (λ r=>.tup [.agg (e43 r.1),.v (.int .u64 r.2)]) λ r=>[])/\(∀ N (a0:Ww),OK (QbL N a0) 152 [.agg (e80 a0)] [] (λ r=>.v (.int .i64 r)) λ r=>[])/\(∀ N (a0:Ww) (a1:Int),OK (QdH N a0 a1) 256 [.agg (e80 a0),.v (.int .i64 a1)] [] (λ r=>.v (.bool r)) λ r=>[])/\(∀ N (a0:List W6),OK (Qay N a0) 130 [.isl 117 3 (a0.map Ym),.clo (.func 131) [] []] [] (λ r=>.v (.bool r)) λ r=>[])/\(∀ N (a0:Uh),OK (QfE N a0) 29 [.agg (e38 a0)] [] (λ r=>.agg (e38 r)) λ r=>[]):=by
 refine ⟨λ N _=>rn Tryz.f37 [.cell 2 38,.tmp 3] [] 14 (by kernel_rfl) ?_,λ N _ _=>rn Tryz.f144 [.tmp 4] [] 17 (by kernel_rfl) ?_,λ N _ _ _ _=>rn Tryz.f326 [.tmp 8,.tmp 9] [] 28 (by kernel_rfl) ?_,λ N _=>rn Tryz.f24 [.cell 2 70,.tmp 3] [] 35 (by kernel_rfl) ?_,λ N _ _ _=>rn Tryz.f214 [.cell 6 32,.tmp 7] [] 48 (by kernel_rfl) ?_,λ N _ _ _ _=>rn Tryz.f122 [.cell 8 43,.tmp 9] [] 77 (by kernel_rfl) ?_,λ N _=>rn Tryz.f152 [.tmp 2] [] 9 (by kernel_rfl) ?_,λ N _ _=>rn Tryz.f256 [.tmp 4] [] 34 (by kernel_rfl) ?_,λ N _=>rn Tryz.f130 [.tmp 4] [] 9 (by kernel_rfl) ?_,λ N _=>rn Tryz.f29 [.cell 2 38] [] 22 (by kernel_rfl) ?_⟩<;>(rintro _ hw r hr C _ rfl hwf hf;simp only[Tryz.f37,Tryz.f144,Tryz.f326,Tryz.f24,Tryz.f214,Tryz.f122,Tryz.f152,Tryz.f256,Tryz.f130,Tryz.f29,Option.get!];(first|rw[Qff] at hr|rw[QeE] at hr|rw[QeF] at hr|rw[Qbx] at hr|rw[Qfz] at hr|rw[QeO] at hr|rw[QbL] at hr|rw[QdH] at hr|rw[Qay] at hr|rw[QfE] at hr);repeat' first
 |(refine El.el hr ?_;intro hr)
 |(with_reducible intro h;refine Xw hr h ?_;intro hr)
 |with_reducible intro _
 |simp only[go_sem,simprocAttr,Ko,Wz,WM,Uv]
 |(with_reducible first|apply Xg|apply Xf|apply Xo|apply Xt|apply Xu)
 |((first|with_reducible refine Yb hr (by assumption) ?_ ?_|(with_reducible refine X7 hr ?_ ?_;rotate_left;intro p;rotate_right));(·simp only[go_sem,simprocAttr,Wz,WM,Uv]);intro hp hn hd hr;(try have Ko:=hd _ Xc4);(try simp only[go_sem,simprocAttr] at Ko))
 |(refine Xp ?_ ?_;·first|assumption|omega)
 |(with_reducible first|refine CallX.c ?_ _|refine OK.c hr hw ?_ (λ y hr=>?_) _|refine IX hr hw ?_ (λ y hr=>?_) _)
 |refine db 214 7 hf 34 [(0,2038,[[2176],[2816]]),(0,2033,[[],[2176,2816]]),(2,2033,[[],[2176,2816]]),(7,2032,[[2176],[2816]]),(0,399,[[],[2176]]),(16,399,[[],[2176]]),(48,399,[[],[2176]]),(0,383,[[],[2176]]),(0,255,[[],[2176]]),(496,15,[[],[2176]]),(1008,15,[[2816],[2176]]),(2047,0,[[2176],[]]),(4095,0,[]),(8191,0,[[192],[]])] rfl rfl (by kernel_rfl) ?_ _
 |refine db 122 6 hf 37 [(0,500,[]),(1,500,[]),(0,499,[]),(7,496,[]),(0,207,[]),(16,207,[]),(0,63,[]),(64,63,[]),(240,15,[]),(511,0,[[896],[]]),(1023,0,[]),(2047,0,[[256],[]])] rfl rfl (by kernel_rfl) ?_ _
 |refine db 122 10 hf 60 [(0,126,[]),(0,9,[[],[512]]),(2,9,[[],[512]]),(0,7,[[],[512]]),(14,1,[[],[512]]),(30,1,[[],[512]]),(62,1,[[],[512]]),(1,126,[[512],[]]),(255,0,[])] rfl rfl (by kernel_rfl) ?_ _
 |refine db 29 1 hf 3 [(0,112344,[]),(1,112344,[]),(3,112344,[]),(0,112327,[]),(8,112327,[]),(31,112320,[]),(0,112191,[]),(64,112191,[]),(255,112128,[]),(0,111103,[]),(512,111103,[]),(2047,110592,[]),(0,102399,[]),(4096,102399,[]),(16383,98304,[[1088],[]]),(0,32767,[[],[1088]]),(32768,32767,[[],[1088]]),(131071,0,[[1280],[]]),(262143,0,[]),(524287,0,[[128],[]])] rfl rfl (by kernel_rfl) ?_ _
 |(refine Xn hr ?_;rintro rfl;with_reducible refine XF ?_)
 |exact Yj hr
 |with_reducible refine Xly (λ hi=>?_) (λ hi=>?_)
 |(exfalso;omega)
 |fail)
@[reducible,instance] def Qot:=g11.1
@[reducible,instance] def QnI:=g11.2.1
@[reducible,instance] def QnJ:=g11.2.2.1
@[reducible,instance] def QlY:=g11.2.2.2.1
@[reducible,instance] def QnK:=g11.2.2.2.2.1
@[reducible,instance] def QnL:=g11.2.2.2.2.2.1
@[reducible,instance] def QmD:=g11.2.2.2.2.2.2.1
@[reducible,instance] def Qlb:=g11.2.2.2.2.2.2.2.1
@[reducible,instance] def Qhc:=g11.2.2.2.2.2.2.2.2.1
@[reducible,instance] def QnM:=g11.2.2.2.2.2.2.2.2.2
end Go.Sx
