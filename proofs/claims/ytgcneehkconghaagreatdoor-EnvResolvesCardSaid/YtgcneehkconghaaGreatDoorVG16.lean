import Derived.Test.YtgcneehkconghaaGreatDoorVF
import Derived.Test.YtgcneehkconghaaGreatDoorVG0
import Derived.Test.YtgcneehkconghaaGreatDoorVG1
import Derived.Test.YtgcneehkconghaaGreatDoorVG3
import Derived.Test.YtgcneehkconghaaGreatDoorVG5
import Derived.Test.YtgcneehkconghaaGreatDoorVG6
import Derived.Test.YtgcneehkconghaaGreatDoorVG7
import Derived.Test.YtgcneehkconghaaGreatDoorVG8
import Derived.Test.YtgcneehkconghaaGreatDoorVG10
import Derived.Test.YtgcneehkconghaaGreatDoorVG11
import Derived.Test.YtgcneehkconghaaGreatDoorVG12
import Derived.Test.YtgcneehkconghaaGreatDoorVG14
import Derived.Test.YtgcneehkconghaaGreatDoorVG15
set_option linter.all false
namespace Go.Sx
open Go.Proofs
set_option maxRecDepth 10000
set_option maxHeartbeats 100000000
theorem g22:(∀ N (a0:Wn) (a1:Int),OK (Qd2 N a0 a1) 341 [.agg (e27 a0),.v (.int .u64 a1)] [] (λ r=>.tup [.isl 39 1 (r.1.map e39),.v (.int .i64 r.2)]) λ r=>[])/\(∀ N (a0:Wn) (a1:Int) (a2:Int),OK (Qbp N a0 a1 a2) 198 [.agg (e27 a0),.v (.int .u64 a1),.v (.int .i64 a2)] [] (λ r=>.tup [.v (.int .u64 r.1),.v (.int .i64 r.2)]) λ r=>[])/\(∀ N (a0:WM) (a1:Int) (a2:Int) (a3:Int) (a4:Int),OK (Qfp N a0 a1 a2 a3 a4) 208 [.agg (e43 a0),.v (.int .i64 a1),.v (.int .u64 a2),.v (.int .u64 a3),.v (.int .u64 a4)] [] (λ r=>.v (.int .i64 r)) λ r=>[])/\(∀ N (a0:WM) (a1:Int) (a2:Int),OK (QfU N a0 a1 a2) 210 [.agg (e43 a0),.v (.int .i64 a1),.v (.int .u64 a2)] [] (λ r=>.v (.int .i64 r)) λ r=>[])/\(∀ N (a0:WM) (a1:Int) (a2:Int) (a3:Bool),OK (Qga N a0 a1 a2 a3) 212 [.agg (e43 a0),.v (.int .i64 a1),.v (.int .u64 a2),.v (.bool a3)] [] (λ r=>.v (.int .i64 r)) λ r=>[])/\(∀ N (a0:WM) (a1:Int) (a2:Int) (a3:Int),OK (QfV N a0 a1 a2 a3) 213 [.agg (e43 a0),.v (.int .i64 a1),.v (.int .u64 a2),.v (.int .u64 a3)] [] (λ r=>.v (.int .i64 r)) λ r=>[])/\(∀ N (a0:Wn) (a1:Int),OK (QeK N a0 a1) 316 [.agg (e27 a0),.v (.int .u64 a1)] [] (λ r=>.tup [.agg (e80 r.1),.v (.int .i64 r.2)]) λ r=>[])/\(∀ N (a0:Wn) (a1:Int) (a2:Wy),OK (Qfe N a0 a1 a2) 156 [.agg (e27 a0),.v (.int .u64 a1),.agg (e80 a2)] [] (λ r=>.tup [.agg (e27 r.1),.v (.int .i64 r.2)]) λ r=>[]):=by
 refine ⟨λ N _ _=>rn Tryz.f341 [.tmp 4,.tmp 5] [] 26 (by kernel_rfl) ?_,λ N _ _ _=>rn Tryz.f198 [.tmp 6,.tmp 7] [] 37 (by kernel_rfl) ?_,λ N _ _ _ _ _=>rn Tryz.f208 [.tmp 10] [] 68 (by kernel_rfl) ?_,λ N _ _ _=>rn Tryz.f210 [.tmp 6] [] 34 (by kernel_rfl) ?_,λ N _ _ _ _=>rn Tryz.f212 [.tmp 8] [] 52 (by kernel_rfl) ?_,λ N _ _ _ _=>rn Tryz.f213 [.tmp 8] [] 48 (by kernel_rfl) ?_,λ N _ _=>rn Tryz.f316 [.cell 4 80,.tmp 5] [] 79 (by kernel_rfl) ?_,λ N _ _ _=>rn Tryz.f156 [.cell 6 27,.tmp 7] [] 45 (by kernel_rfl) ?_⟩<;>(rintro _ hw r hr C _ rfl hwf hf;simp only[Tryz.f341,Tryz.f198,Tryz.f208,Tryz.f210,Tryz.f212,Tryz.f213,Tryz.f316,Tryz.f156,Option.get!];(first|rw[Qd2] at hr|rw[Qbp] at hr|rw[Qfp] at hr|rw[QfU] at hr|rw[Qga] at hr|rw[QfV] at hr|rw[QeK] at hr|rw[Qfe] at hr);repeat' first
 |(refine El.el hr ?_;intro hr)
 |(with_reducible intro h;refine XA hr h ?_;intro hr)
 |with_reducible intro _
 |simp only[go_sem,simprocAttr,XR,Z5,XK,Kb]
 |(with_reducible first|apply Xk|apply Xj|apply Xo|apply Xt|apply Xu)
 |((first|with_reducible refine Ym hr (by assumption) ?_ ?_|(with_reducible refine Yi hr ?_ ?_;rotate_left;intro p;rotate_right));(·simp only[go_sem,simprocAttr]);intro hp hn hd hr;(try have XR:=hd _ e39);(try simp only[go_sem,simprocAttr] at XR);(try have Z5:=hd _ XaB);(try simp only[go_sem,simprocAttr] at Z5);(try have XK:=hd _ XG);(try simp only[go_sem,simprocAttr] at XK);(try have Kb:=hd _ Xcw);(try simp only[go_sem,simprocAttr] at Kb))
 |(refine Xp ?_ ?_;·first|assumption|omega)
 |(with_reducible refine Xgw hr ?_ ?_;(·simp only[go_sem]);intro p hp hn hd hr;(try have XR:=hd _ e39);(try simp only[go_sem,simprocAttr] at XR);(try have Z5:=hd _ XaB);(try simp only[go_sem,simprocAttr] at Z5);(try have XK:=hd _ XG);(try simp only[go_sem,simprocAttr] at XK);(try have Kb:=hd _ Xcw);(try simp only[go_sem,simprocAttr] at Kb);(try simp only[WC] at hn))
 |(with_reducible first|refine CallX.c ?_ _|refine OK.c hr hw ?_ (λ y hr=>?_) _|refine Og hr hw ?_ (λ y hr=>?_) _)
 |refine db 208 11 hf 51 [(0,124,[]),(1,124,[]),(0,19,[]),(4,19,[]),(0,15,[]),(28,3,[]),(60,3,[]),(127,0,[]),(255,0,[])] rfl rfl (by kernel_rfl) ?_ _
 |(refine Xn hr ?_;rintro rfl;with_reducible refine XM ?_)
 |exact Yw hr
 |fail)
@[reducible,instance] def QlQ:=g22.1
@[reducible,instance] def QmB:=g22.2.1
@[reducible,instance] def QlR:=g22.2.2.1
@[reducible,instance] def QmC:=g22.2.2.2.1
@[reducible,instance] def QnF:=g22.2.2.2.2.1
@[reducible,instance] def QmD:=g22.2.2.2.2.2.1
@[reducible,instance] def Qog:=g22.2.2.2.2.2.2.1
@[reducible,instance] def QmE:=g22.2.2.2.2.2.2.2
abbrev Qjz:=λ N (a0:Wn) (a1:Int) (y3:List Bool) (Q:(Ex Int Unit)→Prop) n (st:St)=>∃ (v4:Int) (ex:_),QbT N a0 a1 y3 n v4=some ex/\Q ex/\((∃ w128,st.n=43/\st.t 1=.v (.int .i64 a1)/\st.t 2=.ept 128 w128 6 0 0/\st.t 7=.isl 4 1 (y3.map e4)/\st.t 8=.v (.int .i64 v4)/\st.s 128=some (w128,.arr true 27 6 [e27 a0] 0)))
abbrev Qh9:=λ N (a0:Wn) (Q:(Ex (List Int × Int) (List Int))→Prop) n (st:St)=>∃ (v2:Int) (v3:List Int) (ex:_),QaR N a0 n v2 v3=some ex/\Q ex/\((∃ w1856 w64,st.n=31/\st.s 1856=some (w1856,.arr false 39 1 (v3.map e39) 0)/\st.t 1=.ept 64 w64 6 0 0/\st.t 4=.osl 1856 w1856 1 0 v3.length/\st.t 5=.v (.int .i64 v2)/\st.s 64=some (w64,.arr true 27 6 [e27 a0] 0))\/(∃ w64,(st.n=31/\st.t 1=.ept 64 w64 6 0 0/\st.t 4=.nsl/\st.t 5=.v (.int .i64 v2)/\st.s 64=some (w64,.arr true 27 6 [e27 a0] 0))/\v3=[]))
theorem g23:(∀ N (a0:Wn) (a1:Int),OK (Qej N a0 a1) 340 [.agg (e27 a0),.v (.int .i64 a1)] [] (λ r=>.v (.int .u64 r)) λ r=>[])/\(∀ N (a0:Wn),OK (QcL N a0) 232 [.agg (e27 a0)] [] (λ r=>.tup [.isl 39 1 (r.1.map e39),.v (.int .i64 r.2)]) λ r=>[]):=by
 refine ⟨λ N _ _=>rn Tryz.f340 [.tmp 4] [] 43 (by kernel_rfl) ?_,λ N _=>rn Tryz.f232 [.tmp 2,.tmp 3] [] 31 (by kernel_rfl) ?_⟩<;>(rintro _ hw r hr C _ rfl hwf hf;simp only[Tryz.f340,Tryz.f232,Option.get!];(first|rw[Qej] at hr|rw[QcL] at hr);repeat' first
 |(refine El.el hr ?_;intro hr)
 |(with_reducible intro h;refine XA hr h ?_;intro hr)
 |with_reducible intro _
 |(refine Xn hr ?_;rintro rfl;have hr:=hk;clear hk)
 |simp only[go_sem,simprocAttr,E,hl4]
 |(with_reducible first|apply Xk|apply Xj|apply Xo|apply Xt|apply Xu)
 |((first|with_reducible refine Ym hr (by assumption) ?_ ?_|(with_reducible refine Yi hr ?_ ?_;rotate_left;intro p;rotate_right));(·simp only[go_sem,simprocAttr]);intro hp hn hd hr;(try have hl4:=hd _ e4);(try simp only[go_sem,simprocAttr] at hl4))
 |(refine Xp ?_ ?_;·first|assumption|omega)
 |(with_reducible first|refine CallX.c ?_ _|refine OK.c hr hw ?_ (λ y hr=>?_) _|refine Og hr hw ?_ (λ y hr=>?_) _)
 |(with_reducible refine Xf (I:=Qjz N _ _ _) hr 1000 N (λ ex hq hk=>⟨_,ex,hq,hk,?_⟩) ?_ _;rotate_left;clear hr;(try clear E);rintro n1 st ⟨v4,ex,hr,hk,⟨_,E⟩⟩<;>(obtain _|n1:=n1<;>rw[QbT] at hr))
 |refine ⟨_,WD _,_,_,hr,hk,?_⟩
 |(with_reducible refine Xf (I:=Qh9 N _) hr 1000 N (λ ex hq hk=>⟨_,_,ex,hq,hk,?_⟩) ?_ _;rotate_left;clear hr;(try clear E);rintro n1 st ⟨v2,v3,ex,hr,hk,(⟨_,_,E⟩|⟨_,E,z0⟩)⟩<;>(try subst z0)<;>(obtain _|n1:=n1<;>rw[QaR] at hr))
 |refine ⟨_,WD _,_,_,_,hr,hk,?_⟩
 |refine db 340 1 hf 5 [(0,448,[]),(0,160,[]),(0,96,[]),(6,32,[]),(15,0,[]),(31,0,[]),(63,2048,[]),(63,1025,[]),(127,2048,[]),(511,0,[])] rfl rfl (by kernel_rfl) ?_ _
 |(refine Xn hr ?_;rintro rfl;with_reducible refine XM ?_)
 |exact Yw hr
 |((first|refine XA (c:=true) hr rfl ?_|refine XA (c:=false) hr rfl ?_|refine XA hr (by assumption) ?_);intro hr)
 |fail)
@[reducible,instance] def QnG:=g23.1
@[reducible,instance] def QlS:=g23.2
end Go.Sx
