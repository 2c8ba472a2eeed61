import Derived.Test.YtgcneehkconghaaGreatDoorVF
import Derived.Test.YtgcneehkconghaaGreatDoorVG6
import Derived.Test.YtgcneehkconghaaGreatDoorVG8
import Derived.Test.YtgcneehkconghaaGreatDoorVG12
import Derived.Test.YtgcneehkconghaaGreatDoorVG16
set_option linter.all false
namespace Go.Sx
open Go.Proofs
set_option maxRecDepth 10000
set_option maxHeartbeats 100000000
abbrev QhU:=λ N (a0:Wn) (y1:List Int × Int) (Q:(List Int)→Prop) n (st:St)=>∃ (v2:Int) (v3:List Int) (ex:_),QaA N a0 y1 n v2 v3=some ex/\Q ex/\((∃ w2496 w64,st.n=42/\st.s 2496=some (w2496,.arr false 39 1 (v3.map e39) 0)/\st.t 1=.ept 64 w64 6 0 0/\st.t 4=.isl 39 1 (y1.1.map e39)/\st.t 5=.v (.int .i64 y1.2)/\st.t 6=.osl 2496 w2496 1 0 v3.length/\st.t 7=.v (.int .i64 v2)/\st.s 64=some (w64,.arr true 27 6 [e27 a0] 0))\/(∃ w64,(st.n=42/\st.t 1=.ept 64 w64 6 0 0/\st.t 4=.isl 39 1 (y1.1.map e39)/\st.t 5=.v (.int .i64 y1.2)/\st.t 6=.nsl/\st.t 7=.v (.int .i64 v2)/\st.s 64=some (w64,.arr true 27 6 [e27 a0] 0))/\v3=[]))
abbrev QiQ:=λ N (a0:Wn) (a1:Int) (a2:List Int) (Q:(Ex (Int × Bool) Unit)→Prop) n (st:St)=>∃ (v1:Int) (ex:_),Qca N a0 a1 a2 n v1=some ex/\Q ex/\((∃ w192,st.n=58/\st.t 1=.v (.int .i64 a1)/\st.t 3=.ept 192 w192 6 0 0/\st.t 13=.isl 39 1 (a2.map e39)/\st.t 14=.v (.int .i64 ((a2.length:Nat):Int))/\st.t 15=.v (.int .i64 v1)/\st.s 192=some (w192,.arr true 27 6 [e27 a0] 0)))
theorem g25:(∀ N (a0:Wn),OK (Qav N a0) 142 [.agg (e27 a0)] [] (λ r=>.tup [.isl 39 1 (r.1.map e39),.v (.int .i64 r.2)]) λ r=>[])/\(∀ N (a0:Wn) (a1:Int) (a2:List Int),OK (Qfc N a0 a1 a2) 335 [.agg (e27 a0),.v (.int .i64 a1),.isl 39 1 (a2.map e39)] [] (λ r=>.tup [.v (.int .u64 r.1),.v (.bool r.2)]) λ r=>[]):=by
 refine ⟨λ N _=>rn Tryz.f142 [.tmp 2,.tmp 3] [] 42 (by kernel_rfl) ?_,λ N _ _ _=>rn Tryz.f335 [.tmp 6,.tmp 7] [] 58 (by kernel_rfl) ?_⟩<;>(rintro _ hw r hr C _ rfl hwf hf;simp only[Tryz.f142,Tryz.f335,Option.get!];(first|rw[Qav] at hr|rw[Qfc] at hr);repeat' first
 |(refine El.el hr ?_;intro hr)
 |(with_reducible intro h;refine XA hr h ?_;intro hr)
 |with_reducible intro _
 |(refine Xn hr ?_;rintro rfl;have hr:=hk;clear hk)
 |simp only[go_sem,simprocAttr,E,XR,XK]
 |(with_reducible first|apply Xk|apply Xj|apply Xo|apply Xt|apply Xu)
 |((first|with_reducible refine Ym hr (by assumption) ?_ ?_|(with_reducible refine Yi hr ?_ ?_;rotate_left;intro p;rotate_right));(·simp only[go_sem,simprocAttr]);intro hp hn hd hr;(try have XR:=hd _ e39);(try simp only[go_sem,simprocAttr] at XR);(try have XK:=hd _ XG);(try simp only[go_sem,simprocAttr] at XK))
 |(refine Xp ?_ ?_;·first|assumption|omega)
 |(with_reducible first|refine CallX.c ?_ _|refine OK.c hr hw ?_ (λ y hr=>?_) _|refine Og hr hw ?_ (λ y hr=>?_) _)
 |(with_reducible refine Xf (I:=QhU N _ _) hr 1000 N (λ ex hq hk=>⟨_,_,ex,hq,hk,?_⟩) ?_ _;rotate_left;clear hr;(try clear E);rintro n1 st ⟨v2,v3,ex,hr,hk,(⟨_,_,E⟩|⟨_,E,z0⟩)⟩<;>(try subst z0)<;>(obtain _|n1:=n1<;>rw[QaA] at hr))
 |refine ⟨_,WD _,_,_,_,hr,hk,?_⟩
 |(with_reducible refine Xf (I:=QiQ N _ _ _) hr 1000 N (λ ex hq hk=>⟨_,ex,hq,hk,?_⟩) ?_ _;rotate_left;clear hr;(try clear E);rintro n1 st ⟨v1,ex,hr,hk,⟨_,E⟩⟩<;>(obtain _|n1:=n1<;>rw[Qca] at hr))
 |refine ⟨_,WD _,_,_,hr,hk,?_⟩
 |refine db 142 6 hf 8 [(0,491521,[[],[512]]),(0,81921,[[],[512]]),(0,49153,[[],[512]]),(6,16385,[[],[512]]),(14,16385,[[],[512]]),(31,1,[[],[512]]),(63,1,[[],[512]]),(127,2097153,[[],[512]]),(127,1048577,[[],[512]]),(0,4186112,[[512],[]]),(767,2097152,[[512],[]]),(2047,0,[])] rfl rfl (by kernel_rfl) ?_ _
 |refine db 335 5 hf 25 [(0,12,[]),(1,12,[]),(0,3,[]),(4,3,[]),(15,0,[]),(31,0,[]),(63,0,[])] rfl rfl (by kernel_rfl) ?_ _
 |(refine Xn hr ?_;rintro rfl;with_reducible refine XM ?_)
 |exact Yw hr
 |((first|refine XA (c:=true) hr rfl ?_|refine XA (c:=false) hr rfl ?_|refine XA hr (by assumption) ?_);intro hr)
 |fail)
@[reducible,instance] def Qlp:=g25.1
@[reducible,instance] def QmG:=g25.2
end Go.Sx
