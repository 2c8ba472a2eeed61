import Derived.Test.YtgcneehkconghaaGreatDoorBF
import Derived.Test.YtgcneehkconghaaGreatDoorBG4
import Derived.Test.YtgcneehkconghaaGreatDoorBG7
import Derived.Test.YtgcneehkconghaaGreatDoorBG8
import Derived.Test.YtgcneehkconghaaGreatDoorBG9
import Derived.Test.YtgcneehkconghaaGreatDoorBG10
import Derived.Test.YtgcneehkconghaaGreatDoorBG11
import Derived.Test.YtgcneehkconghaaGreatDoorBG13
import Derived.Test.YtgcneehkconghaaGreatDoorBG14
import Derived.Test.YtgcneehkconghaaGreatDoorBG15
set_option linter.all false
namespace Go.Sx
open Go.Proofs
set_option maxRecDepth 10000
set_option maxHeartbeats 100000000
theorem g24:(∀ N (a0:Wo) (a1:Int),OK (Qd2 N a0 a1) 295 [.agg (e27 a0),.v (.int .i64 a1)] [] (λ r=>.agg (Xlr r)) λ r=>[])/\(∀ N (a0:Wo) (a1:Int) (a2:Int) (a3:Int),OK (Qce N a0 a1 a2 a3) 199 [.agg (e27 a0),.v (.int .u64 a1),.v (.int .i64 a2),.v (.int .u64 a3)] [] (λ r=>.tup [.agg (e27 r.1),.v (.int .i64 r.2)]) λ r=>[])/\(∀ N (a0:WI) (a1:Int) (a2:Int) (a3:Int) (a4:Int) (a5:Bool),OK (QeW N a0 a1 a2 a3 a4 a5) 113 [.agg (e43 a0),.v (.int .i64 a1),.v (.int .u64 a2),.v (.int .u64 a3),.v (.int .u64 a4),.v (.bool a5)] [] (λ r=>.v (.int .i64 r)) λ r=>[])/\(∀ N (a0:Wo) (a1:Ww),OK (QhR N a0 a1) 69 [.agg (e27 a0),.agg (e80 a1)] [] (λ r=>.tup [.agg (e27 r.1),.v (.int .u64 r.2.1),.v (.int .i64 r.2.2)]) λ r=>[])/\(∀ N (a0:Wo) (a1:Int),OK (Qd9 N a0 a1) 254 [.agg (e27 a0),.v (.int .u64 a1)] [] (λ r=>.tup [.agg (e80 r.1),.v (.int .i64 r.2)]) λ r=>[]):=by
 refine ⟨λ N _ _=>rn Tryz.f295 [.cell 4 284] [] 57 (by kernel_rfl) ?_,λ N _ _ _ _=>rn Tryz.f199 [.cell 8 27,.tmp 9] [] 37 (by kernel_rfl) ?_,λ N _ _ _ _ _ _=>rn Tryz.f113 [.tmp 12] [] 78 (by kernel_rfl) ?_,λ N _ _=>rn Tryz.f69 [.cell 4 27,.tmp 5,.tmp 6] [] 61 (by kernel_rfl) ?_,λ N _ _=>rn Tryz.f254 [.cell 4 80,.tmp 5] [] 32 (by kernel_rfl) ?_⟩<;>(rintro _ hw r hr C _ rfl hwf hf;simp only[Tryz.f295,Tryz.f199,Tryz.f113,Tryz.f69,Tryz.f254,Option.get!];(first|rw[Qd2] at hr|rw[Qce] at hr|rw[QeW] at hr|rw[QhR] at hr|rw[Qd9] at hr);repeat' first
 |(refine El.el hr ?_;intro hr)
 |(with_reducible intro h;refine Xw hr h ?_;intro hr)
 |with_reducible intro _
 |simp only[go_sem,simprocAttr,XE]
 |(with_reducible first|apply Xg|apply Xf|apply Xo|apply Xt|apply Xu)
 |((first|with_reducible refine Yb hr (by assumption) ?_ ?_|(with_reducible refine X7 hr ?_ ?_;rotate_left;intro p;rotate_right));(·simp only[go_sem,simprocAttr]);intro hp hn hd hr;(try have XE:=hd _ XB);(try simp only[go_sem,simprocAttr] at XE))
 |(refine Xp ?_ ?_;·first|assumption|omega)
 |(with_reducible first|refine CallX.c ?_ _|refine OK.c hr hw ?_ (λ y hr=>?_) _|refine IX hr hw ?_ (λ y hr=>?_) _)
 |refine db 295 1 hf 9 [(0,4,[]),(1,4,[]),(0,3,[]),(7,0,[]),(15,0,[]),(31,0,[]),(63,0,[]),(127,0,[]),(255,50176,[]),(511,50176,[]),(255,49920,[]),(2047,49152,[]),(4095,49152,[]),(8191,49152,[]),(255,16128,[]),(16639,16128,[]),(65535,0,[]),(131071,0,[])] rfl rfl (by kernel_rfl) ?_ _
 |refine db 69 3 hf 7 [(0,393219,[[],[448,512]]),(0,65539,[[],[448,512]]),(2,65539,[[],[448,512]]),(7,3,[[],[448,512]]),(15,3,[[],[448,512]]),(31,6291459,[[],[448,512]]),(31,5242883,[[],[448,512]]),(31,3145731,[[],[448,512]]),(0,8355842,[[448],[512]]),(0,8355841,[[512],[448]]),(831,6291456,[[448],[]]),(1919,4194304,[[512],[]]),(4095,0,[])] rfl rfl (by kernel_rfl) ?_ _
 |(refine Xn hr ?_;rintro rfl;with_reducible refine XF ?_)
 |exact Yj hr
 |fail)
@[reducible,instance] def Qn4:=g24.1
@[reducible,instance] def Qld:=g24.2.1
@[reducible,instance] def QlC:=g24.2.2.1
@[reducible,instance] def QoD:=g24.2.2.2.1
@[reducible,instance] def Qn5:=g24.2.2.2.2
abbrev Qh4:=λ N (a0:Wo) (y1:List Int × Int) (Q:(List Int)→Prop) n (st:St)=>∃ (v2:Int) (v3:List Int) (ex:_),Qaz N a0 y1 n v2 v3=some ex/\Q ex/\((∃ w2496 w64,st.n=42/\st.s 2496=some (w2496,.arr false 39 1 (v3.map e39) 0)/\st.t 1=.ept 64 w64 6 0 0/\st.t 4=.isl 39 1 (y1.1.map e39)/\st.t 5=.v (.int .i64 y1.2)/\st.t 6=.osl 2496 w2496 1 0 v3.length/\st.t 7=.v (.int .i64 v2)/\st.s 64=some (w64,.arr true 27 6 [e27 a0] 0))\/(∃ w64,(st.n=42/\st.t 1=.ept 64 w64 6 0 0/\st.t 4=.isl 39 1 (y1.1.map e39)/\st.t 5=.v (.int .i64 y1.2)/\st.t 6=.nsl/\st.t 7=.v (.int .i64 v2)/\st.s 64=some (w64,.arr true 27 6 [e27 a0] 0))/\v3=[]))
abbrev QiZ:=λ N (a0:Wo) (a1:Int) (a2:List Int) (Q:(Ex (Int × Bool) Unit)→Prop) n (st:St)=>∃ (v1:Int) (ex:_),QbO N a0 a1 a2 n v1=some ex/\Q ex/\((∃ w192,st.n=58/\st.t 1=.v (.int .i64 a1)/\st.t 3=.ept 192 w192 6 0 0/\st.t 13=.isl 39 1 (a2.map e39)/\st.t 14=.v (.int .i64 ((a2.length:Nat):Int))/\st.t 15=.v (.int .i64 v1)/\st.s 192=some (w192,.arr true 27 6 [e27 a0] 0)))
theorem g25:(∀ N (a0:Wo),OK (Qas N a0) 142 [.agg (e27 a0)] [] (λ r=>.tup [.isl 39 1 (r.1.map e39),.v (.int .i64 r.2)]) λ r=>[])/\(∀ N (a0:Wo) (a1:Int) (a2:List Int),OK (Qe7 N a0 a1 a2) 335 [.agg (e27 a0),.v (.int .i64 a1),.isl 39 1 (a2.map e39)] [] (λ r=>.tup [.v (.int .u64 r.1),.v (.bool r.2)]) λ r=>[]):=by
 refine ⟨λ N _=>rn Tryz.f142 [.tmp 2,.tmp 3] [] 42 (by kernel_rfl) ?_,λ N _ _ _=>rn Tryz.f335 [.tmp 6,.tmp 7] [] 58 (by kernel_rfl) ?_⟩<;>(rintro _ hw r hr C _ rfl hwf hf;simp only[Tryz.f142,Tryz.f335,Option.get!];(first|rw[Qas] at hr|rw[Qe7] at hr);repeat' first
 |(refine El.el hr ?_;intro hr)
 |(with_reducible intro h;refine Xw hr h ?_;intro hr)
 |with_reducible intro _
 |(refine Xn hr ?_;rintro rfl;have hr:=hk;clear hk)
 |simp only[go_sem,simprocAttr,E,XQ,XE]
 |(with_reducible first|apply Xg|apply Xf|apply Xo|apply Xt|apply Xu)
 |((first|with_reducible refine Yb hr (by assumption) ?_ ?_|(with_reducible refine X7 hr ?_ ?_;rotate_left;intro p;rotate_right));(·simp only[go_sem,simprocAttr]);intro hp hn hd hr;(try have XQ:=hd _ e39);(try simp only[go_sem,simprocAttr] at XQ);(try have XE:=hd _ XB);(try simp only[go_sem,simprocAttr] at XE))
 |(refine Xp ?_ ?_;·first|assumption|omega)
 |(with_reducible first|refine CallX.c ?_ _|refine OK.c hr hw ?_ (λ y hr=>?_) _|refine IX hr hw ?_ (λ y hr=>?_) _)
 |(with_reducible refine Xe (I:=Qh4 N _ _) hr 1000 N (λ ex hq hk=>⟨_,_,ex,hq,hk,?_⟩) ?_ _;rotate_left;clear hr;(try clear E);rintro n1 st ⟨v2,v3,ex,hr,hk,(⟨_,_,E⟩|⟨_,E,z0⟩)⟩<;>(try subst z0)<;>(obtain _|n1:=n1<;>rw[Qaz] at hr))
 |refine ⟨_,WA _,_,_,_,hr,hk,?_⟩
 |(with_reducible refine Xe (I:=QiZ N _ _ _) hr 1000 N (λ ex hq hk=>⟨_,ex,hq,hk,?_⟩) ?_ _;rotate_left;clear hr;(try clear E);rintro n1 st ⟨v1,ex,hr,hk,⟨_,E⟩⟩<;>(obtain _|n1:=n1<;>rw[QbO] at hr))
 |refine ⟨_,WA _,_,_,hr,hk,?_⟩
 |refine db 142 6 hf 8 [(0,491521,[[],[512]]),(0,81921,[[],[512]]),(0,49153,[[],[512]]),(6,16385,[[],[512]]),(14,16385,[[],[512]]),(31,1,[[],[512]]),(63,1,[[],[512]]),(127,2097153,[[],[512]]),(127,1048577,[[],[512]]),(0,4186112,[[512],[]]),(767,2097152,[[512],[]]),(2047,0,[])] rfl rfl (by kernel_rfl) ?_ _
 |refine db 335 5 hf 25 [(0,12,[]),(1,12,[]),(0,3,[]),(4,3,[]),(15,0,[]),(31,0,[]),(63,0,[])] rfl rfl (by kernel_rfl) ?_ _
 |(refine Xn hr ?_;rintro rfl;with_reducible refine XF ?_)
 |exact Yj hr
 |((first|refine Xw (c:=true) hr rfl ?_|refine Xw (c:=false) hr rfl ?_|refine Xw hr (by assumption) ?_);intro hr)
 |fail)
@[reducible,instance] def QlD:=g25.1
@[reducible,instance] def QmX:=g25.2
end Go.Sx
