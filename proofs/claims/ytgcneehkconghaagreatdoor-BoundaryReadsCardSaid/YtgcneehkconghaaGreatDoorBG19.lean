import Derived.Test.YtgcneehkconghaaGreatDoorBF
import Derived.Test.YtgcneehkconghaaGreatDoorBG0
import Derived.Test.YtgcneehkconghaaGreatDoorBG1
import Derived.Test.YtgcneehkconghaaGreatDoorBG4
import Derived.Test.YtgcneehkconghaaGreatDoorBG13
import Derived.Test.YtgcneehkconghaaGreatDoorBG14
import Derived.Test.YtgcneehkconghaaGreatDoorBG15
import Derived.Test.YtgcneehkconghaaGreatDoorBG16
import Derived.Test.YtgcneehkconghaaGreatDoorBG17
set_option linter.all false
namespace Go.Sx
open Go.Proofs
set_option maxRecDepth 10000
set_option maxHeartbeats 100000000
abbrev QhL:=λ N (a0:Wo) (y1:List Int × Int) (y6:List Int × Int) (v2:Int) (y4:Ww × Int) (Q:(Ex Ud Unit)→Prop) n (st:St)=>∃ (v7:Int) (ex:_),Qak N a0 y1 y6 v2 y4 n v7=some ex/\Q ex/\((∃ w64 w128 w384,st.n=89/\st.t 1=.ept 64 w64 6 0 0/\st.t 2=.ept 128 w128 3 0 0/\st.t 3=.isl 39 1 (y1.1.map e39)/\st.t 5=.v (.int .i64 v2)/\st.t 6=.ept 384 w384 3 0 0/\st.t 8=.isl 39 1 (y6.1.map e39)/\st.t 10=.v (.int .i64 v7)/\st.s 64=some (w64,.arr true 27 6 [e27 a0] 0)/\st.s 128=some (w128,.arr true 284 3 [[.v (.int .i64 0),.v (.int .i64 0),.v (.int .u64 0)]] 0)/\st.s 384=some (w384,.arr true 80 3 [e80 y4.1] 0)))
abbrev QhM:=λ N (a0:Wo) (y1:List Int × Int) (Q:(Ex Ud Unit)→Prop) n (st:St)=>∃ (v2:Int) (ex:_),Qa3 N a0 y1 n v2=some ex/\Q ex/\((∃ w64 w128,st.n=89/\st.t 1=.ept 64 w64 6 0 0/\st.t 2=.ept 128 w128 3 0 0/\st.t 3=.isl 39 1 (y1.1.map e39)/\st.t 5=.v (.int .i64 v2)/\st.s 64=some (w64,.arr true 27 6 [e27 a0] 0)/\st.s 128=some (w128,.arr true 284 3 [[.v (.int .i64 0),.v (.int .i64 0),.v (.int .u64 0)]] 0)))
abbrev Qkr:=λ N (a0:Wo) (Q:(Ex (List Uz × Int) (List Uz))→Prop) n (st:St)=>∃ (v2:Int) (v3:List Uz) (ex:_),Qe8 N a0 n v2 v3=some ex/\Q ex/\((∃ w1792 w64,st.n=31/\st.s 1792=some (w1792,.arr false 279 4 (v3.map Kv) 0)/\st.t 1=.ept 64 w64 6 0 0/\st.t 4=.osl 1792 w1792 4 0 v3.length/\st.t 13=.v (.int .i64 ((a0.Pages.length:Nat):Int))/\st.t 14=.v (.int .i64 v2)/\st.s 64=some (w64,.arr true 27 6 [e27 a0] 0))\/(∃ w64,(st.n=31/\st.t 1=.ept 64 w64 6 0 0/\st.t 4=.nsl/\st.t 13=.v (.int .i64 ((a0.Pages.length:Nat):Int))/\st.t 14=.v (.int .i64 v2)/\st.s 64=some (w64,.arr true 27 6 [e27 a0] 0))/\v3=[]))
theorem g28:(∀ N (a0:Wo),OK (QcN N a0) 296 [.agg (e27 a0)] [] (λ r=>.agg (Xlr r)) λ r=>[])/\(∀ N (a0:Wo),OK (QgT N a0) 223 [.agg (e27 a0)] [] (λ r=>.tup [.fsl 279 4 (r.1.map Kv),.v (.int .i64 r.2)]) λ r=>[]):=by
 refine ⟨λ N _=>rn Tryz.f296 [.cell 2 284] [] 89 (by kernel_rfl) ?_,λ N _=>rn Tryz.f223 [.tmp 2,.tmp 3] [1792] 31 (by kernel_rfl) ?_⟩<;>(rintro _ hw r hr C _ rfl hwf hf;simp only[Tryz.f296,Tryz.f223,Option.get!];(first|rw[QcN] at hr|rw[QgT] at hr);repeat' first
 |(refine El.el hr ?_;intro hr)
 |(with_reducible intro h;refine Xw hr h ?_;intro hr)
 |with_reducible intro _
 |(refine Xn hr ?_;rintro rfl;have hr:=hk;clear hk)
 |simp only[go_sem,simprocAttr,E,XQ]
 |(with_reducible first|apply Xg|apply Xf|apply Xo|apply Xt|apply Xu)
 |((first|with_reducible refine Yb hr (by assumption) ?_ ?_|(with_reducible refine X7 hr ?_ ?_;rotate_left;intro p;rotate_right));(·simp only[go_sem,simprocAttr]);intro hp hn hd hr;(try have XQ:=hd _ e39);(try simp only[go_sem,simprocAttr] at XQ))
 |(refine Xp ?_ ?_;·first|assumption|omega)
 |(with_reducible first|refine CallX.c ?_ _|refine OK.c hr hw ?_ (λ y hr=>?_) _|refine IX hr hw ?_ (λ y hr=>?_) _)
 |(with_reducible refine Xe (I:=QhL N _ _ _ _ _) hr 1000 N (λ ex hq hk=>⟨_,ex,hq,hk,?_⟩) ?_ _;rotate_left;clear hr;(try clear E);rintro n1 st ⟨v7,ex,hr,hk,⟨_,_,_,E⟩⟩<;>(obtain _|n1:=n1<;>rw[Qak] at hr))
 |refine ⟨_,WA _,_,_,hr,hk,?_⟩
 |(with_reducible refine Xe (I:=QhM N _ _) hr 1000 N (λ ex hq hk=>⟨_,ex,hq,hk,?_⟩) ?_ _;rotate_left;clear hr;(try clear E);rintro n2 st ⟨v2,ex,hr,hk,⟨_,_,E⟩⟩<;>(obtain _|n2:=n2<;>rw[Qa3] at hr))
 |(with_reducible refine Xe (I:=Qkr N _) hr 1000 N (λ ex hq hk=>⟨_,_,ex,hq,hk,?_⟩) ?_ _;rotate_left;clear hr;(try clear E);rintro n1 st ⟨v2,v3,ex,hr,hk,(⟨_,_,E⟩|⟨_,E,z0⟩)⟩<;>(try subst z0)<;>(obtain _|n1:=n1<;>rw[Qe8] at hr))
 |refine ⟨_,WA _,_,_,_,hr,hk,?_⟩
 |refine db 296 5 hf 6 [(0,62914561,[[],[384]]),(0,10485761,[[],[384]]),(0,6291457,[[],[384]]),(6,2097153,[[],[384]]),(14,2097153,[[],[384]]),(31,1,[[],[384]]),(63,1,[[],[384]]),(127,268435457,[[],[384]]),(127,134217729,[[],[384]]),(0,535822336,[[384],[]]),(767,268435456,[[384],[]]),(2047,0,[])] rfl rfl (by kernel_rfl) ?_ _
 |refine db 296 6 hf 8 [(0,8053063680,[]),(0,1342177280,[]),(0,805306368,[]),(6,268435456,[]),(14,268435456,[]),(31,0,[]),(63,0,[]),(127,34359738368,[]),(127,17179869185,[]),(255,34359738368,[]),(1023,0,[])] rfl rfl (by kernel_rfl) ?_ _
 |(refine Xn hr ?_;rintro rfl;with_reducible refine XF ?_)
 |exact Yj hr
 |((first|refine Xw (c:=true) hr rfl ?_|refine Xw (c:=false) hr rfl ?_|refine Xw hr (by assumption) ?_);intro hr)
 |fail)
@[reducible,instance] def Qle:=g28.1
@[reducible,instance] def QoO:=g28.2
theorem g27:(∀ N (a0:Wo) (a1:Int),OK (QdF N a0 a1) 284 [.agg (e27 a0),.v (.int .u64 a1)] [] (λ r=>.v (.bool r)) λ r=>[])/\(∀ N (a0:Wo) (a1:Int),OK (Qfm N a0 a1) 315 [.agg (e27 a0),.v (.int .i64 a1)] [] (λ r=>.tup [.isl 39 1 (r.1.map e39),.v (.int .i64 r.2)]) λ r=>[])/\(∀ N (a0:Wo) (a1:Int) (a2:Int),OK (Qgf N a0 a1 a2) 319 [.agg (e27 a0),.v (.int .u64 a1),.v (.int .i64 a2)] [] (λ r=>.tup [.v (.int .u64 r.1),.v (.int .i64 r.2)]) λ r=>[]):=by
 refine ⟨λ N _ _=>rn Tryz.f284 [.tmp 4] [] 15 (by kernel_rfl) ?_,λ N _ _=>rn Tryz.f315 [.tmp 4,.tmp 5] [] 33 (by kernel_rfl) ?_,λ N _ _ _=>rn Tryz.f319 [.tmp 6,.tmp 7] [] 34 (by kernel_rfl) ?_⟩<;>(rintro _ hw r hr C _ rfl hwf hf;simp only[Tryz.f284,Tryz.f315,Tryz.f319,Option.get!];(first|rw[QdF] at hr|rw[Qfm] at hr|rw[Qgf] at hr);repeat' first
 |(refine El.el hr ?_;intro hr)
 |(with_reducible intro h;refine Xw hr h ?_;intro hr)
 |with_reducible intro _
 |simp only[go_sem,simprocAttr]
 |(with_reducible first|apply Xg|apply Xf|apply Xo)
 |(refine Xp ?_ ?_;·first|assumption|omega)
 |(with_reducible first|refine CallX.c ?_ _|refine OK.c hr hw ?_ (λ y hr=>?_) _)
 |(refine Xn hr ?_;rintro rfl;with_reducible refine XF ?_)
 |exact Yj hr
 |fail)
@[reducible,instance] def Qlf:=g27.1
@[reducible,instance] def QoE:=g27.2.1
@[reducible,instance] def Ql8:=g27.2.2
end Go.Sx
