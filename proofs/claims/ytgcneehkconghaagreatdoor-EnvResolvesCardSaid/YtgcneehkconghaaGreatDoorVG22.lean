import Derived.Test.YtgcneehkconghaaGreatDoorVF
import Derived.Test.YtgcneehkconghaaGreatDoorVG5
import Derived.Test.YtgcneehkconghaaGreatDoorVG7
import Derived.Test.YtgcneehkconghaaGreatDoorVG9
import Derived.Test.YtgcneehkconghaaGreatDoorVG10
import Derived.Test.YtgcneehkconghaaGreatDoorVG16
import Derived.Test.YtgcneehkconghaaGreatDoorVG18
import Derived.Test.YtgcneehkconghaaGreatDoorVG20
import Derived.Test.YtgcneehkconghaaGreatDoorVG21
set_option linter.all false
namespace Go.Sx
open Go.Proofs
set_option maxRecDepth 10000
set_option maxHeartbeats 100000000
abbrev QiT:=λ N (a0:Wn) (Q:(Ex Ul Unit)→Prop) n (st:St)=>∃ (v1:Int) (ex:_),QaQ N a0 n v1=some ex/\Q ex/\((∃ w64 w128,st.n=64/\st.t 1=.ept 64 w64 6 0 0/\st.t 2=.ept 128 w128 3 0 0/\st.t 12=.isl 175 4 (a0.Pages.map XG)/\st.t 13=.v (.int .i64 ((a0.Pages.length:Nat):Int))/\st.t 14=.v (.int .i64 v1)/\st.s 64=some (w64,.arr true 27 6 [e27 a0] 0)/\st.s 128=some (w128,.arr true 264 3 [[.v (.int .i64 0),.v (.int .i64 0),.v (.int .u64 0)]] 0)))
abbrev QhF:=λ N (a0:Wn) (y1:List Int × Int) (v2:Int) (p3:Int) (y5:List Int) (Q:(Ex Int Unit)→Prop) n (st:St)=>∃ (v6:Int) (ex:_),QaF N a0 y1 v2 p3 y5 n v6=some ex/\Q ex/\((∃ w64 w128,st.n=83/\st.t 1=.ept 64 w64 6 0 0/\st.t 2=.ept 128 w128 3 0 0/\st.t 3=.isl 39 1 (y1.1.map e39)/\st.t 7=.v (.int .u64 p3)/\st.t 24=.isl 39 1 (y1.1.map e39)/\st.t 25=.v (.int .i64 ((y1.1.length:Nat):Int))/\st.t 26=.v (.int .i64 v2)/\st.t 37=.isl 3 1 (y5.map e3)/\st.t 38=.v (.int .i64 ((y5.length:Nat):Int))/\st.t 39=.v (.int .i64 v6)/\st.s 64=some (w64,.arr true 27 6 [e27 a0] 0)/\st.s 128=some (w128,.arr true 264 3 [[.v (.int .i64 0),.v (.int .i64 0),.v (.int .u64 0)]] 0)))
abbrev QhG:=λ N (a0:Wn) (y1:List Int × Int) (Q:Int→Prop) n (st:St)=>∃ (v2:Int) (ex:_),Qcd N a0 y1 n v2=some ex/\Q ex/\((∃ w64 w128,st.n=83/\st.t 1=.ept 64 w64 6 0 0/\st.t 2=.ept 128 w128 3 0 0/\st.t 3=.isl 39 1 (y1.1.map e39)/\st.t 5=.v (.int .u64 0)/\st.t 24=.isl 39 1 (y1.1.map e39)/\st.t 25=.v (.int .i64 ((y1.1.length:Nat):Int))/\st.t 26=.v (.int .i64 v2)/\st.s 64=some (w64,.arr true 27 6 [e27 a0] 0)/\st.s 128=some (w128,.arr true 264 3 [[.v (.int .i64 0),.v (.int .i64 0),.v (.int .u64 0)]] 0)))
abbrev Qhs:=λ N (a0:List UN) (a1:Wn) (y1:List Int × Int) (Q:(Ex (List Int × Bool) (List Int))→Prop) n (st:St)=>∃ (v2:Int) (v3:List Int) (ex:_),QbR N a0 a1 y1 n v2 v3=some ex/\Q ex/\((∃ w1600 w192,st.n=80/\st.s 1600=some (w1600,.arr false 3 1 (v3.map e3) 0)/\st.t 0=.isl 119 2 (a0.map Zc)/\st.t 3=.ept 192 w192 6 0 0/\st.t 6=.clo (.func 218) [] []/\st.t 7=.isl 39 1 (y1.1.map e39)/\st.t 9=.osl 1600 w1600 1 0 v3.length/\st.t 26=.isl 119 2 (a0.map Zc)/\st.t 27=.v (.int .i64 ((a0.length:Nat):Int))/\st.t 28=.v (.int .i64 v2)/\st.s 192=some (w192,.arr true 27 6 [e27 a1] 0)))
theorem g31:(∀ N (a0:Wn),OK (QfW N a0) 288 [.agg (e27 a0)] [] (λ r=>.agg (Xnb r)) λ r=>[])/\(∀ N (a0:Wn),OK (QeG N a0) 289 [.agg (e27 a0)] [] (λ r=>.agg (Xnb r)) λ r=>[])/\(∀ N (a0:List UN) (a1:Wn),OK (Qfi N a0 a1) 124 [.isl 119 2 (a0.map Zc),.agg (e27 a1)] [] (λ r=>.tup [.isl 3 1 (r.1.map e3),.v (.bool r.2)]) λ r=>[]):=by
 refine ⟨λ N _=>rn Tryz.f288 [.cell 2 264] [] 64 (by kernel_rfl) ?_,λ N _=>rn Tryz.f289 [.cell 2 264] [] 83 (by kernel_rfl) ?_,λ N _ _=>rn Tryz.f124 [.tmp 4,.tmp 5] [] 80 (by kernel_rfl) ?_⟩<;>(rintro _ hw r hr C _ rfl hwf hf;simp only[Tryz.f288,Tryz.f289,Tryz.f124,Option.get!];(first|rw[QfW] at hr|rw[QeG] at hr|rw[Qfi] at hr);repeat' first
 |(refine El.el hr ?_;intro hr)
 |(with_reducible intro h;refine XA hr h ?_;intro hr)
 |with_reducible intro _
 |(refine Xn hr ?_;rintro rfl;have hr:=hk;clear hk)
 |simp only[go_sem,simprocAttr,E,hl3,XR,Zq,XK]
 |(with_reducible first|apply Xk|apply Xj|apply Xo|apply Xt|apply Xu)
 |((first|with_reducible refine Ym hr (by assumption) ?_ ?_|(with_reducible refine Yi hr ?_ ?_;rotate_left;intro p;rotate_right));(·simp only[go_sem,simprocAttr]);intro hp hn hd hr;(try have hl3:=hd _ e3);(try simp only[go_sem,simprocAttr] at hl3);(try have XR:=hd _ e39);(try simp only[go_sem,simprocAttr] at XR);(try have Zq:=hd _ Zc);(try simp only[go_sem,simprocAttr] at Zq);(try have XK:=hd _ XG);(try simp only[go_sem,simprocAttr] at XK))
 |(refine Xp ?_ ?_;·first|assumption|omega)
 |(with_reducible first|refine CallX.c ?_ _|refine OK.c hr hw ?_ (λ y hr=>?_) _)
 |(with_reducible refine Xf (I:=QiT N _) hr 1000 N (λ ex hq hk=>⟨_,ex,hq,hk,?_⟩) ?_ _;rotate_left;clear hr;(try clear E);rintro n1 st ⟨v1,ex,hr,hk,⟨_,_,E⟩⟩<;>(obtain _|n1:=n1<;>rw[QaQ] at hr))
 |refine ⟨_,WD _,_,_,hr,hk,?_⟩
 |(with_reducible refine Xf (I:=QhF N _ _ _ _ _) hr 1000 N (λ ex hq hk=>⟨_,ex,hq,hk,?_⟩) ?_ _;rotate_left;clear hr;(try clear E);rintro n1 st ⟨v6,ex,hr,hk,⟨_,_,E⟩⟩<;>(obtain _|n1:=n1<;>rw[QaF] at hr))
 |(with_reducible refine Xf (I:=QhG N _ _) hr 1000 N (λ ex hq hk=>⟨_,ex,hq,hk,?_⟩) ?_ _;rotate_left;clear hr;(try clear E);rintro n2 st ⟨v2,ex,hr,hk,⟨_,_,E⟩⟩<;>(obtain _|n2:=n2<;>rw[Qcd] at hr))
 |(with_reducible refine Xf (I:=Qhs N _ _ _) hr 1000 N (λ ex hq hk=>⟨_,_,ex,hq,hk,?_⟩) ?_ _;rotate_left;clear hr;(try clear E);rintro n1 st ⟨v2,v3,ex,hr,hk,⟨_,_,E⟩⟩<;>(obtain _|n1:=n1<;>rw[QbR] at hr))
 |refine ⟨_,WD _,_,_,_,hr,hk,?_⟩
 |refine db 124 11 hf 70 [(0,50,[]),(0,49,[]),(3,48,[]),(7,48,[]),(0,15,[]),(16,15,[]),(63,0,[]),(127,0,[]),(255,0,[[1600],[]])] rfl rfl (by kernel_rfl) ?_ _
 |(refine Xn hr ?_;rintro rfl;with_reducible refine XM ?_)
 |exact Yw hr
 |((first|refine XA (c:=true) hr rfl ?_|refine XA (c:=false) hr rfl ?_|refine XA hr (by assumption) ?_);intro hr)
 |fail)
@[reducible,instance] def QmI:=g31.1
@[reducible,instance] def Qk2:=g31.2.1
@[reducible,instance] def QkL:=g31.2.2
instance QnK:∀ N (a0:Wn),OK (QbH N a0) 141 [.agg (e27 a0)] [] (λ r=>.v (.bool r)) λ r=>[]:=by
 refine λ N _=>rn Tryz.f141 [.tmp 2] [] 7 (by kernel_rfl) ?_<;>(rintro _ hw r hr C _ rfl hwf hf;simp only[Tryz.f141,Option.get!];(rw[QbH] at hr);repeat' first
 |(refine El.el hr ?_;intro hr)
 |(with_reducible intro h;refine XA hr h ?_;intro hr)
 |with_reducible intro _
 |simp only[go_sem,simprocAttr]
 |(with_reducible first|apply Xk|apply Xj|apply Xo)
 |(refine Xp ?_ ?_;·first|assumption|omega)
 |(with_reducible first|refine CallX.c ?_ _|refine OK.c hr hw ?_ (λ y hr=>?_) _)
 |(refine Xn hr ?_;rintro rfl;with_reducible refine XM ?_)
 |exact Yw hr
 |fail)
end Go.Sx
