import Derived.Test.YtbikeogjhdcfmaaGreatVF
import Derived.Test.YtbikeogjhdcfmaaGreatVG5
import Derived.Test.YtbikeogjhdcfmaaGreatVG6
import Derived.Test.YtbikeogjhdcfmaaGreatVG7
import Derived.Test.YtbikeogjhdcfmaaGreatVG8
import Derived.Test.YtbikeogjhdcfmaaGreatVG9
import Derived.Test.YtbikeogjhdcfmaaGreatVG15
import Derived.Test.YtbikeogjhdcfmaaGreatVG16
import Derived.Test.YtbikeogjhdcfmaaGreatVG18
import Derived.Test.YtbikeogjhdcfmaaGreatVG19
set_option linter.all false
namespace Go.Sx
open Go.Proofs
set_option maxRecDepth 10000
set_option maxHeartbeats 100000000
abbrev Qi2:=λ N (a0:Wn) (Q:(Ex Ul Unit)→Prop) n (st:St)=>∃ (v1:Int) (ex:_),QaN N a0 n v1=some ex/\Q ex/\((∃ w64 w128,st.n=64/\st.t 1=.ept 64 w64 6 0 0/\st.t 2=.ept 128 w128 3 0 0/\st.t 12=.isl 108 4 (a0.Pages.map XF)/\st.t 13=.v (.int .i64 ((a0.Pages.length:Nat):Int))/\st.t 14=.v (.int .i64 v1)/\st.s 64=some (w64,.arr true 27 6 [e27 a0] 0)/\st.s 128=some (w128,.arr true 147 3 [[.v (.int .i64 0),.v (.int .i64 0),.v (.int .u64 0)]] 0)))
abbrev QhP:=λ N (a0:Wn) (y1:List Int × Int) (v2:Int) (p3:Int) (y5:List Int) (Q:(Ex Int Unit)→Prop) n (st:St)=>∃ (v6:Int) (ex:_),QaC N a0 y1 v2 p3 y5 n v6=some ex/\Q ex/\((∃ w64 w128,st.n=83/\st.t 1=.ept 64 w64 6 0 0/\st.t 2=.ept 128 w128 3 0 0/\st.t 3=.isl 71 1 (y1.1.map e71)/\st.t 7=.v (.int .u64 p3)/\st.t 24=.isl 71 1 (y1.1.map e71)/\st.t 25=.v (.int .i64 ((y1.1.length:Nat):Int))/\st.t 26=.v (.int .i64 v2)/\st.t 37=.isl 3 1 (y5.map e3)/\st.t 38=.v (.int .i64 ((y5.length:Nat):Int))/\st.t 39=.v (.int .i64 v6)/\st.s 64=some (w64,.arr true 27 6 [e27 a0] 0)/\st.s 128=some (w128,.arr true 147 3 [[.v (.int .i64 0),.v (.int .i64 0),.v (.int .u64 0)]] 0)))
abbrev QhQ:=λ N (a0:Wn) (y1:List Int × Int) (Q:Int→Prop) n (st:St)=>∃ (v2:Int) (ex:_),Qcc N a0 y1 n v2=some ex/\Q ex/\((∃ w64 w128,st.n=83/\st.t 1=.ept 64 w64 6 0 0/\st.t 2=.ept 128 w128 3 0 0/\st.t 3=.isl 71 1 (y1.1.map e71)/\st.t 5=.v (.int .u64 0)/\st.t 24=.isl 71 1 (y1.1.map e71)/\st.t 25=.v (.int .i64 ((y1.1.length:Nat):Int))/\st.t 26=.v (.int .i64 v2)/\st.s 64=some (w64,.arr true 27 6 [e27 a0] 0)/\st.s 128=some (w128,.arr true 147 3 [[.v (.int .i64 0),.v (.int .i64 0),.v (.int .u64 0)]] 0)))
abbrev QhC:=λ N (a0:List UG) (a1:Wn) (y1:List Int × Int) (Q:(Ex (List Int × Bool) (List Int))→Prop) n (st:St)=>∃ (v2:Int) (v3:List Int) (ex:_),QbQ N a0 a1 y1 n v2 v3=some ex/\Q ex/\((∃ w1600 w192,st.n=80/\st.s 1600=some (w1600,.arr false 3 1 (v3.map e3) 0)/\st.t 0=.isl 77 2 (a0.map e77)/\st.t 3=.ept 192 w192 6 0 0/\st.t 6=.clo (.func 85) [] []/\st.t 7=.isl 71 1 (y1.1.map e71)/\st.t 9=.osl 1600 w1600 1 0 v3.length/\st.t 26=.isl 77 2 (a0.map e77)/\st.t 27=.v (.int .i64 ((a0.length:Nat):Int))/\st.t 28=.v (.int .i64 v2)/\st.s 192=some (w192,.arr true 27 6 [e27 a1] 0)))
theorem g31:(∀ N (a0:Wn),OK (Qf7 N a0) 141 [.agg (e27 a0)] [] (λ r=>.agg (Xm7 r)) λ r=>[])/\(∀ N (a0:Wn),OK (QeI N a0) 142 [.agg (e27 a0)] [] (λ r=>.agg (Xm7 r)) λ r=>[])/\(∀ N (a0:List UG) (a1:Wn),OK (Qfq N a0 a1) 52 [.isl 77 2 (a0.map e77),.agg (e27 a1)] [] (λ r=>.tup [.isl 3 1 (r.1.map e3),.v (.bool r.2)]) λ r=>[]):=by
 refine ⟨λ N _=>rn Tryz.f141 [.cell 2 147] [] 64 (by kernel_rfl) ?_,λ N _=>rn Tryz.f142 [.cell 2 147] [] 83 (by kernel_rfl) ?_,λ N _ _=>rn Tryz.f52 [.tmp 4,.tmp 5] [] 80 (by kernel_rfl) ?_⟩<;>(rintro _ hw r hr C _ rfl hwf hf;simp only[Tryz.f141,Tryz.f142,Tryz.f52,Option.get!];(first|rw[Qf7] at hr|rw[QeI] at hr|rw[Qfq] at hr);repeat' first
 |(refine El.el hr ?_;intro hr)
 |(with_reducible intro h;refine XB hr h ?_;intro hr)
 |with_reducible intro _
 |(refine Xn hr ?_;rintro rfl;have hr:=hk;clear hk)
 |simp only[go_sem,simprocAttr,E,hl3,XU,KM,XK]
 |(with_reducible first|apply Xk|apply Xj|apply Xp|apply Xr|apply Xs)
 |((first|with_reducible refine Yk hr (by assumption) ?_ ?_|(with_reducible refine Yf hr ?_ ?_;rotate_left;intro p;rotate_right));(·simp only[go_sem,simprocAttr]);intro hp hn hd hr;(try have hl3:=hd _ e3);(try simp only[go_sem,simprocAttr] at hl3);(try have XU:=hd _ e71);(try simp only[go_sem,simprocAttr] at XU);(try have KM:=hd _ e77);(try simp only[go_sem,simprocAttr] at KM);(try have XK:=hd _ XF);(try simp only[go_sem,simprocAttr] at XK))
 |(refine Xq ?_ ?_;·first|assumption|omega)
 |(with_reducible first|refine CallX.c ?_ _|refine OK.c hr hw ?_ (λ y hr=>?_) _)
 |(with_reducible refine Xf (I:=Qi2 N _) hr 1000 N (λ ex hq hk=>⟨_,ex,hq,hk,?_⟩) ?_ _;rotate_left;clear hr;(try clear E);rintro n1 st ⟨v1,ex,hr,hk,⟨_,_,E⟩⟩<;>(obtain _|n1:=n1<;>rw[QaN] at hr))
 |refine ⟨_,WD _,_,_,hr,hk,?_⟩
 |(with_reducible refine Xf (I:=QhP N _ _ _ _ _) hr 1000 N (λ ex hq hk=>⟨_,ex,hq,hk,?_⟩) ?_ _;rotate_left;clear hr;(try clear E);rintro n1 st ⟨v6,ex,hr,hk,⟨_,_,E⟩⟩<;>(obtain _|n1:=n1<;>rw[QaC] at hr))
 |(with_reducible refine Xf (I:=QhQ N _ _) hr 1000 N (λ ex hq hk=>⟨_,ex,hq,hk,?_⟩) ?_ _;rotate_left;clear hr;(try clear E);rintro n2 st ⟨v2,ex,hr,hk,⟨_,_,E⟩⟩<;>(obtain _|n2:=n2<;>rw[Qcc] at hr))
 |(with_reducible refine Xf (I:=QhC N _ _ _) hr 1000 N (λ ex hq hk=>⟨_,_,ex,hq,hk,?_⟩) ?_ _;rotate_left;clear hr;(try clear E);rintro n1 st ⟨v2,v3,ex,hr,hk,⟨_,_,E⟩⟩<;>(obtain _|n1:=n1<;>rw[QbQ] at hr))
 |refine ⟨_,WD _,_,_,_,hr,hk,?_⟩
 |refine db 52 11 hf 70 [(0,50,[]),(0,49,[]),(3,48,[]),(7,48,[]),(0,15,[]),(16,15,[]),(63,0,[]),(127,0,[]),(255,0,[[1600],[]])] rfl rfl (by kernel_rfl) ?_ _
 |(refine Xn hr ?_;rintro rfl;with_reducible refine XM ?_)
 |exact Yw hr
 |((first|refine XB (c:=true) hr rfl ?_|refine XB (c:=false) hr rfl ?_|refine XB hr (by assumption) ?_);intro hr)
 |fail)
@[reducible,instance] def QmV:=g31.1
@[reducible,instance] def Qlh:=g31.2.1
@[reducible,instance] def Qk0:=g31.2.2
instance Qn2:∀ N (a0:Wn),OK (QbF N a0) 66 [.agg (e27 a0)] [] (λ r=>.v (.bool r)) λ r=>[]:=by
 refine λ N _=>rn Tryz.f66 [.tmp 2] [] 7 (by kernel_rfl) ?_<;>(rintro _ hw r hr C _ rfl hwf hf;simp only[Tryz.f66,Option.get!];(rw[QbF] at hr);repeat' first
 |(refine El.el hr ?_;intro hr)
 |(with_reducible intro h;refine XB hr h ?_;intro hr)
 |with_reducible intro _
 |simp only[go_sem,simprocAttr]
 |(with_reducible first|apply Xk|apply Xj|apply Xp)
 |(refine Xq ?_ ?_;·first|assumption|omega)
 |(with_reducible first|refine CallX.c ?_ _|refine OK.c hr hw ?_ (λ y hr=>?_) _)
 |(refine Xn hr ?_;rintro rfl;with_reducible refine XM ?_)
 |exact Yw hr
 |fail)
end Go.Sx
