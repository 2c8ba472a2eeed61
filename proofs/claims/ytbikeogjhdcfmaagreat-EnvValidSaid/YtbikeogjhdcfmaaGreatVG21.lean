import Derived.Test.YtbikeogjhdcfmaaGreatVF
import Derived.Test.YtbikeogjhdcfmaaGreatVG0
import Derived.Test.YtbikeogjhdcfmaaGreatVG1
import Derived.Test.YtbikeogjhdcfmaaGreatVG8
import Derived.Test.YtbikeogjhdcfmaaGreatVG9
import Derived.Test.YtbikeogjhdcfmaaGreatVG13
import Derived.Test.YtbikeogjhdcfmaaGreatVG16
import Derived.Test.YtbikeogjhdcfmaaGreatVG18
import Derived.Test.YtbikeogjhdcfmaaGreatVG20
set_option linter.all false
namespace Go.Sx
open Go.Proofs
set_option maxRecDepth 10000
set_option maxHeartbeats 100000000
abbrev Qi3:=λ N (a0:Wn) (a1:List UG) (y2:List Int × Int) (Q:(Ex Bool (List Int))→Prop) n (st:St)=>∃ (v3:Int) (v4:List Int) (ex:_),Qbu N a0 a1 y2 n v3 v4=some ex/\Q ex/\((∃ w1664 w128,st.n=103/\st.s 1664=some (w1664,.arr false 3 1 (v4.map e3) 0)/\st.t 1=.isl 77 2 (a1.map e77)/\st.t 2=.ept 128 w128 6 0 0/\st.t 5=.isl 71 1 (y2.1.map e71)/\st.t 7=.osl 1664 w1664 1 0 v4.length/\st.t 8=.v (.int .i64 v3)/\st.s 128=some (w128,.arr true 27 6 [e27 a0] 0)))
abbrev Qi4:=λ N (a0:Wn) (y16:List Int) (Q:(Ex Bool Unit)→Prop) n (st:St)=>∃ (v17:Int) (ex:_),Qb6 N a0 y16 n v17=some ex/\Q ex/\((∃ w1664 w128,st.n=103/\st.s 1664=some (w1664,.arr false 3 1 (y16.map e3) 0)/\st.t 2=.ept 128 w128 6 0 0/\st.t 7=.osl 1664 w1664 1 0 y16.length/\st.t 9=.v (.int .i64 v17)/\st.s 128=some (w128,.arr true 27 6 [e27 a0] 0)))
abbrev Qil:=λ N (a1:List Int) (y2:List Int × Int) (Q:(Ex Bool Unit)→Prop) n (st:St)=>∃ (v3:Int) (ex:_),Qar N a1 y2 n v3=some ex/\Q ex/\((st.n=36/\st.t 1=.isl 71 1 (a1.map e71)/\st.t 5=.isl 71 1 (y2.1.map e71)/\st.t 7=.v (.int .i64 v3)))
abbrev Qi5:=λ N (a0:Wn) (y3:List Int × Int) (Q:(List Wv)→Prop) n (st:St)=>∃ (v4:Int) (v5:List Wv) (ex:_),QcG N a0 y3 n v4 v5=some ex/\Q ex/\((∃ w1472 w64 w128 w256,st.n=61/\st.s 1472=some (w1472,.arr false 108 4 (v5.map XF) 0)/\st.t 1=.ept 64 w64 6 0 0/\st.t 2=.ept 128 w128 16 0 0/\st.t 4=.ept 256 w256 16 0 0/\st.t 5=.v (.int .i64 v4)/\st.s 64=some (w64,.arr true 27 6 [e27 a0] 0)/\st.s 128=some (w128,.arr true 257 16 [[.v (.int .i64 0),.v (.int .i64 0),.nsl,.nsl,.v (.int .i64 0),.v (.int .i64 0),.nsl,.nsl,.nsl,.v (.int .i64 0),.v (.int .i64 0),.v (.int .i64 0),.v (.int .i64 0),.v (.int .i64 0),.v (.int .i64 0),.v (.int .i64 0)]] 0)/\st.s 256=some (w256,.arr true 257 16 [[.v (.int .i64 a0.Conf.PageWords),.v (.int .i64 a0.Conf.Pages),.isl 71 1 (a0.Words.map e71),.osl 1472 w1472 4 0 v5.length,.v (.int .i64 a0.Space),.v (.int .i64 a0.Bump),.isl 71 1 (y3.1.map e71),.nsl,.nsl,.v (.int .i64 0),.v (.int .i64 0),.v (.int .i64 0),.v (.int .i64 0),.v (.int .i64 0),.v (.int .i64 0),.v (.int .i64 0)]] 0)))
abbrev Qh5:=λ N (a0:Wn) (a1:Int) (Q:Int→Prop) n (st:St)=>∃ (v3:Int) (v4:Int) (ex:_),QbN N a0 a1 n v3 v4=some ex/\Q ex/\((∃ w128,st.n=65/\st.t 1=.v (.int .u64 a1)/\st.t 2=.ept 128 w128 6 0 0/\st.t 5=.v (.int .i64 v3)/\st.t 6=.v (.int .i64 v4)/\st.s 128=some (w128,.arr true 27 6 [e27 a0] 0)))
abbrev Qi6:=λ N (a0:Wn) (Q:Int→Prop) n (st:St)=>∃ (v4:Int) (v5:Int) (ex:_),Qca N a0 n v4 v5=some ex/\Q ex/\((∃ w64 w128,st.n=50/\st.t 1=.ept 64 w64 6 0 0/\st.t 2=.ept 128 w128 3 0 0/\st.t 5=.v (.int .i64 v4)/\st.t 25=.isl 108 4 (a0.Pages.map XF)/\st.t 26=.v (.int .i64 ((a0.Pages.length:Nat):Int))/\st.t 27=.v (.int .i64 v5)/\st.s 64=some (w64,.arr true 27 6 [e27 a0] 0)/\st.s 128=some (w128,.arr true 147 3 [[.v (.int .i64 0),.v (.int .i64 0),.v (.int .u64 0)]] 0)))
theorem g32:(∀ N (a0:Wn) (a1:List UG),OK (QbU N a0 a1) 30 [.agg (e27 a0),.isl 77 2 (a1.map e77)] [] (λ r=>.v (.bool r)) λ r=>[])/\(∀ N (a0:Wn) (a1:List Int),OK (Qbi N a0 a1) 36 [.agg (e27 a0),.isl 71 1 (a1.map e71)] [] (λ r=>.v (.bool r)) λ r=>[])/\(∀ N (a0:Wn),OK (Qdm N a0) 179 [.agg (e27 a0)] [] (λ r=>.tup [.agg (Kv r.1),.v (.int .i64 r.2)]) λ r=>[])/\(∀ N (a0:Wn) (a1:Int),OK (Qc4 N a0 a1) 266 [.agg (e27 a0),.v (.int .u64 a1)] [] (λ r=>.v (.bool r)) λ r=>[])/\(∀ N (a0:Wn),OK (QgF N a0) 84 [.agg (e27 a0)] [] (λ r=>.agg (Xm7 r)) λ r=>[]):=by
 refine ⟨λ N _ _=>rn Tryz.f30 [.tmp 4] [] 103 (by kernel_rfl) ?_,λ N _ _=>rn Tryz.f36 [.tmp 4] [] 36 (by kernel_rfl) ?_,λ N _=>rn Tryz.f179 [.cell 2 257,.tmp 3] [] 61 (by kernel_rfl) ?_,λ N _ _=>rn Tryz.f266 [.tmp 4] [] 65 (by kernel_rfl) ?_,λ N _=>rn Tryz.f84 [.cell 2 147] [] 50 (by kernel_rfl) ?_⟩<;>(rintro _ hw r hr C _ rfl hwf hf;simp only[Tryz.f30,Tryz.f36,Tryz.f179,Tryz.f266,Tryz.f84,Option.get!];(first|rw[QbU] at hr|rw[Qbi] at hr|rw[Qdm] at hr|rw[Qc4] at hr|rw[QgF] at hr);repeat' first
 |(refine El.el hr ?_;intro hr)
 |(with_reducible intro h;refine XB hr h ?_;intro hr)
 |with_reducible intro _
 |(refine Xn hr ?_;rintro rfl;have hr:=hk;clear hk)
 |simp only[go_sem,simprocAttr,E,hl3,XU,KM,XK]
 |(with_reducible first|apply Xk|apply Xj|apply Xp|apply Xr|apply Xs)
 |((first|with_reducible refine Yk hr (by assumption) ?_ ?_|(with_reducible refine Yf hr ?_ ?_;rotate_left;intro p;rotate_right));(·simp only[go_sem,simprocAttr]);intro hp hn hd hr;(try have hl3:=hd _ e3);(try simp only[go_sem,simprocAttr] at hl3);(try have XU:=hd _ e71);(try simp only[go_sem,simprocAttr] at XU);(try have KM:=hd _ e77);(try simp only[go_sem,simprocAttr] at KM);(try have XK:=hd _ XF);(try simp only[go_sem,simprocAttr] at XK))
 |(refine Xq ?_ ?_;·first|assumption|omega)
 |(with_reducible first|refine CallX.c ?_ _|refine OK.c hr hw ?_ (λ y hr=>?_) _|refine Oe hr hw ?_ (λ y hr=>?_) _)
 |(with_reducible refine Xf (I:=Qi3 N _ _ _) hr 1000 N (λ ex hq hk=>⟨_,_,ex,hq,hk,?_⟩) ?_ _;rotate_left;clear hr;(try clear E);rintro n1 st ⟨v3,v4,ex,hr,hk,⟨_,_,E⟩⟩<;>(obtain _|n1:=n1<;>rw[Qbu] at hr))
 |refine ⟨_,WD _,_,_,_,hr,hk,?_⟩
 |(with_reducible refine Xf (I:=Qi4 N _ _) hr 1000 N (λ ex hq hk=>⟨_,ex,hq,hk,?_⟩) ?_ _;rotate_left;clear hr;(try clear E);rintro n2 st ⟨v17,ex,hr,hk,⟨_,_,E⟩⟩<;>(obtain _|n2:=n2<;>rw[Qb6] at hr))
 |refine ⟨_,WD _,_,_,hr,hk,?_⟩
 |(with_reducible refine Xf (I:=Qil N _ _) hr 1000 N (λ ex hq hk=>⟨_,ex,hq,hk,?_⟩) ?_ _;rotate_left;clear hr;(try clear E);rintro n1 st ⟨v3,ex,hr,hk,E⟩<;>(obtain _|n1:=n1<;>rw[Qar] at hr))
 |(with_reducible refine Xf (I:=Qi5 N _ _) hr 1000 N (λ ex hq hk=>⟨_,_,ex,hq,hk,?_⟩) ?_ _;rotate_left;clear hr;(try clear E);rintro n1 st ⟨v4,v5,ex,hr,hk,⟨_,_,_,_,E⟩⟩<;>(obtain _|n1:=n1<;>rw[QcG] at hr))
 |(with_reducible refine Xf (I:=Qh5 N _ _) hr 1000 N (λ ex hq hk=>⟨_,_,ex,hq,hk,?_⟩) ?_ _;rotate_left;clear hr;(try clear E);rintro n1 st ⟨v3,v4,ex,hr,hk,⟨_,E⟩⟩<;>(obtain _|n1:=n1<;>rw[QbN] at hr))
 |(with_reducible refine Xf (I:=Qi6 N _) hr 1000 N (λ ex hq hk=>⟨_,_,ex,hq,hk,?_⟩) ?_ _;rotate_left;clear hr;(try clear E);rintro n1 st ⟨v4,v5,ex,hr,hk,⟨_,_,E⟩⟩<;>(obtain _|n1:=n1<;>rw[Qca] at hr))
 |refine db 30 10 hf 68 [(0,31998,[]),(0,31869,[]),(0,31755,[]),(0,31751,[]),(12,31747,[]),(28,31747,[]),(60,31747,[]),(126,31745,[]),(255,31744,[]),(511,31744,[]),(0,3071,[]),(0,2047,[]),(3072,1023,[]),(7168,1023,[]),(15360,1023,[]),(32767,0,[]),(65535,0,[]),(131071,0,[[1664],[]])] rfl rfl (by kernel_rfl) ?_ _
 |refine db 30 14 hf 92 [(0,964,[]),(1,964,[]),(0,963,[]),(7,960,[]),(15,960,[]),(31,960,[]),(0,191,[]),(0,127,[]),(192,63,[]),(448,63,[]),(1023,0,[])] rfl rfl (by kernel_rfl) ?_ _
 |refine db 266 9 hf 7 [(0,962072674305,[[],[448]]),(1,962072674305,[[],[448]]),(0,377957122049,[[],[448]]),(0,240518168577,[[],[448]]),(12,103079215105,[[],[448]]),(31,1,[[],[448]]),(63,1,[[],[448]]),(0,4363686772736,[[448],[]]),(255,0,[[448],[]])] rfl rfl (by kernel_rfl) ?_ _
 |(refine Xn hr ?_;rintro rfl;with_reducible refine XM ?_)
 |exact Yw hr
 |((first|refine XB (c:=true) hr rfl ?_|refine XB (c:=false) hr rfl ?_|refine XB hr (by assumption) ?_);intro hr)
 |fail)
@[reducible,instance] def QmW:=g32.1
@[reducible,instance] def Ql8:=g32.2.1
@[reducible,instance] def QmX:=g32.2.2.1
@[reducible,instance] def QlF:=g32.2.2.2.1
@[reducible,instance] def QmY:=g32.2.2.2.2
end Go.Sx
