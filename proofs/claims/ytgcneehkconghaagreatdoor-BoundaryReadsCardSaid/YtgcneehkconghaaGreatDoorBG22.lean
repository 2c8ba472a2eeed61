import Derived.Test.YtgcneehkconghaaGreatDoorBF
import Derived.Test.YtgcneehkconghaaGreatDoorBG0
import Derived.Test.YtgcneehkconghaaGreatDoorBG1
import Derived.Test.YtgcneehkconghaaGreatDoorBG8
import Derived.Test.YtgcneehkconghaaGreatDoorBG9
import Derived.Test.YtgcneehkconghaaGreatDoorBG13
import Derived.Test.YtgcneehkconghaaGreatDoorBG16
import Derived.Test.YtgcneehkconghaaGreatDoorBG19
import Derived.Test.YtgcneehkconghaaGreatDoorBG21
set_option linter.all false
namespace Go.Sx
open Go.Proofs
set_option maxRecDepth 10000
set_option maxHeartbeats 100000000
abbrev Qi3:=λ N (a0:Wo) (a1:List UE) (y2:List Int × Int) (Q:(Ex Bool (List Int))→Prop) n (st:St)=>∃ (v3:Int) (v4:List Int) (ex:_),Qbn N a0 a1 y2 n v3 v4=some ex/\Q ex/\((∃ w1664 w128,st.n=103/\st.s 1664=some (w1664,.arr false 3 1 (v4.map e3) 0)/\st.t 1=.isl 119 2 (a1.map YT)/\st.t 2=.ept 128 w128 6 0 0/\st.t 5=.isl 39 1 (y2.1.map e39)/\st.t 7=.osl 1664 w1664 1 0 v4.length/\st.t 8=.v (.int .i64 v3)/\st.s 128=some (w128,.arr true 27 6 [e27 a0] 0)))
abbrev Qi4:=λ N (a0:Wo) (y16:List Int) (Q:(Ex Bool Unit)→Prop) n (st:St)=>∃ (v17:Int) (ex:_),QbM N a0 y16 n v17=some ex/\Q ex/\((∃ w1664 w128,st.n=103/\st.s 1664=some (w1664,.arr false 3 1 (y16.map e3) 0)/\st.t 2=.ept 128 w128 6 0 0/\st.t 7=.osl 1664 w1664 1 0 y16.length/\st.t 9=.v (.int .i64 v17)/\st.s 128=some (w128,.arr true 27 6 [e27 a0] 0)))
abbrev Qil:=λ N (a1:List Int) (y2:List Int × Int) (Q:(Ex Bool Unit)→Prop) n (st:St)=>∃ (v3:Int) (ex:_),Qap N a1 y2 n v3=some ex/\Q ex/\((st.n=36/\st.t 1=.isl 39 1 (a1.map e39)/\st.t 5=.isl 39 1 (y2.1.map e39)/\st.t 7=.v (.int .i64 v3)))
abbrev Qi5:=λ N (a0:Wo) (y3:List Int × Int) (Q:(List Wx)→Prop) n (st:St)=>∃ (v4:Int) (v5:List Wx) (ex:_),Qcd N a0 y3 n v4 v5=some ex/\Q ex/\((∃ w1472 w64 w128 w256,st.n=61/\st.s 1472=some (w1472,.arr false 175 4 (v5.map XB) 0)/\st.t 1=.ept 64 w64 6 0 0/\st.t 2=.ept 128 w128 16 0 0/\st.t 4=.ept 256 w256 16 0 0/\st.t 5=.v (.int .i64 v4)/\st.s 64=some (w64,.arr true 27 6 [e27 a0] 0)/\st.s 128=some (w128,.arr true 232 16 [[.v (.int .i64 0),.v (.int .i64 0),.nsl,.nsl,.v (.int .i64 0),.v (.int .i64 0),.nsl,.nsl,.nsl,.v (.int .i64 0),.v (.int .i64 0),.v (.int .i64 0),.v (.int .i64 0),.v (.int .i64 0),.v (.int .i64 0),.v (.int .i64 0)]] 0)/\st.s 256=some (w256,.arr true 232 16 [[.v (.int .i64 a0.Conf.PageWords),.v (.int .i64 a0.Conf.Pages),.isl 39 1 (a0.Words.map e39),.osl 1472 w1472 4 0 v5.length,.v (.int .i64 a0.Space),.v (.int .i64 a0.Bump),.isl 39 1 (y3.1.map e39),.nsl,.nsl,.v (.int .i64 0),.v (.int .i64 0),.v (.int .i64 0),.v (.int .i64 0),.v (.int .i64 0),.v (.int .i64 0),.v (.int .i64 0)]] 0)))
abbrev Qh5:=λ N (a0:Wo) (a1:Int) (Q:Int→Prop) n (st:St)=>∃ (v3:Int) (v4:Int) (ex:_),Qby N a0 a1 n v3 v4=some ex/\Q ex/\((∃ w128,st.n=65/\st.t 1=.v (.int .u64 a1)/\st.t 2=.ept 128 w128 6 0 0/\st.t 5=.v (.int .i64 v3)/\st.t 6=.v (.int .i64 v4)/\st.s 128=some (w128,.arr true 27 6 [e27 a0] 0)))
abbrev Qi6:=λ N (a0:Wo) (Q:Int→Prop) n (st:St)=>∃ (v4:Int) (v5:Int) (ex:_),QbP N a0 n v4 v5=some ex/\Q ex/\((∃ w64 w128,st.n=50/\st.t 1=.ept 64 w64 6 0 0/\st.t 2=.ept 128 w128 3 0 0/\st.t 5=.v (.int .i64 v4)/\st.t 25=.isl 175 4 (a0.Pages.map XB)/\st.t 26=.v (.int .i64 ((a0.Pages.length:Nat):Int))/\st.t 27=.v (.int .i64 v5)/\st.s 64=some (w64,.arr true 27 6 [e27 a0] 0)/\st.s 128=some (w128,.arr true 264 3 [[.v (.int .i64 0),.v (.int .i64 0),.v (.int .u64 0)]] 0)))
theorem g33:(∀ N (a0:Wo) (a1:List UE),OK (QbW N a0 a1) 59 [.agg (e27 a0),.isl 119 2 (a1.map YT)] [] (λ r=>.v (.bool r)) λ r=>[])/\(∀ N (a0:Wo) (a1:List Int),OK (Qbv N a0 a1) 65 [.agg (e27 a0),.isl 39 1 (a1.map e39)] [] (λ r=>.v (.bool r)) λ r=>[])/\(∀ N (a0:Wo),OK (Qec N a0) 182 [.agg (e27 a0)] [] (λ r=>.tup [.agg (Kg r.1),.v (.int .i64 r.2)]) λ r=>[])/\(∀ N (a0:Wo) (a1:Int),OK (QcG N a0 a1) 285 [.agg (e27 a0),.v (.int .u64 a1)] [] (λ r=>.v (.bool r)) λ r=>[])/\(∀ N (a0:Wo),OK (Qgx N a0) 217 [.agg (e27 a0)] [] (λ r=>.agg (Xls r)) λ r=>[]):=by
 refine ⟨λ N _ _=>rn Tryz.f59 [.tmp 4] [] 103 (by kernel_rfl) ?_,λ N _ _=>rn Tryz.f65 [.tmp 4] [] 36 (by kernel_rfl) ?_,λ N _=>rn Tryz.f182 [.cell 2 232,.tmp 3] [] 61 (by kernel_rfl) ?_,λ N _ _=>rn Tryz.f285 [.tmp 4] [] 65 (by kernel_rfl) ?_,λ N _=>rn Tryz.f217 [.cell 2 264] [] 50 (by kernel_rfl) ?_⟩<;>(rintro _ hw r hr C _ rfl hwf hf;simp only[Tryz.f59,Tryz.f65,Tryz.f182,Tryz.f285,Tryz.f217,Option.get!];(first|rw[QbW] at hr|rw[Qbv] at hr|rw[Qec] at hr|rw[QcG] at hr|rw[Qgx] at hr);repeat' first
 |(refine El.el hr ?_;intro hr)
 |(with_reducible intro h;refine Xw hr h ?_;intro hr)
 |with_reducible intro _
 |(refine Xn hr ?_;rintro rfl;have hr:=hk;clear hk)
 |simp only[go_sem,simprocAttr,E,hl3,XQ,Zd,XE]
 |(with_reducible first|apply Xg|apply Xf|apply Xo|apply Xt|apply Xu)
 |((first|with_reducible refine Yb hr (by assumption) ?_ ?_|(with_reducible refine X7 hr ?_ ?_;rotate_left;intro p;rotate_right));(·simp only[go_sem,simprocAttr]);intro hp hn hd hr;(try have hl3:=hd _ e3);(try simp only[go_sem,simprocAttr] at hl3);(try have XQ:=hd _ e39);(try simp only[go_sem,simprocAttr] at XQ);(try have Zd:=hd _ YT);(try simp only[go_sem,simprocAttr] at Zd);(try have XE:=hd _ XB);(try simp only[go_sem,simprocAttr] at XE))
 |(refine Xp ?_ ?_;·first|assumption|omega)
 |(with_reducible first|refine CallX.c ?_ _|refine OK.c hr hw ?_ (λ y hr=>?_) _|refine IX hr hw ?_ (λ y hr=>?_) _)
 |(with_reducible refine Xe (I:=Qi3 N _ _ _) hr 1000 N (λ ex hq hk=>⟨_,_,ex,hq,hk,?_⟩) ?_ _;rotate_left;clear hr;(try clear E);rintro n1 st ⟨v3,v4,ex,hr,hk,⟨_,_,E⟩⟩<;>(obtain _|n1:=n1<;>rw[Qbn] at hr))
 |refine ⟨_,WA _,_,_,_,hr,hk,?_⟩
 |(with_reducible refine Xe (I:=Qi4 N _ _) hr 1000 N (λ ex hq hk=>⟨_,ex,hq,hk,?_⟩) ?_ _;rotate_left;clear hr;(try clear E);rintro n2 st ⟨v17,ex,hr,hk,⟨_,_,E⟩⟩<;>(obtain _|n2:=n2<;>rw[QbM] at hr))
 |refine ⟨_,WA _,_,_,hr,hk,?_⟩
 |(with_reducible refine Xe (I:=Qil N _ _) hr 1000 N (λ ex hq hk=>⟨_,ex,hq,hk,?_⟩) ?_ _;rotate_left;clear hr;(try clear E);rintro n1 st ⟨v3,ex,hr,hk,E⟩<;>(obtain _|n1:=n1<;>rw[Qap] at hr))
 |(with_reducible refine Xe (I:=Qi5 N _ _) hr 1000 N (λ ex hq hk=>⟨_,_,ex,hq,hk,?_⟩) ?_ _;rotate_left;clear hr;(try clear E);rintro n1 st ⟨v4,v5,ex,hr,hk,⟨_,_,_,_,E⟩⟩<;>(obtain _|n1:=n1<;>rw[Qcd] at hr))
 |(with_reducible refine Xe (I:=Qh5 N _ _) hr 1000 N (λ ex hq hk=>⟨_,_,ex,hq,hk,?_⟩) ?_ _;rotate_left;clear hr;(try clear E);rintro n1 st ⟨v3,v4,ex,hr,hk,⟨_,E⟩⟩<;>(obtain _|n1:=n1<;>rw[Qby] at hr))
 |(with_reducible refine Xe (I:=Qi6 N _) hr 1000 N (λ ex hq hk=>⟨_,_,ex,hq,hk,?_⟩) ?_ _;rotate_left;clear hr;(try clear E);rintro n1 st ⟨v4,v5,ex,hr,hk,⟨_,_,E⟩⟩<;>(obtain _|n1:=n1<;>rw[QbP] at hr))
 |refine db 59 10 hf 68 [(0,31998,[]),(0,31869,[]),(0,31755,[]),(0,31751,[]),(12,31747,[]),(28,31747,[]),(60,31747,[]),(126,31745,[]),(255,31744,[]),(511,31744,[]),(0,3071,[]),(0,2047,[]),(3072,1023,[]),(7168,1023,[]),(15360,1023,[]),(32767,0,[]),(65535,0,[]),(131071,0,[[1664],[]])] rfl rfl (by kernel_rfl) ?_ _
 |refine db 59 14 hf 92 [(0,964,[]),(1,964,[]),(0,963,[]),(7,960,[]),(15,960,[]),(31,960,[]),(0,191,[]),(0,127,[]),(192,63,[]),(448,63,[]),(1023,0,[])] rfl rfl (by kernel_rfl) ?_ _
 |refine db 285 9 hf 7 [(0,962072674305,[[],[448]]),(1,962072674305,[[],[448]]),(0,377957122049,[[],[448]]),(0,240518168577,[[],[448]]),(12,103079215105,[[],[448]]),(31,1,[[],[448]]),(63,1,[[],[448]]),(0,4363686772736,[[448],[]]),(255,0,[[448],[]])] rfl rfl (by kernel_rfl) ?_ _
 |(refine Xn hr ?_;rintro rfl;with_reducible refine XF ?_)
 |exact Yj hr
 |((first|refine Xw (c:=true) hr rfl ?_|refine Xw (c:=false) hr rfl ?_|refine Xw hr (by assumption) ?_);intro hr)
 |fail)
@[reducible,instance] def Qm1:=g33.1
@[reducible,instance] def Qmb:=g33.2.1
@[reducible,instance] def Qm2:=g33.2.2.1
@[reducible,instance] def QlE:=g33.2.2.2.1
@[reducible,instance] def Qm3:=g33.2.2.2.2
end Go.Sx
