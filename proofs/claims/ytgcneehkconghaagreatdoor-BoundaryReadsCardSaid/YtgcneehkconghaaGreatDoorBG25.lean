import Derived.Test.YtgcneehkconghaaGreatDoorBF
import Derived.Test.YtgcneehkconghaaGreatDoorBG4
import Derived.Test.YtgcneehkconghaaGreatDoorBG5
import Derived.Test.YtgcneehkconghaaGreatDoorBG7
import Derived.Test.YtgcneehkconghaaGreatDoorBG8
import Derived.Test.YtgcneehkconghaaGreatDoorBG9
import Derived.Test.YtgcneehkconghaaGreatDoorBG14
import Derived.Test.YtgcneehkconghaaGreatDoorBG20
import Derived.Test.YtgcneehkconghaaGreatDoorBG21
import Derived.Test.YtgcneehkconghaaGreatDoorBG23
import Derived.Test.YtgcneehkconghaaGreatDoorBG24
set_option linter.all false
namespace Go.Sx
open Go.Proofs
set_option maxRecDepth 10000
set_option maxHeartbeats 100000000
abbrev Qh7:=λ N (a0:Uh) (y4:Wo × List Int × List Int × Us × Int) (y5:List Int) (y6:List Int) (y7:Wq × Int) (y8:Wy × Int) (y9:Wy × Int) (Q:(List UE)→Prop) n (st:St)=>∃ (v10:Int) (v11:List UE) (ex:_),Qa0 N a0 y4 y5 y6 y7 y8 y9 n v10 v11=some ex/\Q ex/\((∃ w3328 w7872 w64 w128 w192 w512 w640,st.n=127/\st.s 3328=some (w3328,.arr false 39 1 ((y4.2.1.take ((a0.Roots.length:Nat):Int).toNat).map e39) 0)/\st.s 7872=some (w7872,.arr false 119 2 (v11.map YT) 0)/\st.t 1=.ept 64 w64 13 0 0/\st.t 2=.ept 128 w128 13 0 0/\st.t 3=.ept 192 w192 6 0 0/\st.t 6=.isl 39 1 (y4.2.1.map e39)/\st.t 8=.ept 512 w512 6 0 0/\st.t 10=.ept 640 w640 13 0 0/\st.t 11=.v (.int .i64 ((a0.Roots.length:Nat):Int))/\st.t 12=.v (.int .i64 ((y5.length:Nat):Int))/\st.t 13=.v (.int .i64 ((y6.length:Nat):Int))/\st.t 14=.v (.int .i64 v10)/\st.s 64=some (w64,.arr true 38 13 [e38 a0] 0)/\st.s 128=some (w128,.arr true 38 13 [[.v (.int .i64 0),.v (.int .i64 0),.nsl,.nsl,.v (.int .i64 0),.v (.int .i64 0),.nsl,.nsl,.nsl,.nsl,.nsl,.nsl,.nsl]] 0)/\st.s 192=some (w192,.arr true 100 6 [[.v (.int .i64 0),.v (.int .i64 0),.v (.int .i64 0),.v (.int .i64 0),.v (.int .i64 0),.v (.int .i64 0)]] 0)/\st.s 512=some (w512,.arr true 100 6 [Xjx y4.2.2.2.1] 0)/\st.s 640=some (w640,.arr true 38 13 [[.v (.int .i64 y4.1.Conf.PageWords),.v (.int .i64 y4.1.Conf.Pages),.isl 39 1 (y4.1.Words.map e39),.isl 175 4 (y4.1.Pages.map XB),.v (.int .i64 y4.1.Space),.v (.int .i64 y4.1.Bump),.isl 115 3 (y7.1.Slots.map Zg),.isl 98 3 (y7.1.Scopes.map e98),.isl 3 1 (y7.1.Issued.map e3),.isl 117 3 (y8.1.Entries.map Ym),.isl 117 3 (y9.1.Entries.map Ym),.osl 7872 w7872 2 0 v11.length,.osl 3328 w3328 1 0 (min (((a0.Roots.length:Nat):Int).toNat) y4.2.1.length)]] 0))\/(∃ w3328 w64 w128 w192 w512 w640,(st.n=127/\st.s 3328=some (w3328,.arr false 39 1 ((y4.2.1.take ((a0.Roots.length:Nat):Int).toNat).map e39) 0)/\st.t 1=.ept 64 w64 13 0 0/\st.t 2=.ept 128 w128 13 0 0/\st.t 3=.ept 192 w192 6 0 0/\st.t 6=.isl 39 1 (y4.2.1.map e39)/\st.t 8=.ept 512 w512 6 0 0/\st.t 10=.ept 640 w640 13 0 0/\st.t 11=.v (.int .i64 ((a0.Roots.length:Nat):Int))/\st.t 12=.v (.int .i64 ((y5.length:Nat):Int))/\st.t 13=.v (.int .i64 ((y6.length:Nat):Int))/\st.t 14=.v (.int .i64 v10)/\st.s 64=some (w64,.arr true 38 13 [e38 a0] 0)/\st.s 128=some (w128,.arr true 38 13 [[.v (.int .i64 0),.v (.int .i64 0),.nsl,.nsl,.v (.int .i64 0),.v (.int .i64 0),.nsl,.nsl,.nsl,.nsl,.nsl,.nsl,.nsl]] 0)/\st.s 192=some (w192,.arr true 100 6 [[.v (.int .i64 0),.v (.int .i64 0),.v (.int .i64 0),.v (.int .i64 0),.v (.int .i64 0),.v (.int .i64 0)]] 0)/\st.s 512=some (w512,.arr true 100 6 [Xjx y4.2.2.2.1] 0)/\st.s 640=some (w640,.arr true 38 13 [[.v (.int .i64 y4.1.Conf.PageWords),.v (.int .i64 y4.1.Conf.Pages),.isl 39 1 (y4.1.Words.map e39),.isl 175 4 (y4.1.Pages.map XB),.v (.int .i64 y4.1.Space),.v (.int .i64 y4.1.Bump),.isl 115 3 (y7.1.Slots.map Zg),.isl 98 3 (y7.1.Scopes.map e98),.isl 3 1 (y7.1.Issued.map e3),.isl 117 3 (y8.1.Entries.map Ym),.isl 117 3 (y9.1.Entries.map Ym),.nsl,.osl 3328 w3328 1 0 (min (((a0.Roots.length:Nat):Int).toNat) y4.2.1.length)]] 0))/\v11=[]))
abbrev Qkb:=λ N (a0:Wo) (y2:List Int × Bool) (Q:(Ex Bool Unit)→Prop) n (st:St)=>∃ (v3:Int) (ex:_),QdR N a0 y2 n v3=some ex/\Q ex/\((st.n=41/\st.t 5=.isl 3 1 (y2.1.map e3)/\st.t 26=.isl 175 4 (a0.Pages.map XB)/\st.t 27=.v (.int .i64 ((a0.Pages.length:Nat):Int))/\st.t 28=.v (.int .i64 v3)))
theorem g37:(∀ N (a0:Uh),OK (QcE N a0) 40 [.agg (e38 a0)] [] (λ r=>.tup [.agg (e38 r.1),.agg (Xjx r.2.1),.v (.int .i64 r.2.2)]) λ r=>[])/\(∀ N (a0:Wo) (a1:List UE),OK (QgC N a0 a1) 48 [.agg (e27 a0),.isl 119 2 (a1.map YT)] [] (λ r=>.v (.bool r)) λ r=>[]):=by
 refine ⟨λ N _=>rn Tryz.f40 [.cell 2 38,.cell 3 100,.tmp 4] [] 127 (by kernel_rfl) ?_,λ N _ _=>rn Tryz.f48 [.tmp 4] [] 41 (by kernel_rfl) ?_⟩<;>(rintro _ hw r hr C _ rfl hwf hf;simp only[Tryz.f40,Tryz.f48,Option.get!];(first|rw[QcE] at hr|rw[QgC] at hr);repeat' first
 |(refine El.el hr ?_;intro hr)
 |(with_reducible intro h;refine Xw hr h ?_;intro hr)
 |with_reducible intro _
 |(refine Xn hr ?_;rintro rfl;have hr:=hk;clear hk)
 |simp only[go_sem,simprocAttr,E,hl3,XQ,Zd,XE,Wz,WM,Uv]
 |(with_reducible first|apply Xg|apply Xf|apply Xo|apply Xt|apply Xu)
 |((first|with_reducible refine Yb hr (by assumption) ?_ ?_|(with_reducible refine X7 hr ?_ ?_;rotate_left;intro p;rotate_right));(·simp only[go_sem,simprocAttr,Wz,WM,Uv]);intro hp hn hd hr;(try have hl3:=hd _ e3);(try simp only[go_sem,simprocAttr] at hl3);(try have XQ:=hd _ e39);(try simp only[go_sem,simprocAttr] at XQ);(try have Zd:=hd _ YT);(try simp only[go_sem,simprocAttr] at Zd);(try have XE:=hd _ XB);(try simp only[go_sem,simprocAttr] at XE))
 |(refine Xp ?_ ?_;·first|assumption|omega)
 |(with_reducible first|refine CallX.c ?_ _|refine OK.c hr hw ?_ (λ y hr=>?_) _|refine IX hr hw ?_ (λ y hr=>?_) _)
 |(with_reducible refine Xe (I:=Qh7 N _ _ _ _ _ _ _) hr 1000 N (λ ex hq hk=>⟨_,_,ex,hq,hk,?_⟩) ?_ _;rotate_left;clear hr;(try clear E);rintro n1 st ⟨v10,v11,ex,hr,hk,(⟨_,_,_,_,_,_,_,E⟩|⟨_,_,_,_,_,_,E,z0⟩)⟩<;>(try subst z0)<;>(obtain _|n1:=n1<;>rw[Qa0] at hr))
 |refine ⟨_,WA _,_,_,_,hr,hk,?_⟩
 |(with_reducible refine Xe (I:=Qkb N _ _) hr 1000 N (λ ex hq hk=>⟨_,ex,hq,hk,?_⟩) ?_ _;rotate_left;clear hr;(try clear E);rintro n1 st ⟨v3,ex,hr,hk,E⟩<;>(obtain _|n1:=n1<;>rw[QdR] at hr))
 |refine ⟨_,WA _,_,_,hr,hk,?_⟩
 |refine db 40 3 hf 5 [(0,8126473,[[],[320,512,1728]]),(1,8126473,[[],[320,512,1728]]),(0,3342345,[[],[320,512]]),(4,3342345,[[],[320,512]]),(0,983049,[[],[320,512]]),(16,983049,[[],[320,512]]),(60,196617,[[1728],[320,512]]),(127,9,[[1728],[320,512]]),(255,9,[[],[320,512]]),(511,503316489,[[],[320,512]]),(511,486539273,[[],[320,512]]),(511,452984843,[[],[320,512]]),(511,385875983,[[],[320,512]]),(511,251658255,[[],[320,512]]),(0,536838152,[[320],[512,1728]]),(0,536838145,[[512],[320,1728]]),(50175,503316480,[[320],[]]),(116735,469762048,[]),(249855,402653184,[]),(516095,268435456,[[512],[]]),(1048575,0,[])] rfl rfl (by kernel_rfl) ?_ _
 |refine db 40 7 hf 11 [(0,2190433320960,[[],[3200]]),(1,2190433320960,[[],[3200]]),(3,2190433320960,[[],[3200]]),(0,419833053184,[]),(8,419833053184,[]),(24,419833053184,[]),(56,2069100494849,[[],[3200]]),(0,136365211648,[]),(128,136365211648,[]),(440,76235669504,[[3200],[]]),(952,76235669507,[]),(959,1168231104512,[]),(3071,1099511627776,[]),(8191,0,[])] rfl rfl (by kernel_rfl) ?_ _
 |refine db 40 9 hf 59 [(0,252,[]),(1,252,[]),(0,123,[]),(0,119,[]),(0,47,[]),(0,31,[]),(48,15,[]),(124,3,[]),(255,0,[]),(511,0,[]),(1023,1024,[]),(1023,2560,[[],[640]]),(2047,1024,[]),(6143,1024,[[640],[]])] rfl rfl (by kernel_rfl) ?_ _
 |refine db 40 10 hf 72 [(0,4092,[]),(1,4092,[]),(0,2043,[]),(0,2007,[]),(0,1999,[]),(24,1991,[]),(0,703,[]),(0,639,[]),(192,575,[]),(0,511,[]),(960,63,[]),(2044,3,[]),(4095,0,[]),(8191,0,[]),(16383,16384,[]),(16383,40960,[[],[640]]),(32767,16384,[]),(98303,16384,[[640],[]])] rfl rfl (by kernel_rfl) ?_ _
 |refine db 40 15 hf 103 [(0,1048572,[[],[7808]]),(1,1048572,[[],[7808]]),(0,259067,[]),(0,258391,[]),(0,258383,[]),(24,258375,[]),(0,258367,[]),(120,258311,[]),(0,258303,[]),(504,258055,[]),(1020,258051,[]),(2044,258051,[]),(0,20479,[]),(4096,20479,[]),(0,16383,[]),(28672,4095,[]),(61440,4095,[]),(126976,4095,[]),(262140,3,[]),(524284,3,[[7808],[]]),(1048575,0,[[7872],[]]),(2097151,0,[]),(4194303,0,[[640],[]])] rfl rfl (by kernel_rfl) ?_ _
 |refine db 40 16 hf 125 [(0,2,[]),(0,1,[[],[128]]),(1,2,[[128],[]]),(7,0,[[192],[]]),(15,0,[])] rfl rfl (by kernel_rfl) ?_ _
 |refine db 48 9 hf 33 [(0,60,[]),(1,60,[]),(0,11,[]),(0,7,[]),(12,3,[]),(28,3,[]),(63,0,[])] rfl rfl (by kernel_rfl) ?_ _
 |(refine Xn hr ?_;rintro rfl;with_reducible refine XF ?_)
 |exact Yj hr
 |((first|refine Xw (c:=true) hr rfl ?_|refine Xw (c:=false) hr rfl ?_|refine Xw hr (by assumption) ?_);intro hr)
 |fail)
@[reducible,instance] def QlH:=g37.1
@[reducible,instance] def QoG:=g37.2
theorem g36:(∀ N (a0:Uh) (a1:Int),OK (QaK N a0 a1) 8 [.agg (e38 a0),.v (.int .u64 a1)] [] (λ r=>.tup [.v (.int .u64 r.1),.v (.int .i64 r.2)]) λ r=>[])/\(∀ N (a0:Wo) (a1:List Int),OK (Qfn N a0 a1) 53 [.agg (e27 a0),.isl 39 1 (a1.map e39)] [] (λ r=>.v (.bool r)) λ r=>[]):=by
 refine ⟨λ N _ _=>rn Tryz.f8 [.tmp 4,.tmp 5] [] 54 (by kernel_rfl) ?_,λ N _ _=>rn Tryz.f53 [.tmp 4] [] 19 (by kernel_rfl) ?_⟩<;>(rintro _ hw r hr C _ rfl hwf hf;simp only[Tryz.f8,Tryz.f53,Option.get!];(first|rw[QaK] at hr|rw[Qfn] at hr);repeat' first
 |(refine El.el hr ?_;intro hr)
 |(with_reducible intro h;refine Xw hr h ?_;intro hr)
 |with_reducible intro _
 |simp only[go_sem,simprocAttr]
 |(with_reducible first|apply Xg|apply Xf|apply Xo)
 |(refine Xp ?_ ?_;·first|assumption|omega)
 |(with_reducible first|refine CallX.c ?_ _|refine OK.c hr hw ?_ (λ y hr=>?_) _)
 |(refine Xn hr ?_;rintro rfl;with_reducible refine XF ?_)
 |exact Yj hr
 |fail)
@[reducible,instance] def QlI:=g36.1
@[reducible,instance] def Qmc:=g36.2
end Go.Sx
