import Derived.Test.YtbikeogjhdcfmaaGreatVF
import Derived.Test.YtbikeogjhdcfmaaGreatVG0
import Derived.Test.YtbikeogjhdcfmaaGreatVG1
import Derived.Test.YtbikeogjhdcfmaaGreatVG3
import Derived.Test.YtbikeogjhdcfmaaGreatVG5
import Derived.Test.YtbikeogjhdcfmaaGreatVG6
import Derived.Test.YtbikeogjhdcfmaaGreatVG7
import Derived.Test.YtbikeogjhdcfmaaGreatVG9
import Derived.Test.YtbikeogjhdcfmaaGreatVG10
import Derived.Test.YtbikeogjhdcfmaaGreatVG11
import Derived.Test.YtbikeogjhdcfmaaGreatVG13
import Derived.Test.YtbikeogjhdcfmaaGreatVG14
set_option linter.all false
namespace Go.Sx
open Go.Proofs
set_option maxRecDepth 10000
set_option maxHeartbeats 100000000
theorem g22:(∀ N (a0:Wn) (a1:Int),OK (Qd3 N a0 a1) 231 [.agg (e27 a0),.v (.int .u64 a1)] [] (λ r=>.tup [.isl 71 1 (r.1.map e71),.v (.int .i64 r.2)]) λ r=>[])/\(∀ N (a0:Wn) (a1:Int) (a2:Int),OK (Qbm N a0 a1 a2) 195 [.agg (e27 a0),.v (.int .u64 a1),.v (.int .i64 a2)] [] (λ r=>.tup [.v (.int .u64 r.1),.v (.int .i64 r.2)]) λ r=>[])/\(∀ N (a0:WM) (a1:Int) (a2:Int) (a3:Int) (a4:Int),OK (Qfw N a0 a1 a2 a3 a4) 208 [.agg (e59 a0),.v (.int .i64 a1),.v (.int .u64 a2),.v (.int .u64 a3),.v (.int .u64 a4)] [] (λ r=>.v (.int .i64 r)) λ r=>[])/\(∀ N (a0:WM) (a1:Int) (a2:Int),OK (Qf4 N a0 a1 a2) 210 [.agg (e59 a0),.v (.int .i64 a1),.v (.int .u64 a2)] [] (λ r=>.v (.int .i64 r)) λ r=>[])/\(∀ N (a0:WM) (a1:Int) (a2:Int) (a3:Bool),OK (Qgm N a0 a1 a2 a3) 212 [.agg (e59 a0),.v (.int .i64 a1),.v (.int .u64 a2),.v (.bool a3)] [] (λ r=>.v (.int .i64 r)) λ r=>[])/\(∀ N (a0:WM) (a1:Int) (a2:Int) (a3:Int),OK (Qf5 N a0 a1 a2 a3) 213 [.agg (e59 a0),.v (.int .i64 a1),.v (.int .u64 a2),.v (.int .u64 a3)] [] (λ r=>.v (.int .i64 r)) λ r=>[])/\(∀ N (a0:Wn) (a1:Int),OK (QeM N a0 a1) 222 [.agg (e27 a0),.v (.int .u64 a1)] [] (λ r=>.tup [.agg (e82 r.1),.v (.int .i64 r.2)]) λ r=>[])/\(∀ N (a0:Wn) (a1:Int) (a2:Wz),OK (Qfm N a0 a1 a2) 113 [.agg (e27 a0),.v (.int .u64 a1),.agg (e82 a2)] [] (λ r=>.tup [.agg (e27 r.1),.v (.int .i64 r.2)]) λ r=>[]):=by
 refine ⟨λ N _ _=>rn Tryz.f231 [.tmp 4,.tmp 5] [] 26 (by kernel_rfl) ?_,λ N _ _ _=>rn Tryz.f195 [.tmp 6,.tmp 7] [] 37 (by kernel_rfl) ?_,λ N _ _ _ _ _=>rn Tryz.f208 [.tmp 10] [] 68 (by kernel_rfl) ?_,λ N _ _ _=>rn Tryz.f210 [.tmp 6] [] 34 (by kernel_rfl) ?_,λ N _ _ _ _=>rn Tryz.f212 [.tmp 8] [] 52 (by kernel_rfl) ?_,λ N _ _ _ _=>rn Tryz.f213 [.tmp 8] [] 48 (by kernel_rfl) ?_,λ N _ _=>rn Tryz.f222 [.cell 4 82,.tmp 5] [] 79 (by kernel_rfl) ?_,λ N _ _ _=>rn Tryz.f113 [.cell 6 27,.tmp 7] [] 45 (by kernel_rfl) ?_⟩<;>(rintro _ hw r hr C _ rfl hwf hf;simp only[Tryz.f231,Tryz.f195,Tryz.f208,Tryz.f210,Tryz.f212,Tryz.f213,Tryz.f222,Tryz.f113,Option.get!];(first|rw[Qd3] at hr|rw[Qbm] at hr|rw[Qfw] at hr|rw[Qf4] at hr|rw[Qgm] at hr|rw[Qf5] at hr|rw[QeM] at hr|rw[Qfm] at hr);repeat' first
 |(refine El.el hr ?_;intro hr)
 |(with_reducible intro h;refine XB hr h ?_;intro hr)
 |with_reducible intro _
 |simp only[go_sem,simprocAttr,XU,XK,ZY,KG]
 |(with_reducible first|apply Xk|apply Xj|apply Xp|apply Xr|apply Xs)
 |((first|with_reducible refine Yk hr (by assumption) ?_ ?_|(with_reducible refine Yf hr ?_ ?_;rotate_left;intro p;rotate_right));(·simp only[go_sem,simprocAttr]);intro hp hn hd hr;(try have XU:=hd _ e71);(try simp only[go_sem,simprocAttr] at XU);(try have XK:=hd _ XF);(try simp only[go_sem,simprocAttr] at XK);(try have ZY:=hd _ Xat);(try simp only[go_sem,simprocAttr] at ZY);(try have KG:=hd _ Xd3);(try simp only[go_sem,simprocAttr] at KG))
 |(refine Xq ?_ ?_;·first|assumption|omega)
 |(with_reducible refine Xm9 hr ?_ ?_;(·simp only[go_sem]);intro p hp hn hd hr;(try have XU:=hd _ e71);(try simp only[go_sem,simprocAttr] at XU);(try have XK:=hd _ XF);(try simp only[go_sem,simprocAttr] at XK);(try have ZY:=hd _ Xat);(try simp only[go_sem,simprocAttr] at ZY);(try have KG:=hd _ Xd3);(try simp only[go_sem,simprocAttr] at KG);(try simp only[WC] at hn))
 |(with_reducible first|refine CallX.c ?_ _|refine OK.c hr hw ?_ (λ y hr=>?_) _|refine Oe hr hw ?_ (λ y hr=>?_) _)
 |refine db 208 11 hf 51 [(0,124,[]),(1,124,[]),(0,19,[]),(4,19,[]),(0,15,[]),(28,3,[]),(60,3,[]),(127,0,[]),(255,0,[])] rfl rfl (by kernel_rfl) ?_ _
 |(refine Xn hr ?_;rintro rfl;with_reducible refine XM ?_)
 |exact Yw hr
 |fail)
@[reducible,instance] def Ql4:=g22.1
@[reducible,instance] def QmO:=g22.2.1
@[reducible,instance] def Ql5:=g22.2.2.1
@[reducible,instance] def QmP:=g22.2.2.2.1
@[reducible,instance] def QnX:=g22.2.2.2.2.1
@[reducible,instance] def QmQ:=g22.2.2.2.2.2.1
@[reducible,instance] def Qow:=g22.2.2.2.2.2.2.1
@[reducible,instance] def QmR:=g22.2.2.2.2.2.2.2
abbrev QjP:=λ N (a0:Wn) (a1:Int) (y3:List Bool) (Q:(Ex Int Unit)→Prop) n (st:St)=>∃ (v4:Int) (ex:_),QbS N a0 a1 y3 n v4=some ex/\Q ex/\((∃ w128,st.n=43/\st.t 1=.v (.int .i64 a1)/\st.t 2=.ept 128 w128 6 0 0/\st.t 7=.isl 4 1 (y3.map e4)/\st.t 8=.v (.int .i64 v4)/\st.s 128=some (w128,.arr true 27 6 [e27 a0] 0)))
abbrev Qij:=λ N (a0:Wn) (Q:(Ex (List Int × Int) (List Int))→Prop) n (st:St)=>∃ (v2:Int) (v3:List Int) (ex:_),QaO N a0 n v2 v3=some ex/\Q ex/\((∃ w1856 w64,st.n=31/\st.s 1856=some (w1856,.arr false 71 1 (v3.map e71) 0)/\st.t 1=.ept 64 w64 6 0 0/\st.t 4=.osl 1856 w1856 1 0 v3.length/\st.t 5=.v (.int .i64 v2)/\st.s 64=some (w64,.arr true 27 6 [e27 a0] 0))\/(∃ w64,(st.n=31/\st.t 1=.ept 64 w64 6 0 0/\st.t 4=.nsl/\st.t 5=.v (.int .i64 v2)/\st.s 64=some (w64,.arr true 27 6 [e27 a0] 0))/\v3=[]))
theorem g23:(∀ N (a0:Wn) (a1:Int),OK (Qek N a0 a1) 230 [.agg (e27 a0),.v (.int .i64 a1)] [] (λ r=>.v (.int .u64 r)) λ r=>[])/\(∀ N (a0:Wn),OK (QcM N a0) 99 [.agg (e27 a0)] [] (λ r=>.tup [.isl 71 1 (r.1.map e71),.v (.int .i64 r.2)]) λ r=>[]):=by
 refine ⟨λ N _ _=>rn Tryz.f230 [.tmp 4] [] 43 (by kernel_rfl) ?_,λ N _=>rn Tryz.f99 [.tmp 2,.tmp 3] [] 31 (by kernel_rfl) ?_⟩<;>(rintro _ hw r hr C _ rfl hwf hf;simp only[Tryz.f230,Tryz.f99,Option.get!];(first|rw[Qek] at hr|rw[QcM] at hr);repeat' first
 |(refine El.el hr ?_;intro hr)
 |(with_reducible intro h;refine XB hr h ?_;intro hr)
 |with_reducible intro _
 |(refine Xn hr ?_;rintro rfl;have hr:=hk;clear hk)
 |simp only[go_sem,simprocAttr,E,hl4]
 |(with_reducible first|apply Xk|apply Xj|apply Xp|apply Xr|apply Xs)
 |((first|with_reducible refine Yk hr (by assumption) ?_ ?_|(with_reducible refine Yf hr ?_ ?_;rotate_left;intro p;rotate_right));(·simp only[go_sem,simprocAttr]);intro hp hn hd hr;(try have hl4:=hd _ e4);(try simp only[go_sem,simprocAttr] at hl4))
 |(refine Xq ?_ ?_;·first|assumption|omega)
 |(with_reducible first|refine CallX.c ?_ _|refine OK.c hr hw ?_ (λ y hr=>?_) _|refine Oe hr hw ?_ (λ y hr=>?_) _)
 |(with_reducible refine Xf (I:=QjP N _ _ _) hr 1000 N (λ ex hq hk=>⟨_,ex,hq,hk,?_⟩) ?_ _;rotate_left;clear hr;(try clear E);rintro n1 st ⟨v4,ex,hr,hk,⟨_,E⟩⟩<;>(obtain _|n1:=n1<;>rw[QbS] at hr))
 |refine ⟨_,WD _,_,_,hr,hk,?_⟩
 |(with_reducible refine Xf (I:=Qij N _) hr 1000 N (λ ex hq hk=>⟨_,_,ex,hq,hk,?_⟩) ?_ _;rotate_left;clear hr;(try clear E);rintro n1 st ⟨v2,v3,ex,hr,hk,(⟨_,_,E⟩|⟨_,E,z0⟩)⟩<;>(try subst z0)<;>(obtain _|n1:=n1<;>rw[QaO] at hr))
 |refine ⟨_,WD _,_,_,_,hr,hk,?_⟩
 |refine db 230 1 hf 5 [(0,448,[]),(0,160,[]),(0,96,[]),(6,32,[]),(15,0,[]),(31,0,[]),(63,2048,[]),(63,1025,[]),(127,2048,[]),(511,0,[])] rfl rfl (by kernel_rfl) ?_ _
 |(refine Xn hr ?_;rintro rfl;with_reducible refine XM ?_)
 |exact Yw hr
 |((first|refine XB (c:=true) hr rfl ?_|refine XB (c:=false) hr rfl ?_|refine XB hr (by assumption) ?_);intro hr)
 |fail)
@[reducible,instance] def QnY:=g23.1
@[reducible,instance] def Ql6:=g23.2
end Go.Sx
