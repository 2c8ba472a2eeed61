import Derived.Test.YtbikeogjhdcfmaaGreatVF
import Derived.Test.YtbikeogjhdcfmaaGreatVG0
import Derived.Test.YtbikeogjhdcfmaaGreatVG6
import Derived.Test.YtbikeogjhdcfmaaGreatVG7
import Derived.Test.YtbikeogjhdcfmaaGreatVG8
import Derived.Test.YtbikeogjhdcfmaaGreatVG9
import Derived.Test.YtbikeogjhdcfmaaGreatVG14
import Derived.Test.YtbikeogjhdcfmaaGreatVG22
import Derived.Test.YtbikeogjhdcfmaaGreatVG24
import Derived.Test.YtbikeogjhdcfmaaGreatVG26
import Derived.Test.YtbikeogjhdcfmaaGreatVG30
set_option linter.all false
namespace Go.Sx
open Go.Proofs
set_option maxRecDepth 10000
set_option maxHeartbeats 100000000
abbrev QhR:=λ N (y4:List W8) (Q:(Ex Bool Unit)→Prop) n (st:St)=>∃ (v5:Int) (ex:_),Qba N y4 n v5=some ex/\Q ex/\((st.n=62/\st.t 37=.isl 38 13 (y4.map e38)/\st.t 38=.v (.int .i64 ((y4.length:Nat):Int))/\st.t 39=.v (.int .i64 v5)))
instance Qli:∀ N (a0:W8) (a1:List Int) (a2:List Int) (a3:WQ),OK (Qd2 N a0 a1 a2 a3) 3 [.agg (e38 a0),.isl 3 1 (a1.map e3),.isl 3 1 (a2.map e3),.agg (e23 a3)] [] (λ r=>.v (.bool r)) λ r=>[]:=by
 refine λ N _ _ _ _=>rn Tryz.f3 [.tmp 8] [] 62 (by kernel_rfl) ?_<;>(rintro _ hw r hr C _ rfl hwf hf;simp only[Tryz.f3,Option.get!];(rw[Qd2] at hr);repeat' first
 |(refine El.el hr ?_;intro hr)
 |(with_reducible intro h;refine XB hr h ?_;intro hr)
 |with_reducible intro _
 |(refine Xn hr ?_;rintro rfl;have hr:=hk;clear hk)
 |simp only[go_sem,simprocAttr,E,Xoq]
 |(with_reducible first|apply Xk|apply Xj|apply Xp|apply Xr|apply Xs)
 |((first|with_reducible refine Yk hr (by assumption) ?_ ?_|(with_reducible refine Yf hr ?_ ?_;rotate_left;intro p;rotate_right));(·simp only[go_sem,simprocAttr]);intro hp hn hd hr;(try have Xoq:=hd _ e38);(try simp only[go_sem,simprocAttr] at Xoq))
 |(refine Xq ?_ ?_;·first|assumption|omega)
 |(with_reducible first|refine CallX.c ?_ _|refine OK.c hr hw ?_ (λ y hr=>?_) _|refine Oe hr hw ?_ (λ y hr=>?_) _)
 |(with_reducible refine Xf (I:=QhR N _) hr 1000 N (λ ex hq hk=>⟨_,ex,hq,hk,?_⟩) ?_ _;rotate_left;clear hr;(try clear E);rintro n1 st ⟨v5,ex,hr,hk,E⟩<;>(obtain _|n1:=n1<;>rw[Qba] at hr))
 |refine ⟨_,WD _,_,_,hr,hk,?_⟩
 |refine db 3 8 hf 43 [(0,4,[]),(1,4,[]),(0,3,[]),(7,0,[]),(15,0,[]),(31,0,[]),(63,0,[]),(127,0,[]),(255,0,[]),(511,2048,[]),(1023,2048,[]),(511,1536,[]),(4095,0,[]),(8191,0,[]),(16383,0,[]),(32767,0,[]),(65535,0,[])] rfl rfl (by kernel_rfl) ?_ _
 |(refine Xn hr ?_;rintro rfl;with_reducible refine XM ?_)
 |exact Yw hr
 |((first|refine XB (c:=true) hr rfl ?_|refine XB (c:=false) hr rfl ?_|refine XB hr (by assumption) ?_);intro hr)
 |fail)
end Go.Sx
