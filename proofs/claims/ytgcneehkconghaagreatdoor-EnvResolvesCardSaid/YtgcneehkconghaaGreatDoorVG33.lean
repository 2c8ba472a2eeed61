import Derived.Test.YtgcneehkconghaaGreatDoorVF
import Derived.Test.YtgcneehkconghaaGreatDoorVG25
import Derived.Test.YtgcneehkconghaaGreatDoorVG27
import Derived.Test.YtgcneehkconghaaGreatDoorVG28
import Derived.Test.YtgcneehkconghaaGreatDoorVG31
import Derived.Test.YtgcneehkconghaaGreatDoorVG32
set_option linter.all false
namespace Go.Sx
open Go.Proofs
set_option maxRecDepth 10000
set_option maxHeartbeats 100000000
abbrev Qhi:=λ N (a3:Int) (y1:Ig) (y2:List W6) (p4:W6) (v3:Int) (Q:(Ex Bool Unit)→Prop) n (st:St)=>∃ (v5:Int) (ex:_),Qa6 N a3 y1 y2 p4 v3 n v5=some ex/\Q ex/\((∃ w1728 w768,st.n=69/\st.s 1728=some (w1728,.arr false 39 1 (([a3,(a3.tmod 4194304),(wU ((a3.tmod 5) + 262145))] ++ y1.Words).map e39) 0)/\st.t 10=.osl 1728 w1728 1 0 (3 + y1.Words.length)/\st.t 12=.ept 768 w768 13 0 0/\st.t 34=.isl 38 13 (y2.map e38)/\st.t 35=.v (.int .i64 ((y2.length:Nat):Int))/\st.t 36=.v (.int .i64 v3)/\st.t 40=.osl 1728 w1728 1 0 (3 + y1.Words.length)/\st.t 41=.v (.int .i64 (((3 + y1.Words.length):Nat):Int))/\st.t 42=.v (.int .i64 v5)/\st.s 768=some (w768,.arr true 38 13 [e38 p4] 0)))
abbrev Qhj:=λ N (a3:Int) (y1:Ig) (y2:List W6) (Q:(Ex Bool Unit)→Prop) n (st:St)=>∃ (v3:Int) (ex:_),Qa7 N a3 y1 y2 n v3=some ex/\Q ex/\((∃ w1728,st.n=69/\st.s 1728=some (w1728,.arr false 39 1 (([a3,(a3.tmod 4194304),(wU ((a3.tmod 5) + 262145))] ++ y1.Words).map e39) 0)/\st.t 10=.osl 1728 w1728 1 0 (3 + y1.Words.length)/\st.t 34=.isl 38 13 (y2.map e38)/\st.t 35=.v (.int .i64 ((y2.length:Nat):Int))/\st.t 36=.v (.int .i64 v3)))
instance Qky:∀ N (a0:W6) (a1:List Int) (a2:List Int) (a3:Int),OK (QdG N a0 a1 a2 a3) 3 [.agg (e38 a0),.isl 3 1 (a1.map e3),.isl 3 1 (a2.map e3),.v (.int .u64 a3)] [] (λ r=>.v (.bool r)) λ r=>[]:=by
 refine λ N _ _ _ _=>rn Tryz.f3 [.tmp 8] [] 69 (by kernel_rfl) ?_<;>(rintro _ hw r hr C _ rfl hwf hf;simp only[Tryz.f3,Option.get!];(rw[QdG] at hr);repeat' first
 |(refine El.el hr ?_;intro hr)
 |(with_reducible intro h;refine XA hr h ?_;intro hr)
 |with_reducible intro _
 |(refine Xn hr ?_;rintro rfl;have hr:=hk;clear hk)
 |simp only[go_sem,simprocAttr,Xow,Xoy,List.set_set,E,Xox,XR]
 |(with_reducible first|apply Xk|apply Xj|apply Xo)
 |(with_reducible refine XoR hr ?_ ?_;(·first|(simp only[go_sem,simprocAttr];done)|(simp only[Wq,W5,Uz,Wx]<;>omega));intro p hp hn hd hx hr;(try have Xox:=hd _ e38);(try simp only[go_sem,simprocAttr] at Xox);(try have XR:=hd _ e39);(try simp only[go_sem,simprocAttr] at XR);(try have Xow:=hx _ e38);(try simp only[go_sem,simprocAttr] at Xow);(try have Xoy:=hx _ e39);(try simp only[go_sem,simprocAttr] at Xoy);(try simp only[Wq,W5,Uz,Wx] at hn))
 |(refine Xp ?_ ?_;·first|assumption|omega)
 |(with_reducible first|refine CallX.c ?_ _|refine OK.c hr hw ?_ (λ y hr=>?_) _)
 |(with_reducible refine Xf (I:=Qhi N _ _ _ _ _) hr 1000 N (λ ex hq hk=>⟨_,ex,hq,hk,?_⟩) ?_ _;rotate_left;clear hr;(try clear E);rintro n1 st ⟨v5,ex,hr,hk,⟨_,_,E⟩⟩<;>(obtain _|n1:=n1<;>rw[Qa6] at hr))
 |refine ⟨_,WD _,_,_,hr,hk,?_⟩
 |(with_reducible refine Xf (I:=Qhj N _ _ _) hr 1000 N (λ ex hq hk=>⟨_,ex,hq,hk,?_⟩) ?_ _;rotate_left;clear hr;(try clear E);rintro n2 st ⟨v3,ex,hr,hk,⟨_,E⟩⟩<;>(obtain _|n2:=n2<;>rw[Qa7] at hr))
 |(refine Xn hr ?_;rintro rfl;with_reducible refine XM ?_)
 |exact Yw hr
 |((first|refine XA (c:=true) hr rfl ?_|refine XA (c:=false) hr rfl ?_|refine XA hr (by assumption) ?_);intro hr)
 |fail)
end Go.Sx
