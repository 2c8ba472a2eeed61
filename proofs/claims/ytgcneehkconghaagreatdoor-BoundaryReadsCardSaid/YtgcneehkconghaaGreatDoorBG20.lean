import Derived.Test.YtgcneehkconghaaGreatDoorBF
import Derived.Test.YtgcneehkconghaaGreatDoorBG0
import Derived.Test.YtgcneehkconghaaGreatDoorBG2
import Derived.Test.YtgcneehkconghaaGreatDoorBG3
import Derived.Test.YtgcneehkconghaaGreatDoorBG4
import Derived.Test.YtgcneehkconghaaGreatDoorBG5
import Derived.Test.YtgcneehkconghaaGreatDoorBG6
import Derived.Test.YtgcneehkconghaaGreatDoorBG8
import Derived.Test.YtgcneehkconghaaGreatDoorBG9
import Derived.Test.YtgcneehkconghaaGreatDoorBG15
import Derived.Test.YtgcneehkconghaaGreatDoorBG16
import Derived.Test.YtgcneehkconghaaGreatDoorBG19
set_option linter.all false
namespace Go.Sx
open Go.Proofs
set_option maxRecDepth 10000
set_option maxHeartbeats 100000000
abbrev Qi0:=λ N (a0:Wo) (Q:(Ex Ud Unit)→Prop) n (st:St)=>∃ (v2:Int) (ex:_),Qba N a0 n v2=some ex/\Q ex/\((∃ w64 w128,st.n=65/\st.t 1=.ept 64 w64 6 0 0/\st.t 2=.ept 128 w128 3 0 0/\st.t 3=.v (.int .i64 v2)/\st.s 64=some (w64,.arr true 27 6 [e27 a0] 0)/\st.s 128=some (w128,.arr true 284 3 [[.v (.int .i64 0),.v (.int .i64 0),.v (.int .u64 0)]] 0)))
abbrev Qi1:=λ N (a0:Wo) (Q:Int→Prop) n (st:St)=>∃ (v6:Int) (v7:Int) (ex:_),Qbb N a0 n v6 v7=some ex/\Q ex/\((∃ w64 w128,st.n=65/\st.t 1=.ept 64 w64 6 0 0/\st.t 2=.ept 128 w128 3 0 0/\st.t 6=.v (.int .i64 v6)/\st.t 7=.v (.int .i64 v7)/\st.s 64=some (w64,.arr true 27 6 [e27 a0] 0)/\st.s 128=some (w128,.arr true 284 3 [[.v (.int .i64 0),.v (.int .i64 0),.v (.int .u64 0)]] 0)))
abbrev QjQ:=λ N (a0:Wo) (y1:Int × Int) (y4:List Int × Int) (Q:(List Int)→Prop) n (st:St)=>∃ (v5:Int) (v6:List Int) (ex:_),Qde N a0 y1 y4 n v5 v6=some ex/\Q ex/\((∃ w2112 w128,st.n=90/\st.s 2112=some (w2112,.arr false 39 1 (v6.map e39) 0)/\st.t 2=.ept 128 w128 6 0 0/\st.t 6=.v (.int .u64 y1.1)/\st.t 8=.osl 2112 w2112 1 0 v6.length/\st.t 44=.isl 39 1 (y4.1.map e39)/\st.t 45=.v (.int .i64 ((y4.1.length:Nat):Int))/\st.t 46=.v (.int .i64 v5)/\st.s 128=some (w128,.arr true 27 6 [e27 a0] 0)))
abbrev Qik:=λ N (Q:(Int × List Uz)→Prop) n (st:St)=>∃ (v3:Int) (v4:Int) (v5:List Uz) (ex:_),QbU N n v3 v4 v5=some ex/\Q ex/\((∃ w512,st.n=42/\st.s 512=some (w512,.arr false 279 4 (v5.map Kv) 0)/\st.t 0=.osl 512 w512 4 0 v5.length/\st.t 1=.clo (.func 226) [] []/\st.t 5=.v (.int .i64 v3)/\st.t 6=.v (.int .i64 v4)))
theorem g30:(∀ N (a0:Wo),OK (QfK N a0) 231 [.agg (e27 a0)] [] (λ r=>.agg (Xlr r)) λ r=>[])/\(∀ N (a0:Wo) (a1:Int),OK (QfB N a0 a1) 336 [.agg (e27 a0),.v (.int .i64 a1)] [] (λ r=>.tup [.v (.int .u64 r.1),.v (.bool r.2)]) λ r=>[])/\(∀ N (a0:Wo),OK (QdP N a0) 133 [.agg (e27 a0)] [] (λ r=>.tup [.isl 39 1 (r.1.map e39),.v (.int .i64 r.2)]) λ r=>[]):=by
 refine ⟨λ N _=>rn Tryz.f231 [.cell 2 284] [] 65 (by kernel_rfl) ?_,λ N _ _=>rn Tryz.f336 [.tmp 4,.tmp 5] [] 90 (by kernel_rfl) ?_,λ N _=>rn Tryz.f133 [.tmp 2,.tmp 3] [] 17 (by kernel_rfl) ?_⟩<;>(rintro _ hw r hr C _ rfl hwf hf;simp only[Tryz.f231,Tryz.f336,Tryz.f133,Option.get!];(first|rw[QfK] at hr|rw[QfB] at hr|rw[QdP] at hr);repeat' first
 |(refine El.el hr ?_;intro hr)
 |(with_reducible intro h;refine Xw hr h ?_;intro hr)
 |with_reducible intro _
 |(refine Xn hr ?_;rintro rfl;have hr:=hk;clear hk)
 |simp only[go_sem,simprocAttr,E,XQ,XE,VB,Wz,WM,Uv]
 |(with_reducible first|apply Xg|apply Xf|apply Xo|apply Xt|apply Xu)
 |((first|with_reducible refine Yb hr (by assumption) ?_ ?_|(with_reducible refine X7 hr ?_ ?_;rotate_left;intro p;rotate_right));(·simp only[go_sem,simprocAttr,Wz,WM,Uv]);intro hp hn hd hr;(try have XQ:=hd _ e39);(try simp only[go_sem,simprocAttr] at XQ);(try have XE:=hd _ XB);(try simp only[go_sem,simprocAttr] at XE);(try have VB:=hd _ Kv);(try simp only[go_sem,simprocAttr] at VB))
 |(refine Xp ?_ ?_;·first|assumption|omega|(dsimp only at *;omega))
 |(refine CallX.inl (f:=225) 12800 (fn:=Tryz.f225) (rs:=[.tmp 4]) (nt:=42) 1000 (by kernel_rfl) (λ x=>?_) _;simp only[Tryz.f225,Option.get!])
 |(with_reducible first|refine CallX.c ?_ _|refine OK.c hr hw ?_ (λ y hr=>?_) _|refine IX hr hw ?_ (λ y hr=>?_) _)
 |(with_reducible refine Xe (I:=Qi0 N _) hr 1000 N (λ ex hq hk=>⟨_,ex,hq,hk,?_⟩) ?_ _;rotate_left;clear hr;(try clear E);rintro n1 st ⟨v2,ex,hr,hk,⟨_,_,E⟩⟩<;>(obtain _|n1:=n1<;>rw[Qba] at hr))
 |refine ⟨_,WA _,_,_,hr,hk,?_⟩
 |(with_reducible refine Xe (I:=Qi1 N _) hr 1000 N (λ ex hq hk=>⟨_,_,ex,hq,hk,?_⟩) ?_ _;rotate_left;clear hr;(try clear E);rintro n2 st ⟨v6,v7,ex,hr,hk,⟨_,_,E⟩⟩<;>(obtain _|n2:=n2<;>rw[Qbb] at hr))
 |refine ⟨_,WA _,_,_,_,hr,hk,?_⟩
 |(with_reducible refine Xe (I:=QjQ N _ _ _) hr 1000 N (λ ex hq hk=>⟨_,_,ex,hq,hk,?_⟩) ?_ _;rotate_left;clear hr;(try clear E);rintro n1 st ⟨v5,v6,ex,hr,hk,⟨_,_,E⟩⟩<;>(obtain _|n1:=n1<;>rw[Qde] at hr))
 |(with_reducible refine Xe (I:=Qik N) hr 1000 N (λ ex hq hk=>⟨_,_,_,ex,hq,hk,?_⟩) ?_ _;rotate_left;clear hr;(try clear E);rintro n1 st ⟨v3,v4,v5,ex,hr,hk,⟨_,E⟩⟩<;>(obtain _|n1:=n1<;>rw[QbU] at hr))
 |refine ⟨_,WA _,_,_,_,_,hr,hk,?_⟩
 |refine db 336 3 hf 10 [(0,1879048192,[]),(0,671088640,[]),(0,402653184,[]),(6,134217728,[]),(15,0,[]),(31,0,[]),(63,8589934592,[]),(63,4294967297,[]),(127,8589934592,[]),(511,0,[])] rfl rfl (by kernel_rfl) ?_ _
 |(refine Xn hr ?_;rintro rfl;with_reducible refine XF ?_)
 |exact Yj hr
 |((first|refine Xw (c:=true) hr rfl ?_|refine Xw (c:=false) hr rfl ?_|refine Xw hr (by assumption) ?_);intro hr)
 |omega
 |fail)
@[reducible,instance] def QmZ:=g30.1
@[reducible,instance] def Qn7:=g30.2.1
@[reducible,instance] def Ql9:=g30.2.2
instance Qma:∀ N (a0:Wo) (a1:Int) (a2:Int),OK (Qfr N a0 a1 a2) 255 [.agg (e27 a0),.v (.int .u64 a1),.v (.int .i64 a2)] [] (λ r=>.tup [.v (.int .u64 r.1),.v (.int .i64 r.2)]) λ r=>[]:=by
 refine λ N _ _ _=>rn Tryz.f255 [.tmp 6,.tmp 7] [] 26 (by kernel_rfl) ?_<;>(rintro _ hw r hr C _ rfl hwf hf;simp only[Tryz.f255,Option.get!];(rw[Qfr] at hr);repeat' first
 |(refine El.el hr ?_;intro hr)
 |(with_reducible intro h;refine Xw hr h ?_;intro hr)
 |with_reducible intro _
 |simp only[go_sem,simprocAttr]
 |(with_reducible first|apply Xg|apply Xf|apply Xo)
 |(refine Xp ?_ ?_;·first|assumption|omega)
 |(with_reducible first|refine CallX.c ?_ _|refine OK.c hr hw ?_ (λ y hr=>?_) _)
 |(refine Xn hr ?_;rintro rfl;with_reducible refine XF ?_)
 |exact Yj hr
 |fail)
end Go.Sx
