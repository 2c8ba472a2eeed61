import Derived.Test.YtjmgebidnekjdaaGreatLG14
import Derived.Test.YtjmgebidnekjdaaGreatLG15
set_option linter.all false
namespace Go.Sx
open Go.Proofs
set_option maxRecDepth 10000
set_option maxHeartbeats 100000000
abbrev QiH:=λ N a0 y1 y6 v2 y4 (Q:(Ex Us Unit)→Prop) n (st:St)=>∃ v7 ex,Qan N a0 y1 y6 v2 y4 n v7=some ex/\Q ex/\((∃ w64 w128 w384,st.n=89/\st.t 1=.ept 64 w64 6 0 0/\st.t 2=.ept 128 w128 3 0 0/\st.t 3=s76 y1.1/\st.t 5=vi v2/\st.t 6=.ept 384 w384 3 0 0/\st.t 8=s76 y6.1/\st.t 10=vi v7/\st.s 64=some (w64,.arr true 27 6 [e27 a0] 0)/\st.s 128=some (w128,.arr true 284 3 [[vi 0,vi 0,vu 0]] 0)/\st.s 384=some (w384,.arr true 72 3 [e72 y4.1] 0)))
abbrev QiI:=λ N a0 y1 (Q:(Ex Us Unit)→Prop) n (st:St)=>∃ v2 ex,Qbr N a0 y1 n v2=some ex/\Q ex/\((∃ w64 w128,st.n=89/\st.t 1=.ept 64 w64 6 0 0/\st.t 2=.ept 128 w128 3 0 0/\st.t 3=s76 y1.1/\st.t 5=vi v2/\st.s 64=some (w64,.arr true 27 6 [e27 a0] 0)/\st.s 128=some (w128,.arr true 284 3 [[vi 0,vi 0,vu 0]] 0)))
abbrev Qnn:=λ N a0 (Q:(Ex (List U0 × Int) (List U0))→Prop) n (st:St)=>∃ v2 v3 ex,Qf4 N a0 n v2 v3=some ex/\Q ex/\((∃ w1792 w64,st.n=31/\st.s 1792=some (w1792,.arr false 271 4 (v3.map Vj) 0)/\st.t 1=.ept 64 w64 6 0 0/\st.t 4=.osl 1792 w1792 4 0 v3.length/\st.t 13=vi a0.Pages.length/\st.t 14=vi v2/\st.s 64=some (w64,.arr true 27 6 [e27 a0] 0))\/(∃ w64,(st.n=31/\st.t 1=.ept 64 w64 6 0 0/\st.t 4=.nsl/\st.t 13=vi a0.Pages.length/\st.t 14=vi v2/\st.s 64=some (w64,.arr true 27 6 [e27 a0] 0))/\v3=[]))
abbrev Qkq:=λ N a0 (Q:(Ex Bool Unit)→Prop) n (st:St)=>∃ v7 ex,QdD N a0 n v7=some ex/\Q ex/\((∃ w64,st.n=64/\st.t 1=.ept 64 w64 10 0 0/\st.t 34=K8 a0.Things/\st.t 35=vi a0.Things.length/\st.t 36=vi v7/\st.s 64=some (w64,.arr true 61 10 [e61 a0] 0)))
def g29:(∀ N a0,OK (Qds N a0) 239 [.agg (e27 a0)] [] (λ r=>.agg (XoN r)) λ r=>[])/\(∀ N a0,OK (QhJ N a0) 181 [.agg (e27 a0)] [] (λ r=>.tup [.fsl 271 4 (r.1.map Vj),vi r.2]) λ r=>[])/\(∀ N a0,OK (Qfc N a0) 22 [.agg (e61 a0)] [] (λ r=>.v (.bool r)) λ r=>[]):=by
 refine ⟨λ N _=>rk Tryz.f239 [.cell 2 284] [] 89 ?_,λ N _=>rk Tryz.f181 [.tmp 2,.tmp 3] [1792] 31 ?_,λ N _=>rk Tryz.f22 [.tmp 2] [] 64 ?_⟩<;>(rintro _ hw r hr C _ rfl hwf hf;simp only[Tryz.f239,Tryz.f181,Tryz.f22,Option.get!];(first|rw[Qds] at hr|rw[QhJ] at hr|rw[Qfc] at hr);repeat' first
 |(refine El.el hr ?_;intro hr)
 |(with_reducible intro h;refine Xx hr h ?_;intro hr)
 |with_reducible intro _
 |(refine Xo hr ?_;rintro rfl;have hr:=hk;clear hk)
 |simp only[go_sem,simprocAttr,E,XS,XcO]
 |(with_reducible first|apply Xh|apply Xg|apply Xr|apply Xt|apply Xu)
 |((first|with_reducible refine Yn hr (by assumption) ?_ ?_|(with_reducible refine Yk hr ?_ ?_;rotate_left;intro p;rotate_right));(·simp only[go_sem,simprocAttr]);intro hp hn hd hr;(try have XS:=hd _ e76);(try simp only[go_sem,simprocAttr] at XS);(try have XcO:=hd _ XeG);(try simp only[go_sem,simprocAttr] at XcO))
 |(refine Xs ?_ ?_;·first|assumption|omega)
 |(with_reducible first|refine CallX.c ?_ _|refine OK.c hr hw ?_ (λ y hr=>?_) _|refine Ol hr hw ?_ (λ y hr=>?_) _)
 |(with_reducible refine lp (QiH N _ _ _ _ _) hr N ?_ (λ ex hq hk=>⟨_,ex,hq,hk,?_⟩) _;clear hr;(try clear E);rintro n1 st ⟨v7,ex,hr,hk,⟨_,_,_,E⟩⟩<;>(obtain _|n1:=n1<;>rw[Qan] at hr))
 |refine ⟨_,WH _,_,_,hr,hk,?_⟩
 |(with_reducible refine lp (QiI N _ _) hr N ?_ (λ ex hq hk=>⟨_,ex,hq,hk,?_⟩) _;clear hr;(try clear E);rintro n2 st ⟨v2,ex,hr,hk,⟨_,_,E⟩⟩<;>(obtain _|n2:=n2<;>rw[Qbr] at hr))
 |(with_reducible refine lp (Qnn N _) hr N ?_ (λ ex hq hk=>⟨_,_,ex,hq,hk,?_⟩) _;clear hr;(try clear E);rintro n1 st ⟨v2,v3,ex,hr,hk,(⟨_,_,E⟩|⟨_,E,z0⟩)⟩<;>(try subst z0)<;>(obtain _|n1:=n1<;>rw[Qf4] at hr))
 |refine ⟨_,WH _,_,_,_,hr,hk,?_⟩
 |(with_reducible refine lp (Qkq N _) hr N ?_ (λ ex hq hk=>⟨_,ex,hq,hk,?_⟩) _;clear hr;(try clear E);rintro n1 st ⟨v7,ex,hr,hk,⟨_,E⟩⟩<;>(obtain _|n1:=n1<;>rw[QdD] at hr))
 |refine dc 239 5 hf 6 [(0,62914561,[[],[384]]),(0,10485761,[[],[384]]),(0,6291457,[[],[384]]),(6,2097153,[[],[384]]),(14,2097153,[[],[384]]),(31,1,[[],[384]]),(63,1,[[],[384]]),(127,268435457,[[],[384]]),(127,134217729,[[],[384]]),(0,535822336,[[384],[]]),(767,268435456,[[384],[]]),(2047,0,[])] ?_
 |refine dc 239 6 hf 8 [(0,8053063680,[]),(0,1342177280,[]),(0,805306368,[]),(6,268435456,[]),(14,268435456,[]),(31,0,[]),(63,0,[]),(127,34359738368,[]),(127,17179869185,[]),(255,34359738368,[]),(1023,0,[])] ?_
 |refine dc 22 9 hf 45 [(0,16382,[[],[3648]]),(0,4089,[]),(2,4089,[]),(0,1735,[]),(8,1735,[]),(24,1735,[]),(0,1599,[]),(64,1599,[]),(248,1543,[]),(0,511,[]),(512,511,[]),(2040,7,[]),(4094,1,[[3648],[]]),(8190,1,[[3648],[]]),(16383,0,[]),(32767,0,[]),(65535,0,[]),(131071,0,[]),(262143,0,[]),(524287,0,[])] ?_
 |(refine Xo hr ?_;rintro rfl;with_reducible refine XP ?_)
 |exact Yw hr
 |exact XV hr
 |(apply XW;assumption)
 |((first|refine Xx (c:=true) hr rfl ?_|refine Xx (c:=false) hr rfl ?_|refine Xx hr (by assumption) ?_);intro hr)
 |fail)
abbrev Qkr:=g29.1
abbrev Qo5:=g29.2.1
abbrev Qno:=g29.2.2
attribute [instance] Qkr Qo5 Qno
def g28:(∀ N a0 a1,OK (Qez N a0 a1) 220 [.agg (e27 a0),vu a1] [] (λ r=>.v (.bool r)) λ r=>[])/\(∀ N a0 a1,OK (Qgl N a0 a1) 252 [.agg (e27 a0),vi a1] [] (λ r=>.tup [s76 r.1,vi r.2]) λ r=>[])/\(∀ N a0 a1,OK (QgV N a0 a1) 60 [.agg (e27 a0),vu a1] [] (λ r=>.tup [vu r.1,vu r.2.1,vi r.2.2]) λ r=>[])/\(∀ N a0 a1,OK (QeR N a0 a1) 62 [.agg (e27 a0),vu a1] [] (λ r=>.tup [s76 r.1,vi r.2]) λ r=>[]):=by
 refine ⟨λ N _ _=>rk Tryz.f220 [.tmp 4] [] 15 ?_,λ N _ _=>rk Tryz.f252 [.tmp 4,.tmp 5] [] 33 ?_,λ N _ _=>rk Tryz.f60 [.tmp 4,.tmp 5,.tmp 6] [] 25 ?_,λ N _ _=>rk Tryz.f62 [.tmp 4,.tmp 5] [] 26 ?_⟩<;>(rintro _ hw r hr C _ rfl hwf hf;simp only[Tryz.f220,Tryz.f252,Tryz.f60,Tryz.f62,Option.get!];(first|rw[Qez] at hr|rw[Qgl] at hr|rw[QgV] at hr|rw[QeR] at hr);repeat' first
 |(refine El.el hr ?_;intro hr)
 |(with_reducible intro h;refine Xx hr h ?_;intro hr)
 |with_reducible intro _
 |simp only[go_sem,simprocAttr]
 |(with_reducible first|apply Xh|apply Xg|apply Xr|apply Xt|apply Xu)
 |(refine Xs ?_ ?_;·first|assumption|omega)
 |(with_reducible first|refine CallX.c ?_ _|refine OK.c hr hw ?_ (λ y hr=>?_) _)
 |refine dc 60 4 hf 4 [(0,2064384,[]),(1,2064384,[]),(0,942081,[]),(4,942081,[]),(0,122881,[]),(16,122881,[]),(48,122881,[]),(124,24577,[]),(3,2064384,[]),(511,0,[]),(1023,0,[])] ?_
 |(refine Xo hr ?_;rintro rfl;with_reducible refine XP ?_)
 |exact Yw hr
 |exact XV hr
 |(apply XW;assumption)
 |fail)
abbrev Qks:=g28.1
abbrev QoV:=g28.2.1
abbrev QlB:=g28.2.2.1
abbrev QlC:=g28.2.2.2
attribute [instance] Qks QoV QlB QlC
end Go.Sx
