import Derived.Test.YtgbmffljpneflaaGreatDoorBG12
import Derived.Test.YtgbmffljpneflaaGreatDoorBG13
set_option linter.all false
namespace Go.Sx
open Go.Proofs
set_option maxRecDepth 10000
set_option maxHeartbeats 100000000
def g26:(∀N a0 a1,OK (Qf9 N a0 a1) 316 [.agg (e27 a0),vu a1] [] (λr=>.tup [s39 r.1,vi r.2]) λr=>[])/\(∀N a0 a1 a2,OK (Qbz N a0 a1 a2) 90 [.agg (e27 a0),vu a1,vi a2] [] (λr=>.tup [vu r.1,vi r.2]) λr=>[])/\(∀N a0 a1 a2 a3 a4,OK (Qg1 N a0 a1 a2 a3 a4) 193 [.agg (e43 a0),vi a1,vu a2,vu a3,vu a4] [] (λr=>vi r) λr=>[])/\(∀N a0 a1 a2,OK (Qhy N a0 a1 a2) 195 [.agg (e43 a0),vi a1,vu a2] [] (λr=>vi r) λr=>[])/\(∀N a0 a1 a2 a3,OK (QhY N a0 a1 a2 a3) 197 [.agg (e43 a0),vi a1,vu a2,.v (.bool a3)] [] (λr=>vi r) λr=>[])/\(∀N a0 a1 a2 a3,OK (Qhz N a0 a1 a2 a3) 198 [.agg (e43 a0),vi a1,vu a2,vu a3] [] (λr=>vi r) λr=>[])/\(∀N a0 a1,OK (Qew N a0 a1) 270 [.agg (e27 a0),vu a1] [] (λr=>.tup [.agg (ZS r.1),vi r.2]) λr=>[])/\(∀N a0 a1 a2,OK (QfX N a0 a1 a2) 304 [.agg (e27 a0),vu a1,.agg (ZS a2)] [] (λr=>.tup [.agg (e27 r.1),vi r.2]) λr=>[]):=by
 refine⟨λN _ _=>rk Tryz.f316 ?_,λN _ _ _=>rk Tryz.f90 ?_,λN _ _ _ _ _=>rk Tryz.f193 ?_,λN _ _ _=>rk Tryz.f195 ?_,λN _ _ _ _=>rk Tryz.f197 ?_,λN _ _ _ _=>rk Tryz.f198 ?_,λN _ _=>rk Tryz.f270 ?_,λN _ _ _=>rk Tryz.f304 ?_⟩<;>(rintro _ hw r hr C _ rfl hwf hf;have hse:=@Za _ hw;simp only[Tryz.f316,Tryz.f90,Tryz.f193,Tryz.f195,Tryz.f197,Tryz.f198,Tryz.f270,Tryz.f304,Option.get!];(first|rw[Qf9]at hr|rw[Qbz]at hr|rw[Qg1]at hr|rw[Qhy]at hr|rw[QhY]at hr|rw[Qhz]at hr|rw[Qew]at hr|rw[QfX]at hr);repeat' first
 |(refine El.el hr ?_;clear hr;intro hr)
 |(with_reducible intro h;refine Xx hr h ?_;clear hr;intro hr)
 |with_reducible intro _
 |simp only[go_sem,simprocAttr,Xz,Xk,KJ,KU,hse]
 |(with_reducible first|apply Xi|apply Xh|apply Xs|apply Xq|apply Xr)
 |((first|with_reducible refine Yo hr ag ?_ ?_|(with_reducible refine Ye hr ?_ ?_;rotate_left;intro p;rotate_right));(·simp only[go_sem,simprocAttr,hse]);intro hp hn hd hr;(try have Xz:=hd _ e39);(try simp only[go_sem,simprocAttr]at Xz);(try have Xk:=hd _ XU);(try simp only[go_sem,simprocAttr]at Xk);(try have KJ:=hd _ Xb5);(try simp only[go_sem,simprocAttr]at KJ);(try have KU:=hd _ Xec);(try simp only[go_sem,simprocAttr]at KU))
 |(refine Xt ?_ ?_;.first|assumption|omega)
 |(with_reducible refine XcK hr ?_ ?_;(·simp only[go_sem]);intro p hp hn hd hr;(try have Xz:=hd _ e39);(try simp only[go_sem,simprocAttr]at Xz);(try have Xk:=hd _ XU);(try simp only[go_sem,simprocAttr]at Xk);(try have KJ:=hd _ Xb5);(try simp only[go_sem,simprocAttr]at KJ);(try have KU:=hd _ Xec);(try simp only[go_sem,simprocAttr]at KU);(try simp only[WV]at hn))
 |(with_reducible first|refine CallX.c ?_ _|refine OK.c hr hw ?_ (λy hr=>?_) _|refine IK hr hw ?_ (λy hr=>?_) _)
 |refine dc 193 11 hf 51 [(0,124,[]),(1,124,[]),(0,19,[]),(4,19,[]),(0,15,[]),(28,3,[]),(60,3,[]),(127,0,[]),(255,0,[])] ?_
 |(refine Xn hr ?_;rintro rfl;with_reducible refine XK ?_)
 |exact Yr hr
 |fail)
abbrev QnY:=g26.1
abbrev Qo6:=g26.2.1
abbrev QnZ:=g26.2.2.1
abbrev Qo7:=g26.2.2.2.1
abbrev Qqx:=g26.2.2.2.2.1
abbrev Qo8:=g26.2.2.2.2.2.1
abbrev Qq9:=g26.2.2.2.2.2.2.1
abbrev Qo9:=g26.2.2.2.2.2.2.2
attribute [instance] QnY Qo6 QnZ Qo7 Qqx Qo8 Qq9 Qo9
abbrev Qm5:=λN b c d (Q:(Ex Int Unit)→Prop) n (st:St)=>∃e f,Qdf N b c d n e=some f/\Q f/\((∃a,st.n=43/\st.t 1=vi c/\st.t 2=.ept 128 a 6 0 0/\st.t 7=s4 d/\st.t 8=vi e/\st.s 128=some (a,.arr true 27 6 [e27 b] 0)))
abbrev QkK:=λN d (Q:(Ex (List Int × Int) (List Int))→Prop) n (st:St)=>∃e c f,QaY N d n e c=some f/\Q f/\((∃a b,st.n=31/\st.s 1856=some (a,.arr false 39 1 (c.map e39) 0)/\st.t 1=.ept 64 b 6 0 0/\st.t 4=.osl 1856 a 1 0 c.length/\st.t 5=vi e/\st.s 64=some (b,.arr true 27 6 [e27 d] 0))\/(∃b,(st.n=31/\st.t 1=.ept 64 b 6 0 0/\st.t 4=.nsl/\st.t 5=vi e/\st.s 64=some (b,.arr true 27 6 [e27 d] 0))/\c=[]))
def g27:(∀N a0 a1,OK (Qgn N a0 a1) 315 [.agg (e27 a0),vi a1] [] (λr=>vu r) λr=>[])/\(∀N a0,OK (Qc3 N a0) 237 [.agg (e27 a0)] [] (λr=>.tup [s39 r.1,vi r.2]) λr=>[]):=by
 refine⟨λN _ _=>rk Tryz.f315 ?_,λN _=>rk Tryz.f237 ?_⟩<;>(rintro _ hw r hr C _ rfl hwf hf;have hse:=@Za _ hw;simp only[Tryz.f315,Tryz.f237,Option.get!];(first|rw[Qgn]at hr|rw[Qc3]at hr);repeat' first
 |(refine El.el hr ?_;clear hr;intro hr)
 |(with_reducible intro h;refine Xx hr h ?_;clear hr;intro hr)
 |with_reducible intro _
 |(refine Xn hr ?_;rintro rfl;have hr:=hk;clear hk)
 |simp only[go_sem,simprocAttr,E,hl4,hse]
 |(with_reducible first|apply Xi|apply Xh|apply Xs|apply Xq|apply Xr)
 |((first|with_reducible refine Yo hr ag ?_ ?_|(with_reducible refine Ye hr ?_ ?_;rotate_left;intro p;rotate_right));(·simp only[go_sem,simprocAttr,hse]);intro hp hn hd hr;(try have hl4:=hd _ e4);(try simp only[go_sem,simprocAttr]at hl4))
 |(refine Xt ?_ ?_;.first|assumption|omega)
 |(with_reducible first|refine CallX.c ?_ _|refine OK.c hr hw ?_ (λy hr=>?_) _|refine IK hr hw ?_ (λy hr=>?_) _)
 |(with_reducible refine lp (Qm5 N _ _ _) hr N ?_ (λex hq hk=>⟨_,ex,hq,hk,?_⟩) _;clear hr;(try clear E);rintro n1 st ⟨v4,ex,hr,hk,⟨_,E⟩⟩<;>(obtain _|n1:=n1<;>rw[Qdf]at hr))
 |refine⟨_,WA _,_,_,hr,hk,?_⟩
 |(with_reducible refine lp (QkK N _) hr N ?_ (λex hq hk=>⟨_,_,ex,hq,hk,?_⟩) _;clear hr;(try clear E);rintro n1 st ⟨v2,v3,ex,hr,hk,(⟨_,_,E⟩|⟨_,E,z0⟩)⟩<;>(try subst z0)<;>(obtain _|n1:=n1<;>rw[QaY]at hr))
 |refine⟨_,WA _,_,_,_,hr,hk,?_⟩
 |refine dc 315 1 hf 5 [(0,448,[]),(0,160,[]),(0,96,[]),(6,32,[]),(15,0,[]),(31,0,[]),(63,2048,[]),(63,1025,[]),(127,2048,[]),(511,0,[])] ?_
 |(refine Xn hr ?_;rintro rfl;with_reducible refine XK ?_)
 |exact Yr hr
 |((first|refine Xx (c:=true) hr rfl ?_|refine Xx (c:=false) hr rfl ?_|refine Xx hr ag ?_);intro hr)
 |fail)
abbrev Qqy:=g27.1
abbrev Qn0:=g27.2
attribute [instance] Qqy Qn0
end Go.Sx
