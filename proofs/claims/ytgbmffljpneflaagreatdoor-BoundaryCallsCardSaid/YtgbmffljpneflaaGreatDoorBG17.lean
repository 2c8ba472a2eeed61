import Derived.Test.YtgbmffljpneflaaGreatDoorBG15
set_option linter.all false
namespace Go.Sx
open Go.Proofs
set_option maxRecDepth 10000
set_option maxHeartbeats 100000000
abbrev QjG:=λN d e f g h (Q:(Ex Uh Unit)→Prop) n (st:St)=>∃i j,QaH N d e f g h n i=some j/\Q j/\((∃c a b,st.n=89/\st.t 1=.ept 64 c 6 0 0/\st.t 2=.ept 128 a 3 0 0/\st.t 3=s39 e.1/\st.t 5=vi g/\st.t 6=.ept 384 b 3 0 0/\st.t 8=s39 f.1/\st.t 10=vi i/\st.s 64=some (c,.arr true 27 6 [e27 d] 0)/\st.s 128=some (a,.arr true 281 3 [[vi 0,vi 0,vu 0]] 0)/\st.s 384=some (b,.arr true 131 3 [ZS h.1] 0)))
abbrev QjH:=λN c d (Q:(Ex Uh Unit)→Prop) n (st:St)=>∃e f,Qcf N c d n e=some f/\Q f/\((∃b a,st.n=89/\st.t 1=.ept 64 b 6 0 0/\st.t 2=.ept 128 a 3 0 0/\st.t 3=s39 d.1/\st.t 5=vi e/\st.s 64=some (b,.arr true 27 6 [e27 c] 0)/\st.s 128=some (a,.arr true 281 3 [[vi 0,vi 0,vu 0]] 0)))
abbrev Qpb:=λN c (Q:(Ex (List UQ × Int) (List UQ))→Prop) n (st:St)=>∃e d f,QgP N c n e d=some f/\Q f/\((∃a b,st.n=31/\st.s 1792=some (a,.arr false 272 4 (d.map V1) 0)/\st.t 1=.ept 64 b 6 0 0/\st.t 4=.osl 1792 a 4 0 d.length/\st.t 13=vi c.p.length/\st.t 14=vi e/\st.s 64=some (b,.arr true 27 6 [e27 c] 0))\/(∃b,(st.n=31/\st.t 1=.ept 64 b 6 0 0/\st.t 4=.nsl/\st.t 13=vi c.p.length/\st.t 14=vi e/\st.s 64=some (b,.arr true 27 6 [e27 c] 0))/\d=[]))
def g32:(∀N a0,OK (Qfd N a0) 280 [.agg (e27 a0)] [] (λr=>.agg (Xp6 r)) λr=>[])/\(∀N a0,OK (QiJ N a0) 206 [.agg (e27 a0)] [] (λr=>.tup [.fsl 272 4 (r.1.map V1),vi r.2]) λr=>[]):=by
 refine⟨λN _=>rk Tryz.f280 ?_,λN _=>rq Tryz.f206 [1792] ?_⟩<;>(rintro _ hw r hr C _ rfl hwf hf;have hse:=@Za _ hw;simp only[Tryz.f280,Tryz.f206,Option.get!];(first|rw[Qfd]at hr|rw[QiJ]at hr);repeat' first
 |(refine El.el hr ?_;clear hr;intro hr)
 |(with_reducible intro h;refine Xx hr h ?_;clear hr;intro hr)
 |with_reducible intro _
 |(refine Xn hr ?_;rintro rfl;have hr:=hk;clear hk)
 |simp only[go_sem,simprocAttr,E,Xz,hse]
 |(with_reducible first|apply Xi|apply Xh|apply Xs|apply Xq|apply Xr)
 |((first|with_reducible refine Yo hr ag ?_ ?_|(with_reducible refine Ye hr ?_ ?_;rotate_left;intro p;rotate_right));(·simp only[go_sem,simprocAttr,hse]);intro hp hn hd hr;(try have Xz:=hd _ e39);(try simp only[go_sem,simprocAttr]at Xz))
 |(refine Xt ?_ ?_;.first|assumption|omega)
 |(with_reducible first|refine CallX.c ?_ _|refine OK.c hr hw ?_ (λy hr=>?_) _|refine IK hr hw ?_ (λy hr=>?_) _)
 |(with_reducible refine lp (QjG N _ _ _ _ _) hr N ?_ (λex hq hk=>⟨_,ex,hq,hk,?_⟩) _;clear hr;(try clear E);rintro n1 st ⟨v7,ex,hr,hk,⟨_,_,_,E⟩⟩<;>(obtain _|n1:=n1<;>rw[QaH]at hr))
 |refine⟨_,WA _,_,_,hr,hk,?_⟩
 |(with_reducible refine lp (QjH N _ _) hr N ?_ (λex hq hk=>⟨_,ex,hq,hk,?_⟩) _;clear hr;(try clear E);rintro n2 st ⟨v2,ex,hr,hk,⟨_,_,E⟩⟩<;>(obtain _|n2:=n2<;>rw[Qcf]at hr))
 |(with_reducible refine lp (Qpb N _) hr N ?_ (λex hq hk=>⟨_,_,ex,hq,hk,?_⟩) _;clear hr;(try clear E);rintro n1 st ⟨v2,v3,ex,hr,hk,(⟨_,_,E⟩|⟨_,E,z0⟩)⟩<;>(try subst z0)<;>(obtain _|n1:=n1<;>rw[QgP]at hr))
 |refine⟨_,WA _,_,_,_,hr,hk,?_⟩
 |refine dc 280 5 hf 6 [(0,62914561,[[],[384]]),(0,10485761,[[],[384]]),(0,6291457,[[],[384]]),(6,2097153,[[],[384]]),(14,2097153,[[],[384]]),(31,1,[[],[384]]),(63,1,[[],[384]]),(127,268435457,[[],[384]]),(127,134217729,[[],[384]]),(0,535822336,[[384],[]]),(767,268435456,[[384],[]]),(2047,0,[])] ?_
 |refine dc 280 6 hf 8 [(0,8053063680,[]),(0,1342177280,[]),(0,805306368,[]),(6,268435456,[]),(14,268435456,[]),(31,0,[]),(63,0,[]),(127,34359738368,[]),(127,17179869185,[]),(255,34359738368,[]),(1023,0,[])] ?_
 |(refine Xn hr ?_;rintro rfl;with_reducible refine XK ?_)
 |exact Yr hr
 |((first|refine Xx (c:=true) hr rfl ?_|refine Xx (c:=false) hr rfl ?_|refine Xx hr ag ?_);intro hr)
 |fail)
abbrev QlJ:=g32.1
abbrev Qrr:=g32.2
attribute [instance] QlJ Qrr
def g31:(∀N a0 a1,OK (Qeb N a0 a1) 180 [.agg (e27 a0),vu a1] [] (λr=>.v (.bool r)) λr=>[])/\(∀N a0 a1,OK (QfN N a0 a1) 295 [.agg (e27 a0),vi a1] [] (λr=>.tup [s39 r.1,vi r.2]) λr=>[])/\(∀N a0 a1 a2,OK (Qgf N a0 a1 a2) 271 [.agg (e27 a0),vu a1,vi a2] [] (λr=>.tup [vu r.1,vi r.2]) λr=>[])/\(∀N a0 a1,OK (QgJ N a0 a1) 233 [.agg (e27 a0),vu a1] [] (λr=>.tup [vu r.1,vu r.2.1,vi r.2.2]) λr=>[]):=by
 refine⟨λN _ _=>rk Tryz.f180 ?_,λN _ _=>rk Tryz.f295 ?_,λN _ _ _=>rk Tryz.f271 ?_,λN _ _=>rk Tryz.f233 ?_⟩<;>(rintro _ hw r hr C _ rfl hwf hf;simp only[Tryz.f180,Tryz.f295,Tryz.f271,Tryz.f233,Option.get!];(first|rw[Qeb]at hr|rw[QfN]at hr|rw[Qgf]at hr|rw[QgJ]at hr);repeat' first
 |(refine El.el hr ?_;clear hr;intro hr)
 |(with_reducible intro h;refine Xx hr h ?_;clear hr;intro hr)
 |with_reducible intro _
 |simp only[go_sem,simprocAttr]
 |(with_reducible first|apply Xi|apply Xh|apply Xs|apply Xq|apply Xr)
 |(refine Xt ?_ ?_;.first|assumption|omega)
 |(with_reducible first|refine CallX.c ?_ _|refine OK.c hr hw ?_ (λy hr=>?_) _)
 |refine dc 233 4 hf 4 [(0,2064384,[]),(1,2064384,[]),(0,942081,[]),(4,942081,[]),(0,122881,[]),(16,122881,[]),(48,122881,[]),(124,24577,[]),(3,2064384,[]),(511,0,[]),(1023,0,[])] ?_
 |(refine Xn hr ?_;rintro rfl;with_reducible refine XK ?_)
 |exact Yr hr
 |fail)
abbrev QlK:=g31.1
abbrev Qrc:=g31.2.1
abbrev Qn1:=g31.2.2.1
abbrev Qm8:=g31.2.2.2
attribute [instance] QlK Qrc Qn1 Qm8
end Go.Sx
