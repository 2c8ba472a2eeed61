import Derived.Test.YtcclgbgphjofaaaGreatHG11
set_option linter.all false
namespace Go.Sx
open Go.Proofs
set_option maxRecDepth 10000
set_option maxHeartbeats 100000000
def g20:(∀N a0 a1,OK (QcZ N a0 a1) 65 [.agg (e28 a0),vu a1] [] (λr=>.tup [s55 r.1,vi r.2]) λr=>[])/\(∀N a0 a1 a2,OK (QcT N a0 a1 a2) 145 [.agg (e28 a0),vu a1,vi a2] [] (λr=>.tup [vu r.1,vi r.2]) λr=>[])/\(∀N a0 a1 a2 a3 a4,OK (QfV N a0 a1 a2 a3 a4) 157 [.agg (e42 a0),vi a1,vu a2,vu a3,vu a4] [] (λr=>vi r) λr=>[])/\(∀N a0 a1 a2,OK (Qgo N a0 a1 a2) 159 [.agg (e42 a0),vi a1,vu a2] [] (λr=>vi r) λr=>[])/\(∀N a0 a1 a2 a3,OK (QgI N a0 a1 a2 a3) 161 [.agg (e42 a0),vi a1,vu a2,.v (.bool a3)] [] (λr=>vi r) λr=>[])/\(∀N a0 a1 a2 a3,OK (Qgp N a0 a1 a2 a3) 162 [.agg (e42 a0),vi a1,vu a2,vu a3] [] (λr=>vi r) λr=>[])/\(∀N a0 a1,OK (QeO N a0 a1) 116 [.agg (e28 a0),vu a1] [] (λr=>.tup [.agg (e84 r.1),vi r.2]) λr=>[])/\(∀N a0 c0 c1,OK (Qbp N a0 c0 c1) 96 [s3 a0,.clo (.func 111) [] [.ept 1000000 0 10 0 0,.ept 1000001 0 4 0 0]] [.arr true 52 10 [[vi c0.c.W,vi c0.c.p,s87 c0.T,Zd c0.l.S,Y9 c0.l.x,s3 c0.l.i,XT c0.g.e,XT c0.v.e,s90 c0.m,s55 c0.R]] 0,.arr true 87 4 [[vi c1.H.k,vi c1.H.n,vw c1.H.Map,s55 c1.D]] 0] (λr=>.v (.bool r)) λr=>[.arr true 52 10 [[vi c0.c.W,vi c0.c.p,s87 c0.T,Zd c0.l.S,Y9 c0.l.x,s3 c0.l.i,XT c0.g.e,XT c0.v.e,s90 c0.m,s55 c0.R]] 0,.arr true 87 4 [[vi c1.H.k,vi c1.H.n,vw c1.H.Map,s55 c1.D]] 0]):=by
 refine⟨λN _ _=>rk Tryz.f65 ?_,λN _ _ _=>rk Tryz.f145 ?_,λN _ _ _ _ _=>rk Tryz.f157 ?_,λN _ _ _=>rk Tryz.f159 ?_,λN _ _ _ _=>rk Tryz.f161 ?_,λN _ _ _ _=>rk Tryz.f162 ?_,λN _ _=>rk Tryz.f116 ?_,λN _ _ _=>rk Tryz.f96 ?_⟩<;>(rintro _ hw r hr C _ rfl hwf hf;simp only[Tryz.f65,Tryz.f145,Tryz.f157,Tryz.f159,Tryz.f161,Tryz.f162,Tryz.f116,Tryz.f96,Option.get!];(first|rw[QcZ]at hr|rw[QcT]at hr|rw[QfV]at hr|rw[Qgo]at hr|rw[QgI]at hr|rw[Qgp]at hr|rw[QeO]at hr|rw[Qbp]at hr);repeat' first
 |(refine El.el hr ?_;intro hr)
 |(with_reducible intro h;refine XH hr h ?_;intro hr)
 |with_reducible intro _
 |simp only[go_sem,simprocAttr,X2,VP,Xan,XS]
 |(with_reducible first|apply Xk|apply Xj|apply XA|apply XF|apply XG)
 |((first|with_reducible refine Y1 hr ag ?_ ?_|(with_reducible refine YN hr ?_ ?_;rotate_left;intro p;rotate_right));(·simp only[go_sem,simprocAttr]);intro hp hn hd hr;(try have X2:=hd _ e55);(try simp only[go_sem,simprocAttr]at X2);(try have VP:=hd _ e86);(try simp only[go_sem,simprocAttr]at VP);(try have Xan:=hd _ e89);(try simp only[go_sem,simprocAttr]at Xan);(try have XS:=hd _ Y8);(try simp only[go_sem,simprocAttr]at XS))
 |(refine XB ?_ ?_;.first|assumption|omega)
 |(with_reducible first|refine CallX.c ?_ _|refine OK.c hr hw ?_ (λy hr=>?_) _|refine OK.d hr hw ?_ (λy hr=>?_) _)
 |refine dc 157 11 hf 51 [(0,124,[]),(1,124,[]),(0,19,[]),(4,19,[]),(0,15,[]),(28,3,[]),(60,3,[]),(127,0,[]),(255,0,[])] ?_
 |(refine Xu hr ?_;rintro rfl;with_reducible refine X4 ?_)
 |exact Za hr
 |exact Yb hr
 |(apply Yc;assumption)
 |fail)
abbrev Qlx:=g20.1
abbrev Qmu:=g20.2.1
abbrev Qly:=g20.2.2.1
abbrev Qmv:=g20.2.2.2.1
abbrev Qnw:=g20.2.2.2.2.1
abbrev Qmw:=g20.2.2.2.2.2.1
abbrev QnY:=g20.2.2.2.2.2.2.1
abbrev QfR:=g20.2.2.2.2.2.2.2
attribute [instance] Qlx Qmu Qly Qmv Qnw Qmw QnY QfR
abbrev QiV:=λN d (Q:(Ex (List Int × Int) (List Int))→Prop) n (st:St)=>∃e c f,QaP N d n e c=some f/\Q f/\((∃a b,st.n=31/\st.s 1856=some (a,.arr false 55 1 (c.map e55) 0)/\st.t 1=.ept 64 b 6 0 0/\st.t 4=.osl 1856 a 1 0 c.length/\st.t 5=vi e/\st.s 64=some (b,.arr true 28 6 [e28 d] 0))\/(∃b,(st.n=31/\st.t 1=.ept 64 b 6 0 0/\st.t 4=.nsl/\st.t 5=vi e/\st.s 64=some (b,.arr true 28 6 [e28 d] 0))/\c=[]))
abbrev QkM:=λN b c d (Q:(Ex Int Unit)→Prop) n (st:St)=>∃e f,QcC N b c d n e=some f/\Q f/\((∃a,st.n=43/\st.t 1=vi c/\st.t 2=.ept 128 a 6 0 0/\st.t 7=s4 d/\st.t 8=vi e/\st.s 128=some (a,.arr true 28 6 [e28 b] 0)))
def g21:(∀N a0,OK (Qb4 N a0) 62 [.agg (e28 a0)] [] (λr=>.tup [s55 r.1,vi r.2]) λr=>[])/\(∀N a0 a1,OK (Qd4 N a0 a1) 256 [.agg (e28 a0),vi a1] [] (λr=>vu r) λr=>[]):=by
 refine⟨λN _=>rk Tryz.f62 ?_,λN _ _=>rk Tryz.f256 ?_⟩<;>(rintro _ hw r hr C _ rfl hwf hf;simp only[Tryz.f62,Tryz.f256,Option.get!];(first|rw[Qb4]at hr|rw[Qd4]at hr);repeat' first
 |(refine El.el hr ?_;intro hr)
 |(with_reducible intro h;refine XH hr h ?_;intro hr)
 |with_reducible intro _
 |(refine Xu hr ?_;rintro rfl;have hr:=hk;clear hk)
 |simp only[go_sem,simprocAttr,E,hl4]
 |(with_reducible first|apply Xk|apply Xj|apply XA|apply XF|apply XG)
 |((first|with_reducible refine Y1 hr ag ?_ ?_|(with_reducible refine YN hr ?_ ?_;rotate_left;intro p;rotate_right));(·simp only[go_sem,simprocAttr]);intro hp hn hd hr;(try have hl4:=hd _ e4);(try simp only[go_sem,simprocAttr]at hl4))
 |(refine XB ?_ ?_;.first|assumption|omega)
 |(with_reducible first|refine CallX.c ?_ _|refine OK.c hr hw ?_ (λy hr=>?_) _|refine OK.d hr hw ?_ (λy hr=>?_) _)
 |(with_reducible refine lp (QiV N _) hr N ?_ (λex hq hk=>⟨_,_,ex,hq,hk,?_⟩) _;clear hr;(try clear E);rintro n1 st ⟨v2,v3,ex,hr,hk,(⟨_,_,E⟩|⟨_,E,z0⟩)⟩<;>(try subst z0)<;>(obtain _|n1:=n1<;>rw[QaP]at hr))
 |refine⟨_,WK _,_,_,_,hr,hk,?_⟩
 |(with_reducible refine lp (QkM N _ _ _) hr N ?_ (λex hq hk=>⟨_,ex,hq,hk,?_⟩) _;clear hr;(try clear E);rintro n1 st ⟨v4,ex,hr,hk,⟨_,E⟩⟩<;>(obtain _|n1:=n1<;>rw[QcC]at hr))
 |refine⟨_,WK _,_,_,hr,hk,?_⟩
 |refine dc 256 1 hf 5 [(0,448,[]),(0,160,[]),(0,96,[]),(6,32,[]),(15,0,[]),(31,0,[]),(63,2048,[]),(63,1025,[]),(127,2048,[]),(511,0,[])] ?_
 |(refine Xu hr ?_;rintro rfl;with_reducible refine X4 ?_)
 |exact Za hr
 |exact Yb hr
 |(apply Yc;assumption)
 |((first|refine XH (c:=true) hr rfl ?_|refine XH (c:=false) hr rfl ?_|refine XH hr ag ?_);intro hr)
 |fail)
abbrev Qlz:=g21.1
abbrev Qnx:=g21.2
attribute [instance] Qlz Qnx
end Go.Sx
