import Derived.Test.YtcclgbgphjofaaaGreatHF
set_option linter.all false
namespace Go.Sx
open Go.Proofs
set_option maxRecDepth 10000
set_option maxHeartbeats 100000000
abbrev Qji:=λN b (Q:(Ex Bool Unit)→Prop) n (st:St)=>∃c d,QcL N b n c=some d/\Q d/\((∃a,st.n=39/\st.t 1=.ept 64 a 1 0 0/\st.t 3=vi c/\st.s 64=some (a,.arr true 35 1 [[XT b.e]] 0)))
abbrev Qjj:=λN a b (Q:Int→Prop) n (st:St)=>∃c d e,Qdm N a b n c d=some e/\Q e/\((st.n=37/\st.t 0=ZH a/\st.t 2=vi b/\st.t 7=vi c/\st.t 8=vi d))
abbrev QlX:=λN a b (Q:(Ex Int Unit)→Prop) n (st:St)=>∃c d,QeS N a b n c=some d/\Q d/\((st.n=20/\st.t 0=s99 a/\st.t 1=vu b/\st.t 5=vi c))
abbrev Qkc:=λN c (Q:(List OP)→Prop) n (st:St)=>∃d b e,Qdc N c n d b=some e/\Q e/\((∃a,st.n=54/\st.s 3328=some (a,.arr false 331 2 (b.map Xn3) 0)/\st.t 0=ZH c/\st.t 3=.osl 3328 a 2 0 b.length/\st.t 4=vi d)\/((st.n=54/\st.t 0=ZH c/\st.t 3=.nsl/\st.t 4=vi d)/\b=[]))
abbrev Qkd:=λN a u m w z (Q:(List Int)→Prop) n (st:St)=>∃A x B,Qby N a u m w z n A x=some B/\Q B/\((∃g i e k l,st.n=78/\st.s 384=some (g,.arr false 144 4 ((u.set w.toNat (WJ.mk 0 0 0 0)).map Y8) 0)/\st.s 832=some (i,.arr false 55 1 (x.map e55) 0)/\st.t 1=.ept 64 e 16 0 0/\st.t 2=.ept 128 k 16 0 0/\st.t 3=vi w/\st.t 5=vi A/\st.t 38=.ept 256 l 4 0 1/\st.t 39=vi m.s/\st.t 40=.ept 64 e 16 0 0/\st.t 41=.ept 64 e 16 0 4/\st.t 42=vi a.h.s/\st.t 43=.v (.bool (m.s != a.h.s))/\st.s 64=some (e,.arr true 204 16 [[vi a.h.c.W,vi a.h.c.p,.osl 832 i 1 0 x.length,.osl 384 g 4 0 u.length,vi a.h.s,vi a.h.b,s55 a.o,s3 a.t,s55 a.q,vi a.d,vi a.r.j,vi a.r.K,vi a.r.F,vi (wI (z + 1)),vi a.r.f,vi a.r.y]] 0)/\st.s 128=some (k,.arr true 204 16 [[vi 0,vi 0,.nsl,.nsl,vi 0,vi 0,.nsl,.nsl,.nsl,vi 0,vi 0,vi 0,vi 0,vi 0,vi 0,vi 0]] 0)/\st.s 256=some (l,.arr true 144 4 [Y8 m] 0)))
abbrev Qke:=λN a (Q:(Int × List Int × List WJ)→Prop) n (st:St)=>∃u v l m w,Qa4 N a n u v l m=some w/\Q w/\((∃e g k i,st.n=78/\st.s 384=some (e,.arr false 144 4 (m.map Y8) 0)/\st.s 832=some (g,.arr false 55 1 (l.map e55) 0)/\st.t 1=.ept 64 k 16 0 0/\st.t 2=.ept 128 i 16 0 0/\st.t 3=vi u/\st.s 64=some (k,.arr true 204 16 [[vi a.h.c.W,vi a.h.c.p,.osl 832 g 1 0 l.length,.osl 384 e 4 0 m.length,vi a.h.s,vi a.h.b,s55 a.o,s3 a.t,s55 a.q,vi a.d,vi a.r.j,vi a.r.K,vi a.r.F,vi v,vi a.r.f,vi a.r.y]] 0)/\st.s 128=some (i,.arr true 204 16 [[vi 0,vi 0,.nsl,.nsl,vi 0,vi 0,.nsl,.nsl,.nsl,vi 0,vi 0,vi 0,vi 0,vi 0,vi 0,vi 0]] 0)))
abbrev Qkf:=λN b c (Q:(Ex Int Unit)→Prop) n (st:St)=>∃d e,Qex N b c n d=some e/\Q e/\((∃a,st.n=22/\st.t 1=vu c/\st.t 2=.ept 128 a 10 0 0/\st.t 5=vi d/\st.s 128=some (a,.arr true 42 10 [e42 b] 0)))
abbrev Qh4:=λN b (Q:(List Int)→Prop) n (st:St)=>∃d c e,Qda N b n d c=some e/\Q e/\((∃a,st.n=19/\st.s 1024=some (a,.arr false 55 1 (c.map e55) 0)/\st.t 3=.osl 1024 a 1 0 c.length/\st.t 6=Xlf b/\st.t 7=vi b.length/\st.t 8=vi d)\/((st.n=19/\st.t 3=.nsl/\st.t 6=Xlf b/\st.t 7=vi b.length/\st.t 8=vi d)/\c=[]))
abbrev Qkg:=λN b (Q:Int→Prop) n (st:St)=>∃c d,Qez N b n c=some d/\Q d/\((∃a,st.n=19/\st.t 1=vi c/\st.t 2=.ept 128 a 6 0 0/\st.s 128=some (a,.arr true 28 6 [e28 b] 0)))
abbrev Qhe:=λN b (Q:(Ex Bool Unit)→Prop) n (st:St)=>∃c d e,Qbh N b n c d=some e/\Q e/\((∃a,st.n=51/\st.t 1=.ept 64 a 3 0 0/\st.t 3=vi c/\st.t 8=Zd b.l.S/\st.t 9=vi b.l.S.length/\st.t 10=vi d/\st.s 64=some (a,.arr true 179 3 [e32 b.l] 0)))
abbrev Qkh:=λN b (Q:(List Int)→Prop) n (st:St)=>∃d c e,QeA N b n d c=some e/\Q e/\((∃a,st.n=20/\st.s 1088=some (a,.arr false 55 1 (c.map e55) 0)/\st.t 3=.osl 1088 a 1 0 c.length/\st.t 7=s99 b.P/\st.t 8=vi b.P.length/\st.t 9=vi d)\/((st.n=20/\st.t 3=.nsl/\st.t 7=s99 b.P/\st.t 8=vi b.P.length/\st.t 9=vi d)/\c=[]))
abbrev Qhf:=λN a b (Q:(Ex Bool Unit)→Prop) n (st:St)=>∃c d,Qbi N a b n c=some d/\Q d/\((st.n=26/\st.t 0=s3 a/\st.t 1=s3 b/\st.t 12=vi a.length/\st.t 13=vi c))
def g5:(∀N a0,OK (Qca N a0) 68 [.agg (e35 a0)] [] (λr=>.v (.bool r)) λr=>[])/\(∀N a0 a1 a2,OK (QeR N a0 a1 a2) 61 [ZH a0,vi a1,vi a2] [] (λr=>vi r) λr=>[])/\(∀N a0 a1,OK (QfT N a0 a1) 196 [s99 a0,vu a1] [] (λr=>vi r) λr=>[])/\(∀N a0,OK (Qhc N a0) 257 [ZH a0] [] (λr=>Xr6 r) λr=>[])/\(∀N a0,OK (Qfl N a0) 134 [.agg (JH a0)] [] (λr=>.agg (JH r)) λr=>[])/\(∀N a0 a1,OK (Qfn N a0 a1) 138 [.agg (e42 a0),vu a1] [] (λr=>vi r) λr=>[])/\(∀N a0,OK (Qcj N a0) 175 [Xlf a0] [] (λr=>s55 r) λr=>[])/\(∀N a0 a1,OK (QgJ N a0 a1) 252 [.agg (e28 a0),vi a1] [] (λr=>vi r) λr=>[])/\(∀N a0,OK (Qc7 N a0) 99 [.agg (Xn5 a0)] [] (λr=>.v (.bool r)) λr=>[])/\(∀N a0,OK (Qhd N a0) 108 [.agg (e38 a0)] [] (λr=>s55 r) λr=>[])/\(∀N a0 a1,OK (Qcm N a0 a1) 53 [s3 a0,s3 a1] [] (λr=>.v (.bool r)) λr=>[]):=by
 refine⟨λN _=>rk Tryz.f68 ?_,λN _ _ _=>rk Tryz.f61 ?_,λN _ _=>rk Tryz.f196 ?_,λN _=>rk Tryz.f257 ?_,λN _=>rk Tryz.f134 ?_,λN _ _=>rk Tryz.f138 ?_,λN _=>rk Tryz.f175 ?_,λN _ _=>rk Tryz.f252 ?_,λN _=>rk Tryz.f99 ?_,λN _=>rk Tryz.f108 ?_,λN _ _=>rk Tryz.f53 ?_⟩<;>(rintro _ hw r hr C _ rfl hwf hf;simp only[Tryz.f68,Tryz.f61,Tryz.f196,Tryz.f257,Tryz.f134,Tryz.f138,Tryz.f175,Tryz.f252,Tryz.f99,Tryz.f108,Tryz.f53,Option.get!];(first|rw[Qca]at hr|rw[QeR]at hr|rw[QfT]at hr|rw[Qhc]at hr|rw[Qfl]at hr|rw[Qfn]at hr|rw[Qcj]at hr|rw[QgJ]at hr|rw[Qc7]at hr|rw[Qhd]at hr|rw[Qcm]at hr);repeat' first
 |(refine El.el hr ?_;intro hr)
 |(with_reducible intro h;refine XH hr h ?_;intro hr)
 |with_reducible intro _
 |(refine Xu hr ?_;rintro rfl;have hr:=hk;clear hk)
 |simp only[go_sem,simprocAttr,E,hl3,X2,Xan,K3,YW,Zx,XS,XbT,Xfg]
 |(with_reducible first|apply Xk|apply Xj|apply XA|apply XF|apply XG)
 |((first|with_reducible refine Y1 hr ag ?_ ?_|(with_reducible refine YN hr ?_ ?_;rotate_left;intro p;rotate_right));(·simp only[go_sem,simprocAttr]);intro hp hn hd hr;(try have hl3:=hd _ e3);(try simp only[go_sem,simprocAttr]at hl3);(try have X2:=hd _ e55);(try simp only[go_sem,simprocAttr]at X2);(try have Xan:=hd _ e89);(try simp only[go_sem,simprocAttr]at Xan);(try have K3:=hd _ e99);(try simp only[go_sem,simprocAttr]at K3);(try have YW:=hd _ Vl);(try simp only[go_sem,simprocAttr]at YW);(try have Zx:=hd _ K2);(try simp only[go_sem,simprocAttr]at Zx);(try have XS:=hd _ Y8);(try simp only[go_sem,simprocAttr]at XS);(try have XbT:=hd _ Xam);(try simp only[go_sem,simprocAttr]at XbT);(try have Xfg:=hd _ Xn3);(try simp only[go_sem,simprocAttr]at Xfg))
 |(refine XB ?_ ?_;.first|assumption|omega)
 |(with_reducible refine lp (Qji N _) hr N ?_ (λex hq hk=>⟨_,ex,hq,hk,?_⟩) _;clear hr;(try clear E);rintro n1 st ⟨v1,ex,hr,hk,⟨_,E⟩⟩<;>(obtain _|n1:=n1<;>rw[QcL]at hr))
 |refine⟨_,WK _,_,_,hr,hk,?_⟩
 |(with_reducible refine lp (Qjj N _ _) hr N ?_ (λex hq hk=>⟨_,_,ex,hq,hk,?_⟩) _;clear hr;(try clear E);rintro n1 st ⟨v1,v2,ex,hr,hk,E⟩<;>(obtain _|n1:=n1<;>rw[Qdm]at hr))
 |refine⟨_,WK _,_,_,_,hr,hk,?_⟩
 |(with_reducible refine lp (QlX N _ _) hr N ?_ (λex hq hk=>⟨_,ex,hq,hk,?_⟩) _;clear hr;(try clear E);rintro n1 st ⟨v1,ex,hr,hk,E⟩<;>(obtain _|n1:=n1<;>rw[QeS]at hr))
 |(with_reducible refine lp (Qkc N _) hr N ?_ (λex hq hk=>⟨_,_,ex,hq,hk,?_⟩) _;clear hr;(try clear E);rintro n1 st ⟨v1,v2,ex,hr,hk,(⟨_,E⟩|⟨E,z0⟩)⟩<;>(try subst z0)<;>(obtain _|n1:=n1<;>rw[Qdc]at hr))
 |(with_reducible refine lp (Qkd N _ _ _ _ _) hr N ?_ (λex hq hk=>⟨_,_,ex,hq,hk,?_⟩) _;clear hr;(try clear E);rintro n1 st ⟨v7,v8,ex,hr,hk,⟨_,_,_,_,_,E⟩⟩<;>(obtain _|n1:=n1<;>rw[Qby]at hr))
 |(with_reducible refine lp (Qke N _) hr N ?_ (λex hq hk=>⟨_,_,_,_,ex,hq,hk,?_⟩) _;clear hr;(try clear E);rintro n2 st ⟨v1,v2,v3,v4,ex,hr,hk,⟨_,_,_,_,E⟩⟩<;>(obtain _|n2:=n2<;>rw[Qa4]at hr))
 |refine⟨_,WK _,_,_,_,_,_,hr,hk,?_⟩
 |(with_reducible refine lp (Qkf N _ _) hr N ?_ (λex hq hk=>⟨_,ex,hq,hk,?_⟩) _;clear hr;(try clear E);rintro n1 st ⟨v1,ex,hr,hk,⟨_,E⟩⟩<;>(obtain _|n1:=n1<;>rw[Qex]at hr))
 |(with_reducible refine lp (Qh4 N _) hr N ?_ (λex hq hk=>⟨_,_,ex,hq,hk,?_⟩) _;clear hr;(try clear E);rintro n1 st ⟨v1,v2,ex,hr,hk,(⟨_,E⟩|⟨E,z0⟩)⟩<;>(try subst z0)<;>(obtain _|n1:=n1<;>rw[Qda]at hr))
 |(with_reducible refine lp (Qkg N _) hr N ?_ (λex hq hk=>⟨_,ex,hq,hk,?_⟩) _;clear hr;(try clear E);rintro n1 st ⟨v1,ex,hr,hk,⟨_,E⟩⟩<;>(obtain _|n1:=n1<;>rw[Qez]at hr))
 |(with_reducible refine lp (Qhe N _) hr N ?_ (λex hq hk=>⟨_,_,ex,hq,hk,?_⟩) _;clear hr;(try clear E);rintro n1 st ⟨v1,v2,ex,hr,hk,⟨_,E⟩⟩<;>(obtain _|n1:=n1<;>rw[Qbh]at hr))
 |(with_reducible refine lp (Qkh N _) hr N ?_ (λex hq hk=>⟨_,_,ex,hq,hk,?_⟩) _;clear hr;(try clear E);rintro n1 st ⟨v1,v2,ex,hr,hk,(⟨_,E⟩|⟨E,z0⟩)⟩<;>(try subst z0)<;>(obtain _|n1:=n1<;>rw[QeA]at hr))
 |(with_reducible refine lp (Qhf N _ _) hr N ?_ (λex hq hk=>⟨_,ex,hq,hk,?_⟩) _;clear hr;(try clear E);rintro n1 st ⟨v1,ex,hr,hk,E⟩<;>(obtain _|n1:=n1<;>rw[Qbi]at hr))
 |refine dc 257 7 hf 23 [(0,0,[]),(1,0,[]),(3,0,[]),(7,12230,[]),(7,12225,[]),(23,12225,[]),(63,12224,[]),(127,12224,[]),(255,12224,[]),(7,8639,[]),(7,8319,[]),(1031,8319,[]),(3591,8255,[]),(7687,8255,[]),(15879,8255,[]),(32767,8192,[]),(7,8191,[]),(131071,0,[]),(262143,0,[])] ?_
 |refine dc 53 6 hf 16 [(0,242,[]),(0,241,[]),(3,240,[]),(7,240,[]),(0,47,[]),(0,31,[]),(48,15,[]),(112,15,[]),(255,0,[])] ?_
 |(refine Xu hr ?_;rintro rfl;with_reducible refine X4 ?_)
 |exact Za hr
 |exact Yb hr
 |(apply Yc;assumption)
 |((first|refine XH (c:=true) hr rfl ?_|refine XH (c:=false) hr rfl ?_|refine XH hr ag ?_);intro hr)
 |fail)
abbrev QlY:=g5.1
abbrev QlZ:=g5.2.1
abbrev Qn4:=g5.2.2.1
abbrev QmW:=g5.2.2.2.1
abbrev QmX:=g5.2.2.2.2.1
abbrev QmY:=g5.2.2.2.2.2.1
abbrev Qjk:=g5.2.2.2.2.2.2.1
abbrev QmZ:=g5.2.2.2.2.2.2.2.1
abbrev QhJ:=g5.2.2.2.2.2.2.2.2.1
abbrev Qm0:=g5.2.2.2.2.2.2.2.2.2.1
abbrev QhK:=g5.2.2.2.2.2.2.2.2.2.2
attribute [instance] QlY QlZ Qn4 QmW QmX QmY Qjk QmZ QhJ Qm0 QhK
def g2:(∀N a0,OK (QaA N a0) 58 [.agg (e24 a0)] [] (λr=>.v (.bool r)) λr=>[])/\(∀N a0,OK (QgF N a0) 59 [vi a0] [] (λr=>.v (.bool r)) λr=>[])/\(∀N a0 a1 a2,OK (Qfq N a0 a1 a2) 262 [.agg (e28 a0),vi a1,vi a2] [] (λr=>vu r) λr=>[])/\(∀N a0,OK (QdW N a0) 231 [vu a0] [] (λr=>.tup [vu r.1,vi r.2]) λr=>[])/\(∀N a0,OK (QgY N a0) 206 [.agg (Xqv a0)] [] (λr=>.v (.bool r)) λr=>[])/\(∀N a0 a1 a2 a3 a4,OK (Qdg N a0 a1 a2 a3 a4) 35 [.agg (e38 a0),.agg (e38 a1),vi a2,vu a3,vi a4] [] (λr=>.agg (Xr3 r)) λr=>[])/\(∀N a0 a1,OK (QfK N a0 a1) 220 [.agg (XhR a0),.agg (e24 a1)] [] (λr=>.v (.bool r)) λr=>[])/\(∀N a0 a1,OK (Qe1 N a0 a1) 224 [.agg (XhR a0),.agg (XhR a1)] [] (λr=>.v (.bool r)) λr=>[])/\(∀N a0,OK (Qel N a0) 177 [.agg (Xam a0)] [] (λr=>.v (.bool r)) λr=>[])/\(∀N a0 a1,OK (Qe2 N a0 a1) 216 [.agg (e99 a0),.ept 1000000 0 1 0 0] [.arr true 55 1 [[vu a1]] 0] (λr=>.v (.bool r)) λr=>[.arr true 55 1 [[vu a1]] 0])/\(∀N a0,OK (Qfw N a0) 102 [.agg (K2 a0)] [] (λr=>.v (.bool r)) λr=>[])/\(∀N a0 a1,OK (Qd9 N a0 a1) 184 [.agg (e90 a0),.ept 1000000 0 1 0 0] [.arr true 55 1 [[vu a1]] 0] (λr=>.v (.bool r)) λr=>[.arr true 55 1 [[vu a1]] 0]):=by
 refine⟨λN _=>rk Tryz.f58 ?_,λN _=>rk Tryz.f59 ?_,λN _ _ _=>rk Tryz.f262 ?_,λN _=>rk Tryz.f231 ?_,λN _=>rk Tryz.f206 ?_,λN _ _ _ _ _=>rk Tryz.f35 ?_,λN _ _=>rk Tryz.f220 ?_,λN _ _=>rk Tryz.f224 ?_,λN _=>rk Tryz.f177 ?_,λN _ _=>rk Tryz.f216 ?_,λN _=>rk Tryz.f102 ?_,λN _ _=>rk Tryz.f184 ?_⟩<;>(rintro _ hw r hr C _ rfl hwf hf;simp only[Tryz.f58,Tryz.f59,Tryz.f262,Tryz.f231,Tryz.f206,Tryz.f35,Tryz.f220,Tryz.f224,Tryz.f177,Tryz.f216,Tryz.f102,Tryz.f184,Option.get!];(first|rw[QaA]at hr|rw[QgF]at hr|rw[Qfq]at hr|rw[QdW]at hr|rw[QgY]at hr|rw[Qdg]at hr|rw[QfK]at hr|rw[Qe1]at hr|rw[Qel]at hr|rw[Qe2]at hr|rw[Qfw]at hr|rw[Qd9]at hr);repeat' first
 |(refine El.el hr ?_;intro hr)
 |(with_reducible intro h;refine XH hr h ?_;intro hr)
 |with_reducible intro _
 |simp only[go_sem,simprocAttr]
 |(with_reducible first|apply Xk|apply Xj|apply XA)
 |(refine XB ?_ ?_;.first|assumption|omega)
 |(refine Xu hr ?_;rintro rfl;with_reducible refine X4 ?_)
 |exact Za hr
 |exact Yb hr
 |(apply Yc;assumption)
 |fail)
abbrev QiM:=g2.1
abbrev Qm1:=g2.2.1
abbrev Qki:=g2.2.2.1
abbrev Qkj:=g2.2.2.2.1
abbrev Ql0:=g2.2.2.2.2.1
abbrev Qkk:=g2.2.2.2.2.2.1
abbrev QiN:=g2.2.2.2.2.2.2.1
abbrev Qh5:=g2.2.2.2.2.2.2.2.1
abbrev Qjl:=g2.2.2.2.2.2.2.2.2.1
abbrev Qh6:=g2.2.2.2.2.2.2.2.2.2.1
abbrev Qkl:=g2.2.2.2.2.2.2.2.2.2.2.1
abbrev QhL:=g2.2.2.2.2.2.2.2.2.2.2.2
attribute [instance] QiM Qm1 Qki Qkj Ql0 Qkk QiN Qh5 Qjl Qh6 Qkl QhL
def g1:(∀N a0 a1,OK (Qaf N a0 a1) 31 [.ept 1000000 0 2 0 0,vi a1] [.arr true 66 2 [[s3 a0.L,vi a0.at_]] 0] (λr=>vi r.1) λr=>[.arr true 66 2 [[s3 r.2.L,vi r.2.at_]] 0])/\(∀N a0 a1,OK (Qhg N a0 a1) 127 [.agg (e32 a0),vi a1] [] (λr=>vi r) λr=>[])/\(∀N a0,OK (QcP N a0) 125 [.agg (e84 a0)] [] (λr=>.v (.bool r)) λr=>[])/\(∀N a0 a1,OK (QdC N a0 a1) 228 [.agg (JH a0),vu a1] [] (λr=>.agg (JH r)) λr=>[])/\(∀N a0 a1 a2,OK (Qcg N a0 a1 a2) 86 [vi a0,vu a1,vu a2] [] (λr=>.tup [.agg (e84 r.1),.v (.bool r.2)]) λr=>[])/\(∀N a0 a1,OK (Qgz N a0 a1) 166 [.agg (e32 a0),vi a1] [] (λr=>.agg (e32 r)) λr=>[])/\(∀N a0,OK (Qa2 N a0) 46 [.agg (e24 a0)] [] (λr=>.v (.bool r)) λr=>[])/\(∀N a0,OK (Qc9 N a0) 242 [.agg (XhR a0)] [] (λr=>.v (.bool r)) λr=>[])/\(∀N a0,OK (QgK N a0) 253 [vu a0] [] (λr=>.v (.bool r)) λr=>[])/\(∀N a0,OK (Qdj N a0) 180 [vu a0] [] (λr=>.v (.bool r)) λr=>[])/\(∀N a0,OK (Qfv N a0) 97 [vi a0] [] (λr=>.v (.bool r)) λr=>[])/\(∀N a0 a1,OK (QdT N a0 a1) 112 [vu a0,.ept 1000000 0 10 0 0] [.arr true 52 10 [[vi a1.c.W,vi a1.c.p,s87 a1.T,Zd a1.l.S,Y9 a1.l.x,s3 a1.l.i,XT a1.g.e,XT a1.v.e,s90 a1.m,s55 a1.R]] 0] (λr=>.v (.bool r)) λr=>[.arr true 52 10 [[vi a1.c.W,vi a1.c.p,s87 a1.T,Zd a1.l.S,Y9 a1.l.x,s3 a1.l.i,XT a1.g.e,XT a1.v.e,s90 a1.m,s55 a1.R]] 0]):=by
 refine⟨λN _ _=>rk Tryz.f31 ?_,λN _ _=>rk Tryz.f127 ?_,λN _=>rk Tryz.f125 ?_,λN _ _=>rk Tryz.f228 ?_,λN _ _ _=>rk Tryz.f86 ?_,λN _ _=>rk Tryz.f166 ?_,λN _=>rk Tryz.f46 ?_,λN _=>rk Tryz.f242 ?_,λN _=>rk Tryz.f253 ?_,λN _=>rk Tryz.f180 ?_,λN _=>rk Tryz.f97 ?_,λN _ _=>rk Tryz.f112 ?_⟩<;>(rintro _ hw r hr C _ rfl hwf hf;simp only[Tryz.f31,Tryz.f127,Tryz.f125,Tryz.f228,Tryz.f86,Tryz.f166,Tryz.f46,Tryz.f242,Tryz.f253,Tryz.f180,Tryz.f97,Tryz.f112,Option.get!];(first|rw[Qaf]at hr|rw[Qhg]at hr|rw[QcP]at hr|rw[QdC]at hr|rw[Qcg]at hr|rw[Qgz]at hr|rw[Qa2]at hr|rw[Qc9]at hr|rw[QgK]at hr|rw[Qdj]at hr|rw[Qfv]at hr|rw[QdT]at hr);repeat' first
 |(refine El.el hr ?_;intro hr)
 |(with_reducible intro h;refine XH hr h ?_;intro hr)
 |with_reducible intro _
 |simp only[go_sem,simprocAttr,hl3,Km,Wx,WR,UX]
 |(with_reducible first|apply Xk|apply Xj|apply XA|apply XF|apply XG)
 |((first|with_reducible refine Y1 hr ag ?_ ?_|(with_reducible refine YN hr ?_ ?_;rotate_left;intro p;rotate_right));(·simp only[go_sem,simprocAttr,Wx,WR,UX]);intro hp hn hd hr;(try have hl3:=hd _ e3);(try simp only[go_sem,simprocAttr]at hl3);(try have Km:=hd _ XaR);(try simp only[go_sem,simprocAttr]at Km))
 |(refine XB ?_ ?_;.first|assumption|omega)
 |refine dc 31 4 hf 14 [(0,496,[]),(1,496,[]),(3,496,[]),(7,496,[]),(0,15,[]),(16,15,[]),(48,15,[]),(112,15,[]),(240,15,[]),(511,0,[])] ?_
 |refine dc 31 5 hf 24 [(0,240,[]),(1,240,[]),(3,240,[]),(7,240,[]),(0,15,[]),(16,15,[]),(48,15,[]),(112,15,[]),(255,0,[]),(511,0,[]),(1023,0,[])] ?_
 |refine dc 166 1 hf 5 [(0,1022,[[320],[]]),(0,505,[[],[320]]),(2,505,[[],[320]]),(0,39,[[],[320]]),(8,39,[[],[320]]),(0,31,[[],[320]]),(56,7,[[],[320]]),(120,7,[[],[320]]),(248,7,[[],[320]]),(510,1,[[],[320]]),(1023,0,[[320],[]]),(2047,0,[]),(4095,0,[[128],[]])] ?_
 |(refine Xu hr ?_;rintro rfl;with_reducible refine X4 ?_)
 |exact Za hr
 |exact Yb hr
 |(apply Yc;assumption)
 |fail)
abbrev Qjm:=g1.1
abbrev Qn5:=g1.2.1
abbrev Ql1:=g1.2.2.1
abbrev Qm2:=g1.2.2.2.1
abbrev Ql2:=g1.2.2.2.2.1
abbrev QnH:=g1.2.2.2.2.2.1
abbrev Qjn:=g1.2.2.2.2.2.2.1
abbrev Qh7:=g1.2.2.2.2.2.2.2.1
abbrev Qlc:=g1.2.2.2.2.2.2.2.2.1
abbrev QhS:=g1.2.2.2.2.2.2.2.2.2.1
abbrev Qkm:=g1.2.2.2.2.2.2.2.2.2.2.1
abbrev QhC:=g1.2.2.2.2.2.2.2.2.2.2.2
attribute [instance] Qjm Qn5 Ql1 Qm2 Ql2 QnH Qjn Qh7 Qlc QhS Qkm QhC
instance Qld:∀N(a0:List Int),OK (QcG N a0) 190 [.isl 55 1 (a0.map e55)] [] (λr=>.fsl 55 1 (r.map e55)) λr=>[]:=by
 refineλN a0=>⟨λG hw r hr=>?_⟩
 rw[QcG]at hr;obtain rfl:=WT hr;obtain _|⟨x,l⟩:=a0;refine XfB λa cap=>?_;obtain _|a:=a
 all_goals
  refine JN (fn:=Tryz.f190) (body:=(Tryz.f190.body).get!) (rs:=[.tmp 2]) 1000 [320] 8 ac ac ac ac ac ab λC _ hG hwf=>?_;subst hG;have hw2:=hwf;simp only[WfL,Wf,UK,and_true,Uq,XjZ,Xw]at hw2;simp only[Tryz.f190,Option.get!]
  simp only[go_sem,simprocAttr]
  try refine⟨aa,?_⟩
  with_reducible refine X4 ?_
  simp only[go_sem,simprocAttr]
end Go.Sx
