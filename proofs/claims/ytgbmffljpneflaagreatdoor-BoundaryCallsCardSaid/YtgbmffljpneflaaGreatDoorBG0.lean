import Derived.Test.YtgbmffljpneflaaGreatDoorBF
set_option linter.all false
namespace Go.Sx
open Go.Proofs
set_option maxRecDepth 10000
set_option maxHeartbeats 100000000
abbrev Qk8:=λN a b (Q:Int→Prop) n (st:St)=>∃c d e,Qd9 N a b n c d=some e/\Q e/\((st.n=37/\st.t 0=Yj a/\st.t 2=vi b/\st.t 7=vi c/\st.t 8=vi d))
abbrev Qop:=λN a b (Q:(Ex Int Unit)→Prop) n (st:St)=>∃c d,QfV N a b n c=some d/\Q d/\((st.n=20/\st.t 0=s76 a/\st.t 1=vu b/\st.t 5=vi c))
abbrev Qk9:=λN b (Q:(Ex Bool Unit)→Prop) n (st:St)=>∃c d,QdB N b n c=some d/\Q d/\((∃a,st.n=39/\st.t 1=.ept 64 a 1 0 0/\st.t 3=vi c/\st.s 64=some (a,.arr true 35 1 [[s74 b.e]] 0)))
abbrev Ql6:=λN c (Q:(List Oq)→Prop) n (st:St)=>∃d b e,QbI N c n d b=some e/\Q e/\((∃a,st.n=54/\st.s 3328=some (a,.arr false 352 2 (b.map XiK) 0)/\st.t 0=Yj c/\st.t 3=.osl 3328 a 2 0 b.length/\st.t 4=vi d)\/((st.n=54/\st.t 0=Yj c/\st.t 3=.nsl/\st.t 4=vi d)/\b=[]))
abbrev Ql7:=λN a u m w z (Q:(List Int)→Prop) n (st:St)=>∃A x B,QbK N a u m w z n A x=some B/\Q B/\((∃g i e k l,st.n=78/\st.s 384=some (g,.arr false 114 4 ((u.set w.toNat (Wv.mk 0 0 0 0)).map XU) 0)/\st.s 832=some (i,.arr false 39 1 (x.map e39) 0)/\st.t 1=.ept 64 e 16 0 0/\st.t 2=.ept 128 k 16 0 0/\st.t 3=vi w/\st.t 5=vi A/\st.t 38=.ept 256 l 4 0 1/\st.t 39=vi m.s/\st.t 40=.ept 64 e 16 0 0/\st.t 41=.ept 64 e 16 0 4/\st.t 42=vi a.h.s/\st.t 43=.v (.bool (m.s != a.h.s))/\st.s 64=some (e,.arr true 237 16 [[vi a.h.c.W,vi a.h.c.p,.osl 832 i 1 0 x.length,.osl 384 g 4 0 u.length,vi a.h.s,vi a.h.b,s39 a.o,s3 a.t,s39 a.q,vi a.d,vi a.r.j,vi a.r.K,vi a.r.F,vi (wI (z + 1)),vi a.r.f,vi a.r.y]] 0)/\st.s 128=some (k,.arr true 237 16 [[vi 0,vi 0,.nsl,.nsl,vi 0,vi 0,.nsl,.nsl,.nsl,vi 0,vi 0,vi 0,vi 0,vi 0,vi 0,vi 0]] 0)/\st.s 256=some (l,.arr true 114 4 [XU m] 0)))
abbrev Ql8:=λN a (Q:(Int × List Int × List Wv)→Prop) n (st:St)=>∃u v l m w,Qbc N a n u v l m=some w/\Q w/\((∃e g k i,st.n=78/\st.s 384=some (e,.arr false 114 4 (m.map XU) 0)/\st.s 832=some (g,.arr false 39 1 (l.map e39) 0)/\st.t 1=.ept 64 k 16 0 0/\st.t 2=.ept 128 i 16 0 0/\st.t 3=vi u/\st.s 64=some (k,.arr true 237 16 [[vi a.h.c.W,vi a.h.c.p,.osl 832 g 1 0 l.length,.osl 384 e 4 0 m.length,vi a.h.s,vi a.h.b,s39 a.o,s3 a.t,s39 a.q,vi a.d,vi a.r.j,vi a.r.K,vi a.r.F,vi v,vi a.r.f,vi a.r.y]] 0)/\st.s 128=some (i,.arr true 237 16 [[vi 0,vi 0,.nsl,.nsl,vi 0,vi 0,.nsl,.nsl,.nsl,vi 0,vi 0,vi 0,vi 0,vi 0,vi 0,vi 0]] 0)))
abbrev Qkv:=λN b c (Q:(Ex Bool Unit)→Prop) n (st:St)=>∃d e,QdQ N b c n d=some e/\Q e/\((∃a,st.n=21/\st.t 1=s39 c/\st.t 2=.ept 128 a 10 0 0/\st.t 5=vi d/\st.s 128=some (a,.arr true 43 10 [e43 b] 0)))
abbrev Qjy:=λN b (Q:(List Int)→Prop) n (st:St)=>∃d c e,QdY N b n d c=some e/\Q e/\((∃a,st.n=19/\st.s 1024=some (a,.arr false 39 1 (c.map e39) 0)/\st.t 3=.osl 1024 a 1 0 c.length/\st.t 6=XkZ b/\st.t 7=vi b.length/\st.t 8=vi d)\/((st.n=19/\st.t 3=.nsl/\st.t 6=XkZ b/\st.t 7=vi b.length/\st.t 8=vi d)/\c=[]))
abbrev Ql9:=λN b (Q:Int→Prop) n (st:St)=>∃c d,Qfy N b n c=some d/\Q d/\((∃a,st.n=19/\st.t 1=vi c/\st.t 2=.ept 128 a 6 0 0/\st.s 128=some (a,.arr true 27 6 [e27 b] 0)))
abbrev QiE:=λN b (Q:(Ex Bool Unit)→Prop) n (st:St)=>∃c d e,Qbl N b n c d=some e/\Q e/\((∃a,st.n=51/\st.t 1=.ept 64 a 3 0 0/\st.t 3=vi c/\st.t 8=s72 b.l.S/\st.t 9=vi b.l.S.length/\st.t 10=vi d/\st.s 64=some (a,.arr true 188 3 [e32 b.l] 0)))
abbrev Qma:=λN b (Q:(List Int)→Prop) n (st:St)=>∃d c e,Qfz N b n d c=some e/\Q e/\((∃a,st.n=20/\st.s 1088=some (a,.arr false 39 1 (c.map e39) 0)/\st.t 3=.osl 1088 a 1 0 c.length/\st.t 7=s76 b.P/\st.t 8=vi b.P.length/\st.t 9=vi d)\/((st.n=20/\st.t 3=.nsl/\st.t 7=s76 b.P/\st.t 8=vi b.P.length/\st.t 9=vi d)/\c=[]))
abbrev Qnp:=λN b (Q:(List Oq)→Prop) n (st:St)=>∃d c e,Qdc N b n d c=some e/\Q e/\((∃a,st.n=54/\st.s 1344=some (a,.arr false 352 2 (c.map XiK) 0)/\st.t 3=.osl 1344 a 2 0 c.length/\st.t 7=Yj b/\st.t 8=vi b.length/\st.t 9=vi d)\/((st.n=54/\st.t 3=.nsl/\st.t 7=Yj b/\st.t 8=vi b.length/\st.t 9=vi d)/\c=[]))
abbrev Qjn:=λN a b (Q:(Ex Bool Unit)→Prop) n (st:St)=>∃c d,Qcr N a b n c=some d/\Q d/\((st.n=26/\st.t 0=Yj a/\st.t 1=Yj b/\st.t 5=vi c))
abbrev Qmb:=λN c d (Q:(Ex Bool Unit)→Prop) n (st:St)=>∃f g,QeU N c d n f=some g/\Q g/\((∃a b,st.n=31/\st.t 2=.ept 128 a 1 0 0/\st.t 3=.ept 192 b 1 0 0/\st.t 5=vi f/\st.s 128=some (a,.arr true 35 1 [[s74 c.e]] 0)/\st.s 192=some (b,.arr true 35 1 [[s74 d.e]] 0)))
abbrev Qmc:=λN a b (Q:(Ex Bool Unit)→Prop) n (st:St)=>∃c d,QeW N a b n c=some d/\Q d/\((st.n=26/\st.t 0=s39 a/\st.t 1=s39 b/\st.t 5=vi c))
def g5:(∀N a0 a1 a2,OK (QfT N a0 a1 a2) 246 [Yj a0,vi a1,vi a2] [] (λr=>vi r) λr=>[])/\(∀N a0 a1,OK (QhJ N a0 a1) 160 [s76 a0,vu a1] [] (λr=>vi r) λr=>[])/\(∀N a0,OK (Qcu N a0) 79 [.agg (e35 a0)] [] (λr=>.v (.bool r)) λr=>[])/\(∀N a0,OK (Qhg N a0) 318 [Yj a0] [] (λr=>Xn0 r) λr=>[])/\(∀N a0,OK (QeZ N a0) 186 [.agg (JC a0)] [] (λr=>.agg (JC r)) λr=>[])/\(∀N a0 a1,OK (QdR N a0 a1) 188 [.agg (e43 a0),s39 a1] [] (λr=>.v (.bool r)) λr=>[])/\(∀N a0,OK (QcE N a0) 207 [XkZ a0] [] (λr=>s39 r) λr=>[])/\(∀N a0 a1,OK (Qh1 N a0 a1) 326 [.agg (e27 a0),vi a1] [] (λr=>vi r) λr=>[])/\(∀N a0,OK (QdV N a0) 125 [.agg (XnV a0)] [] (λr=>.v (.bool r)) λr=>[])/\(∀N a0,OK (QiB N a0) 136 [.agg (e38 a0)] [] (λr=>s39 r) λr=>[])/\(∀N a0,OK (Qis N a0) 360 [Yj a0] [] (λr=>Xn0 r) λr=>[])/\(∀N a0 a1,OK (QfR N a0 a1) 104 [Yj a0,Yj a1] [] (λr=>.v (.bool r)) λr=>[])/\(∀N a0 a1,OK (Qho N a0 a1) 34 [.agg (e35 a0),.agg (e35 a1)] [] (λr=>.v (.bool r)) λr=>[])/\(∀N a0 a1,OK (Qia N a0 a1) 36 [s39 a0,s39 a1] [] (λr=>.v (.bool r)) λr=>[]):=by
 refine⟨λN _ _ _=>rk Tryz.f246 ?_,λN _ _=>rk Tryz.f160 ?_,λN _=>rk Tryz.f79 ?_,λN _=>rk Tryz.f318 ?_,λN _=>rk Tryz.f186 ?_,λN _ _=>rk Tryz.f188 ?_,λN _=>rk Tryz.f207 ?_,λN _ _=>rk Tryz.f326 ?_,λN _=>rk Tryz.f125 ?_,λN _=>rk Tryz.f136 ?_,λN _=>rk Tryz.f360 ?_,λN _ _=>rk Tryz.f104 ?_,λN _ _=>rk Tryz.f34 ?_,λN _ _=>rk Tryz.f36 ?_⟩<;>(rintro _ hw r hr C _ rfl hwf hf;simp only[Tryz.f246,Tryz.f160,Tryz.f79,Tryz.f318,Tryz.f186,Tryz.f188,Tryz.f207,Tryz.f326,Tryz.f125,Tryz.f136,Tryz.f360,Tryz.f104,Tryz.f34,Tryz.f36,Option.get!];(first|rw[QfT]at hr|rw[QhJ]at hr|rw[Qcu]at hr|rw[Qhg]at hr|rw[QeZ]at hr|rw[QdR]at hr|rw[QcE]at hr|rw[Qh1]at hr|rw[QdV]at hr|rw[QiB]at hr|rw[Qis]at hr|rw[QfR]at hr|rw[Qho]at hr|rw[Qia]at hr);repeat' first
 |(refine El.el hr ?_;clear hr;intro hr)
 |(with_reducible intro h;refine Xx hr h ?_;clear hr;intro hr)
 |with_reducible intro _
 |(refine Xn hr ?_;rintro rfl;have hr:=hk;clear hk)
 |simp only[go_sem,simprocAttr,Xu7,E,hl3,Xz,YL,YN,ZM,Xk,Xbz,Xay]
 |(with_reducible first|apply Xi|apply Xh|apply Xs|apply Xq|apply Xr)
 |((first|with_reducible refine Yo hr ag ?_ ?_|(with_reducible refine Ye hr ?_ ?_;rotate_left;intro p;rotate_right));(·simp only[go_sem,simprocAttr]);intro hp hn hd hr;(try have hl3:=hd _ e3);(try simp only[go_sem,simprocAttr]at hl3);(try have Xz:=hd _ e39);(try simp only[go_sem,simprocAttr]at Xz);(try have YL:=hd _ e72);(try simp only[go_sem,simprocAttr]at YL);(try have YN:=hd _ e74);(try simp only[go_sem,simprocAttr]at YN);(try have ZM:=hd _ e76);(try simp only[go_sem,simprocAttr]at ZM);(try have Xk:=hd _ XU);(try simp only[go_sem,simprocAttr]at Xk);(try have Xbz:=hd _ V1);(try simp only[go_sem,simprocAttr]at Xbz);(try have Xay:=hd _ XiK);(try simp only[go_sem,simprocAttr]at Xay))
 |(refine Xt ?_ ?_;.first|assumption|omega)
 |(with_reducible refine lp (Qk8 N _ _) hr N ?_ (λex hq hk=>⟨_,_,ex,hq,hk,?_⟩) _;clear hr;(try clear E);rintro n1 st ⟨v1,v2,ex,hr,hk,E⟩<;>(obtain _|n1:=n1<;>rw[Qd9]at hr))
 |refine⟨_,WA _,_,_,_,hr,hk,?_⟩
 |(with_reducible refine lp (Qop N _ _) hr N ?_ (λex hq hk=>⟨_,ex,hq,hk,?_⟩) _;clear hr;(try clear E);rintro n1 st ⟨v1,ex,hr,hk,E⟩<;>(obtain _|n1:=n1<;>rw[QfV]at hr))
 |refine⟨_,WA _,_,_,hr,hk,?_⟩
 |(with_reducible refine lp (Qk9 N _) hr N ?_ (λex hq hk=>⟨_,ex,hq,hk,?_⟩) _;clear hr;(try clear E);rintro n1 st ⟨v1,ex,hr,hk,⟨_,E⟩⟩<;>(obtain _|n1:=n1<;>rw[QdB]at hr))
 |(with_reducible refine lp (Ql6 N _) hr N ?_ (λex hq hk=>⟨_,_,ex,hq,hk,?_⟩) _;clear hr;(try clear E);rintro n1 st ⟨v1,v2,ex,hr,hk,(⟨_,E⟩|⟨E,z0⟩)⟩<;>(try subst z0)<;>(obtain _|n1:=n1<;>rw[QbI]at hr))
 |(with_reducible refine lp (Ql7 N _ _ _ _ _) hr N ?_ (λex hq hk=>⟨_,_,ex,hq,hk,?_⟩) _;clear hr;(try clear E);rintro n1 st ⟨v7,v8,ex,hr,hk,⟨_,_,_,_,_,E⟩⟩<;>(obtain _|n1:=n1<;>rw[QbK]at hr))
 |(with_reducible refine lp (Ql8 N _) hr N ?_ (λex hq hk=>⟨_,_,_,_,ex,hq,hk,?_⟩) _;clear hr;(try clear E);rintro n2 st ⟨v1,v2,v3,v4,ex,hr,hk,⟨_,_,_,_,E⟩⟩<;>(obtain _|n2:=n2<;>rw[Qbc]at hr))
 |refine⟨_,WA _,_,_,_,_,_,hr,hk,?_⟩
 |(with_reducible refine lp (Qkv N _ _) hr N ?_ (λex hq hk=>⟨_,ex,hq,hk,?_⟩) _;clear hr;(try clear E);rintro n1 st ⟨v1,ex,hr,hk,⟨_,E⟩⟩<;>(obtain _|n1:=n1<;>rw[QdQ]at hr))
 |(with_reducible refine lp (Qjy N _) hr N ?_ (λex hq hk=>⟨_,_,ex,hq,hk,?_⟩) _;clear hr;(try clear E);rintro n1 st ⟨v1,v2,ex,hr,hk,(⟨_,E⟩|⟨E,z0⟩)⟩<;>(try subst z0)<;>(obtain _|n1:=n1<;>rw[QdY]at hr))
 |(with_reducible refine lp (Ql9 N _) hr N ?_ (λex hq hk=>⟨_,ex,hq,hk,?_⟩) _;clear hr;(try clear E);rintro n1 st ⟨v1,ex,hr,hk,⟨_,E⟩⟩<;>(obtain _|n1:=n1<;>rw[Qfy]at hr))
 |(with_reducible refine lp (QiE N _) hr N ?_ (λex hq hk=>⟨_,_,ex,hq,hk,?_⟩) _;clear hr;(try clear E);rintro n1 st ⟨v1,v2,ex,hr,hk,⟨_,E⟩⟩<;>(obtain _|n1:=n1<;>rw[Qbl]at hr))
 |(with_reducible refine lp (Qma N _) hr N ?_ (λex hq hk=>⟨_,_,ex,hq,hk,?_⟩) _;clear hr;(try clear E);rintro n1 st ⟨v1,v2,ex,hr,hk,(⟨_,E⟩|⟨E,z0⟩)⟩<;>(try subst z0)<;>(obtain _|n1:=n1<;>rw[Qfz]at hr))
 |(with_reducible refine lp (Qnp N _) hr N ?_ (λex hq hk=>⟨_,_,ex,hq,hk,?_⟩) _;clear hr;(try clear E);rintro n1 st ⟨v1,v2,ex,hr,hk,(⟨_,E⟩|⟨E,z0⟩)⟩<;>(try subst z0)<;>(obtain _|n1:=n1<;>rw[Qdc]at hr))
 |(with_reducible refine lp (Qjn N _ _) hr N ?_ (λex hq hk=>⟨_,ex,hq,hk,?_⟩) _;clear hr;(try clear E);rintro n1 st ⟨v1,ex,hr,hk,E⟩<;>(obtain _|n1:=n1<;>rw[Qcr]at hr))
 |(with_reducible refine lp (Qmb N _ _) hr N ?_ (λex hq hk=>⟨_,ex,hq,hk,?_⟩) _;clear hr;(try clear E);rintro n1 st ⟨v1,ex,hr,hk,⟨_,_,E⟩⟩<;>(obtain _|n1:=n1<;>rw[QeU]at hr))
 |(with_reducible refine lp (Qmc N _ _) hr N ?_ (λex hq hk=>⟨_,ex,hq,hk,?_⟩) _;clear hr;(try clear E);rintro n1 st ⟨v1,ex,hr,hk,E⟩<;>(obtain _|n1:=n1<;>rw[QeW]at hr))
 |refine dc 318 7 hf 23 [(0,0,[]),(1,0,[]),(3,0,[]),(7,12230,[]),(7,12225,[]),(23,12225,[]),(63,12224,[]),(127,12224,[]),(255,12224,[]),(7,8639,[]),(7,8319,[]),(1031,8319,[]),(3591,8255,[]),(7687,8255,[]),(15879,8255,[]),(32767,8192,[]),(7,8191,[]),(131071,0,[]),(262143,0,[])] ?_
 |refine dc 188 4 hf 12 [(0,242,[]),(0,241,[]),(3,240,[]),(7,240,[]),(0,15,[]),(16,15,[]),(48,15,[]),(112,15,[]),(255,0,[])] ?_
 |refine dc 360 8 hf 30 [(0,0,[]),(1,0,[]),(3,0,[]),(7,3042,[]),(7,3041,[]),(31,3040,[]),(63,3040,[]),(127,3040,[]),(7,2143,[]),(7,2111,[]),(775,2079,[]),(1799,2079,[]),(3847,2079,[]),(8191,2048,[]),(7,2047,[]),(32767,0,[]),(65535,0,[]),(131071,0,[])] ?_
 |refine dc 104 6 hf 17 [(0,242,[]),(0,241,[]),(3,240,[]),(7,240,[]),(0,47,[]),(0,31,[]),(48,15,[]),(112,15,[]),(255,0,[])] ?_
 |refine dc 34 6 hf 20 [(0,996,[]),(1,996,[]),(0,995,[]),(7,992,[]),(15,992,[]),(0,159,[]),(32,159,[]),(0,127,[]),(224,31,[]),(480,31,[]),(1023,0,[])] ?_
 |refine dc 36 6 hf 17 [(0,242,[]),(0,241,[]),(3,240,[]),(7,240,[]),(0,47,[]),(0,31,[]),(48,15,[]),(112,15,[]),(255,0,[])] ?_
 |(refine Xn hr ?_;rintro rfl;with_reducible refine XK ?_)
 |exact Yr hr
 |((first|refine Xx (c:=true) hr rfl ?_|refine Xx (c:=false) hr rfl ?_|refine Xx hr ag ?_);intro hr)
 |fail)
abbrev Qoq:=g5.1
abbrev Qrm:=g5.2.1
abbrev Qor:=g5.2.2.1
abbrev QpA:=g5.2.2.2.1
abbrev QpB:=g5.2.2.2.2.1
abbrev Qnq:=g5.2.2.2.2.2.1
abbrev Qla:=g5.2.2.2.2.2.2.1
abbrev QpC:=g5.2.2.2.2.2.2.2.1
abbrev Qjc:=g5.2.2.2.2.2.2.2.2.1
abbrev QpD:=g5.2.2.2.2.2.2.2.2.2.1
abbrev QqF:=g5.2.2.2.2.2.2.2.2.2.2.1
abbrev Qkw:=g5.2.2.2.2.2.2.2.2.2.2.2.1
abbrev QpE:=g5.2.2.2.2.2.2.2.2.2.2.2.2.1
abbrev QpF:=g5.2.2.2.2.2.2.2.2.2.2.2.2.2
attribute [instance] Qoq Qrm Qor QpA QpB Qnq Qla QpC Qjc QpD QqF Qkw QpE QpF
abbrev Qnr:=λN a b (Q:(Ex Bool Unit)→Prop) n (st:St)=>∃c d,Qf8 N a b n c=some d/\Q d/\((st.n=18/\st.t 0=s39 a/\st.t 1=vu b/\st.t 5=vi c))
abbrev Qmd:=λN b (Q:Int→Prop) n (st:St)=>∃c d,QeD N b n c=some d/\Q d/\((∃a,st.n=15/\st.t 1=vi c/\st.t 2=.ept 128 a 6 0 0/\st.s 128=some (a,.arr true 27 6 [e27 b] 0)))
abbrev Qme:=λN b c (Q:Int→Prop) n (st:St)=>∃d e f,QeE N b c n d e=some f/\Q f/\((∃a,st.n=24/\st.t 2=vi c/\st.t 3=.ept 192 a 3 0 0/\st.t 7=vi d/\st.t 8=vi e/\st.s 192=some (a,.arr true 32 3 [e32 b] 0)))
abbrev Qlb:=λN b c (Q:(Ex Bool Unit)→Prop) n (st:St)=>∃d e,QdC N b c n d=some e/\Q e/\((∃a,st.n=20/\st.t 1=vi c/\st.t 2=.ept 128 a 16 0 0/\st.t 5=vi d/\st.s 128=some (a,.arr true 237 16 [JC b] 0)))
abbrev Qmf:=λN e f g h (Q:(Ex (List Wv × Int) (List Wv))→Prop) n (st:St)=>∃i d j,QeF N e f g h n i d=some j/\Q j/\((∃a b c,st.n=57/\st.s 1920=some (a,.arr false 114 4 (d.map XU) 0)/\st.t 1=vi e/\st.t 2=vi f/\st.t 8=.ept 512 b 4 0 0/\st.t 9=.ept 576 c 4 0 0/\st.t 12=.osl 1920 a 4 0 d.length/\st.t 13=vi i/\st.s 512=some (b,.arr true 114 4 [XU g] 0)/\st.s 576=some (c,.arr true 114 4 [XU h] 0)))
abbrev Qlc:=λN a (Q:Int→Prop) n (st:St)=>∃b c d,QbO N a n b c=some d/\Q d/\((st.n=20/\st.t 0=Yj a/\st.t 3=vi b/\st.t 4=vi c))
abbrev Qmg:=λN b c (Q:(Ex Int Unit)→Prop) n (st:St)=>∃d e,Qfv N b c n d=some e/\Q e/\((∃a,st.n=22/\st.t 1=vu c/\st.t 2=.ept 128 a 10 0 0/\st.t 5=vi d/\st.s 128=some (a,.arr true 43 10 [e43 b] 0)))
abbrev Qns:=λN a (Q:Int→Prop) n (st:St)=>∃b c d,Qgd N a n b c=some d/\Q d/\((st.n=14/\st.t 3=vu b/\st.t 6=vi (if 64 < (if a < 0 then 0 else a)then 64 else(if a < 0 then 0 else a))/\st.t 7=vi c))
abbrev Qi1:=λN b (Q:(Ex Bool Unit)→Prop) n (st:St)=>∃c d e,Qa8 N b n c d=some e/\Q e/\((∃a,st.n=74/\st.t 1=.ept 64 a 3 0 0/\st.t 3=vi c/\st.t 27=s78 b.l.x/\st.t 28=vi b.l.x.length/\st.t 29=vi d/\st.s 64=some (a,.arr true 188 3 [e32 b.l] 0)))
abbrev QhR:=λN a b (Q:(Ex Int Unit)→Prop) n (st:St)=>∃c d,QaI N a b n c=some d/\Q d/\((st.n=19/\st.t 0=s39 a/\st.t 1=vu b/\st.t 7=vi a.length/\st.t 8=vi c))
abbrev Qmh:=λN a (Q:Int→Prop) n (st:St)=>∃b c d,Qd2 N a n b c=some d/\Q d/\((st.n=19/\st.t 3=vi b/\st.t 6=Yj a/\st.t 7=vi a.length/\st.t 8=vi c))
abbrev QiF:=λN a b (Q:(Ex Int Unit)→Prop) n (st:St)=>∃c d,QbV N a b n c=some d/\Q d/\((st.n=19/\st.t 0=s3 a/\st.t 1=vi b/\st.t 7=vi a.length/\st.t 8=vi c))
abbrev Qmi:=λN c d (Q:(Ex Bool Unit)→Prop) n (st:St)=>∃e f,QeR N c d n e=some f/\Q f/\((∃a b,st.n=87/\st.t 2=.ept 128 a 3 0 0/\st.t 3=.ept 192 b 3 0 0/\st.t 5=vi e/\st.s 128=some (a,.arr true 32 3 [e32 c] 0)/\st.s 192=some (b,.arr true 32 3 [e32 d] 0)))
abbrev Qmj:=λN c d (Q:(Ex Bool Unit)→Prop) n (st:St)=>∃e f,QeS N c d n e=some f/\Q f/\((∃a b,st.n=87/\st.t 2=.ept 128 a 3 0 0/\st.t 3=.ept 192 b 3 0 0/\st.t 6=vi e/\st.s 128=some (a,.arr true 32 3 [e32 c] 0)/\st.s 192=some (b,.arr true 32 3 [e32 d] 0)))
abbrev Qmk:=λN c d (Q:(Ex Bool Unit)→Prop) n (st:St)=>∃e f,QeT N c d n e=some f/\Q f/\((∃a b,st.n=87/\st.t 2=.ept 128 a 3 0 0/\st.t 3=.ept 192 b 3 0 0/\st.t 7=vi e/\st.s 128=some (a,.arr true 32 3 [e32 c] 0)/\st.s 192=some (b,.arr true 32 3 [e32 d] 0)))
abbrev Qml:=λN a b (Q:(Ex Bool Unit)→Prop) n (st:St)=>∃c d,QeV N a b n c=some d/\Q d/\((st.n=26/\st.t 0=s76 a/\st.t 1=s76 b/\st.t 5=vi c))
def g4:(∀N a0 a1,OK (Qdy N a0 a1) 81 [s39 a0,vu a1] [] (λr=>.v (.bool r)) λr=>[])/\(∀N a0 a1,OK (Qgl N a0 a1) 342 [.agg (e27 a0),vi a1] [] (λr=>vi r) λr=>[])/\(∀N a0 a1 a2,OK (Qhf N a0 a1 a2) 162 [.agg (e32 a0),vi a1,vi a2] [] (λr=>vi r) λr=>[])/\(∀N a0 a1,OK (Qhw N a0 a1) 293 [.agg (JC a0),vi a1] [] (λr=>.v (.bool r)) λr=>[])/\(∀N a0 a1 a2 a3 a4,OK (QdP N a0 a1 a2 a3 a4) 319 [Yj a0,vi a1,vi a2,.agg (XU a3),.agg (XU a4)] [] (λr=>.tup [.fsl 114 4 (r.1.map XU),vi r.2]) λr=>[])/\(∀N a0,OK (Qc7 N a0) 283 [Yj a0] [] (λr=>vi r) λr=>[])/\(∀N a0 a1,OK (Qgs N a0 a1) 190 [.agg (e43 a0),vu a1] [] (λr=>vi r) λr=>[])/\(∀N a0,OK (Qa4 N a0) 300 [vi a0] [] (λr=>vu r) λr=>[])/\(∀N a0,OK (Qd6 N a0) 124 [.agg (XnV a0)] [] (λr=>.v (.bool r)) λr=>[])/\(∀N a0 a1,OK (Qb3 N a0 a1) 129 [s39 a0,vu a1] [] (λr=>vi r) λr=>[])/\(∀N a0,OK (Qhm N a0) 348 [Yj a0] [] (λr=>vi r) λr=>[])/\(∀N a0 a1,OK (Qe3 N a0 a1) 370 [s3 a0,vi a1] [] (λr=>vi r) λr=>[])/\(∀N a0 a1,OK (Qh8 N a0 a1) 33 [.agg (e32 a0),.agg (e32 a1)] [] (λr=>.v (.bool r)) λr=>[])/\(∀N a0 a1,OK (Qh9 N a0 a1) 35 [s76 a0,s76 a1] [] (λr=>.v (.bool r)) λr=>[]):=by
 refine⟨λN _ _=>rk Tryz.f81 ?_,λN _ _=>rk Tryz.f342 ?_,λN _ _ _=>rk Tryz.f162 ?_,λN _ _=>rk Tryz.f293 ?_,λN _ _ _ _ _=>rq Tryz.f319 [1920] ?_,λN _=>rk Tryz.f283 ?_,λN _ _=>rk Tryz.f190 ?_,λN _=>rk Tryz.f300 ?_,λN _=>rk Tryz.f124 ?_,λN _ _=>rk Tryz.f129 ?_,λN _=>rk Tryz.f348 ?_,λN _ _=>rk Tryz.f370 ?_,λN _ _=>rk Tryz.f33 ?_,λN _ _=>rk Tryz.f35 ?_⟩<;>(rintro _ hw r hr C _ rfl hwf hf;simp only[Tryz.f81,Tryz.f342,Tryz.f162,Tryz.f293,Tryz.f319,Tryz.f283,Tryz.f190,Tryz.f300,Tryz.f124,Tryz.f129,Tryz.f348,Tryz.f370,Tryz.f33,Tryz.f35,Option.get!];(first|rw[Qdy]at hr|rw[Qgl]at hr|rw[Qhf]at hr|rw[Qhw]at hr|rw[QdP]at hr|rw[Qc7]at hr|rw[Qgs]at hr|rw[Qa4]at hr|rw[Qd6]at hr|rw[Qb3]at hr|rw[Qhm]at hr|rw[Qe3]at hr|rw[Qh8]at hr|rw[Qh9]at hr);repeat' first
 |(refine El.el hr ?_;clear hr;intro hr)
 |(with_reducible intro h;refine Xx hr h ?_;clear hr;intro hr)
 |with_reducible intro _
 |(refine Xn hr ?_;rintro rfl;have hr:=hk;clear hk)
 |simp only[go_sem,simprocAttr,E,hl3,Xz,YL,ZM,Kj,Xk,KU]
 |(with_reducible first|apply Xi|apply Xh|apply Xs|apply Xq|apply Xr)
 |((first|with_reducible refine Yo hr ag ?_ ?_|(with_reducible refine Ye hr ?_ ?_;rotate_left;intro p;rotate_right));(·simp only[go_sem,simprocAttr]);intro hp hn hd hr;(try have hl3:=hd _ e3);(try simp only[go_sem,simprocAttr]at hl3);(try have Xz:=hd _ e39);(try simp only[go_sem,simprocAttr]at Xz);(try have YL:=hd _ e72);(try simp only[go_sem,simprocAttr]at YL);(try have ZM:=hd _ e76);(try simp only[go_sem,simprocAttr]at ZM);(try have Kj:=hd _ e78);(try simp only[go_sem,simprocAttr]at Kj);(try have Xk:=hd _ XU);(try simp only[go_sem,simprocAttr]at Xk);(try have KU:=hd _ Xec);(try simp only[go_sem,simprocAttr]at KU))
 |(refine Xt ?_ ?_;.first|assumption|omega)
 |(with_reducible refine lp (Qnr N _ _) hr N ?_ (λex hq hk=>⟨_,ex,hq,hk,?_⟩) _;clear hr;(try clear E);rintro n1 st ⟨v1,ex,hr,hk,E⟩<;>(obtain _|n1:=n1<;>rw[Qf8]at hr))
 |refine⟨_,WA _,_,_,hr,hk,?_⟩
 |(with_reducible refine lp (Qmd N _) hr N ?_ (λex hq hk=>⟨_,ex,hq,hk,?_⟩) _;clear hr;(try clear E);rintro n1 st ⟨v1,ex,hr,hk,⟨_,E⟩⟩<;>(obtain _|n1:=n1<;>rw[QeD]at hr))
 |(with_reducible refine lp (Qme N _ _) hr N ?_ (λex hq hk=>⟨_,_,ex,hq,hk,?_⟩) _;clear hr;(try clear E);rintro n1 st ⟨v1,v2,ex,hr,hk,⟨_,E⟩⟩<;>(obtain _|n1:=n1<;>rw[QeE]at hr))
 |refine⟨_,WA _,_,_,_,hr,hk,?_⟩
 |(with_reducible refine lp (Qlb N _ _) hr N ?_ (λex hq hk=>⟨_,ex,hq,hk,?_⟩) _;clear hr;(try clear E);rintro n1 st ⟨v1,ex,hr,hk,⟨_,E⟩⟩<;>(obtain _|n1:=n1<;>rw[QdC]at hr))
 |(with_reducible refine lp (Qmf N _ _ _ _) hr N ?_ (λex hq hk=>⟨_,_,ex,hq,hk,?_⟩) _;clear hr;(try clear E);rintro n1 st ⟨v1,v2,ex,hr,hk,⟨_,_,_,E⟩⟩<;>(obtain _|n1:=n1<;>rw[QeF]at hr))
 |(with_reducible refine lp (Qlc N _) hr N ?_ (λex hq hk=>⟨_,_,ex,hq,hk,?_⟩) _;clear hr;(try clear E);rintro n1 st ⟨v1,v2,ex,hr,hk,E⟩<;>(obtain _|n1:=n1<;>rw[QbO]at hr))
 |(with_reducible refine lp (Qmg N _ _) hr N ?_ (λex hq hk=>⟨_,ex,hq,hk,?_⟩) _;clear hr;(try clear E);rintro n1 st ⟨v1,ex,hr,hk,⟨_,E⟩⟩<;>(obtain _|n1:=n1<;>rw[Qfv]at hr))
 |(with_reducible refine lp (Qns N _) hr N ?_ (λex hq hk=>⟨_,_,ex,hq,hk,?_⟩) _;clear hr;(try clear E);rintro n1 st ⟨v1,v2,ex,hr,hk,E⟩<;>(obtain _|n1:=n1<;>rw[Qgd]at hr))
 |(with_reducible refine lp (Qi1 N _) hr N ?_ (λex hq hk=>⟨_,_,ex,hq,hk,?_⟩) _;clear hr;(try clear E);rintro n1 st ⟨v1,v2,ex,hr,hk,⟨_,E⟩⟩<;>(obtain _|n1:=n1<;>rw[Qa8]at hr))
 |(with_reducible refine lp (QhR N _ _) hr N ?_ (λex hq hk=>⟨_,ex,hq,hk,?_⟩) _;clear hr;(try clear E);rintro n1 st ⟨v1,ex,hr,hk,E⟩<;>(obtain _|n1:=n1<;>rw[QaI]at hr))
 |(with_reducible refine lp (Qmh N _) hr N ?_ (λex hq hk=>⟨_,_,ex,hq,hk,?_⟩) _;clear hr;(try clear E);rintro n1 st ⟨v1,v2,ex,hr,hk,E⟩<;>(obtain _|n1:=n1<;>rw[Qd2]at hr))
 |(with_reducible refine lp (QiF N _ _) hr N ?_ (λex hq hk=>⟨_,ex,hq,hk,?_⟩) _;clear hr;(try clear E);rintro n1 st ⟨v1,ex,hr,hk,E⟩<;>(obtain _|n1:=n1<;>rw[QbV]at hr))
 |(with_reducible refine lp (Qmi N _ _) hr N ?_ (λex hq hk=>⟨_,ex,hq,hk,?_⟩) _;clear hr;(try clear E);rintro n1 st ⟨v1,ex,hr,hk,⟨_,_,E⟩⟩<;>(obtain _|n1:=n1<;>rw[QeR]at hr))
 |(with_reducible refine lp (Qmj N _ _) hr N ?_ (λex hq hk=>⟨_,ex,hq,hk,?_⟩) _;clear hr;(try clear E);rintro n2 st ⟨v5,ex,hr,hk,⟨_,_,E⟩⟩<;>(obtain _|n2:=n2<;>rw[QeS]at hr))
 |(with_reducible refine lp (Qmk N _ _) hr N ?_ (λex hq hk=>⟨_,ex,hq,hk,?_⟩) _;clear hr;(try clear E);rintro n3 st ⟨v9,ex,hr,hk,⟨_,_,E⟩⟩<;>(obtain _|n3:=n3<;>rw[QeT]at hr))
 |(with_reducible refine lp (Qml N _ _) hr N ?_ (λex hq hk=>⟨_,ex,hq,hk,?_⟩) _;clear hr;(try clear E);rintro n1 st ⟨v1,ex,hr,hk,E⟩<;>(obtain _|n1:=n1<;>rw[QeV]at hr))
 |refine dc 33 6 hf 40 [(0,996,[]),(1,996,[]),(0,995,[]),(7,992,[]),(15,992,[]),(0,159,[]),(32,159,[]),(0,127,[]),(224,31,[]),(480,31,[]),(1023,0,[])] ?_
 |refine dc 33 11 hf 58 [(0,996,[]),(1,996,[]),(0,995,[]),(7,992,[]),(15,992,[]),(0,159,[]),(32,159,[]),(0,127,[]),(224,31,[]),(480,31,[]),(1023,0,[])] ?_
 |refine dc 33 16 hf 76 [(0,996,[]),(1,996,[]),(0,995,[]),(7,992,[]),(15,992,[]),(0,159,[]),(32,159,[]),(0,127,[]),(224,31,[]),(480,31,[]),(1023,0,[])] ?_
 |refine dc 35 6 hf 17 [(0,242,[]),(0,241,[]),(3,240,[]),(7,240,[]),(0,47,[]),(0,31,[]),(48,15,[]),(112,15,[]),(255,0,[])] ?_
 |(refine Xn hr ?_;rintro rfl;with_reducible refine XK ?_)
 |exact Yr hr
 |((first|refine Xx (c:=true) hr rfl ?_|refine Xx (c:=false) hr rfl ?_|refine Xx hr ag ?_);intro hr)
 |fail)
abbrev QqG:=g4.1
abbrev QpG:=g4.2.1
abbrev QpH:=g4.2.2.1
abbrev Qos:=g4.2.2.2.1
abbrev QpI:=g4.2.2.2.2.1
abbrev Qot:=g4.2.2.2.2.2.1
abbrev QpJ:=g4.2.2.2.2.2.2.1
abbrev QqH:=g4.2.2.2.2.2.2.2.1
abbrev Qji:=g4.2.2.2.2.2.2.2.2.1
abbrev Qio:=g4.2.2.2.2.2.2.2.2.2.1
abbrev QpK:=g4.2.2.2.2.2.2.2.2.2.2.1
abbrev Qjd:=g4.2.2.2.2.2.2.2.2.2.2.2.1
abbrev QpL:=g4.2.2.2.2.2.2.2.2.2.2.2.2.1
abbrev QpM:=g4.2.2.2.2.2.2.2.2.2.2.2.2.2
attribute [instance] QqG QpG QpH Qos QpI Qot QpJ QqH Qji Qio QpK Qjd QpL QpM
instance Qld:∀N(a0:List Wv),OK (Qab N a0) 137 [.isl 114 4 (a0.map XU)] [] (λr=>.fsl 114 4 (r.map XU)) λr=>[]:=by
 refineλN a0=>⟨λG hw r hr=>?_⟩
 rw[Qab]at hr;obtain rfl:=WG hr;obtain _|⟨x,l⟩:=a0;refine Zg λa cap=>?_;obtain _|a:=a
 all_goals
  refine Yq (fn:=Tryz.f137) (body:=(Tryz.f137.body).get!) (rs:=[.tmp 2]) 1000 [320] 8 ac ac ac ac ac ab λC _ hG hwf=>?_;subst hG;have hw2:=hwf;simp only[WfL,Wf,W4,and_true,Um,XdY,Xy]at hw2;simp only[Tryz.f137,Option.get!]
  simp only[go_sem,simprocAttr]
  try refine⟨aa,?_⟩
  with_reducible refine XK ?_
  simp only[go_sem,simprocAttr]
end Go.Sx
