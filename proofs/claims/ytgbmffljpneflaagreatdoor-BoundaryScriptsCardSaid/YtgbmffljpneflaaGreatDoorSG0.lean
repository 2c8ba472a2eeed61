import Derived.Test.YtgbmffljpneflaaGreatDoorSF
set_option linter.all false
namespace Go.Sx
open Go.Proofs
set_option maxRecDepth 10000
set_option maxHeartbeats 100000000
abbrev QkW:=λN a b (Q:Int→Prop) n (st:St)=>∃c d e,Qd0 N a b n c d=some e/\Q e/\((st.n=37/\st.t 0=Ya a/\st.t 2=vi b/\st.t 7=vi c/\st.t 8=vi d))
abbrev Qoc:=λN a b (Q:(Ex Int Unit)→Prop) n (st:St)=>∃c d,QfO N a b n c=some d/\Q d/\((st.n=20/\st.t 0=s76 a/\st.t 1=vu b/\st.t 5=vi c))
abbrev QkX:=λN b (Q:(Ex Bool Unit)→Prop) n (st:St)=>∃c d,Qdo N b n c=some d/\Q d/\((∃a,st.n=39/\st.t 1=.ept 64 a 1 0 0/\st.t 3=vi c/\st.s 64=some (a,.arr true 35 1 [[s74 b.e]] 0)))
abbrev QlU:=λN c (Q:(List Oj)→Prop) n (st:St)=>∃d b e,Qby N c n d b=some e/\Q e/\((∃a,st.n=54/\st.s 3328=some (a,.arr false 352 2 (b.map Xkg) 0)/\st.t 0=Ya c/\st.t 3=.osl 3328 a 2 0 b.length/\st.t 4=vi d)\/((st.n=54/\st.t 0=Ya c/\st.t 3=.nsl/\st.t 4=vi d)/\b=[]))
abbrev QlV:=λN a u m w z (Q:(List Int)→Prop) n (st:St)=>∃A x B,QbA N a u m w z n A x=some B/\Q B/\((∃g i e k l,st.n=78/\st.s 384=some (g,.arr false 114 4 ((u.set w.toNat (Wv.mk 0 0 0 0)).map XW) 0)/\st.s 832=some (i,.arr false 39 1 (x.map e39) 0)/\st.t 1=.ept 64 e 16 0 0/\st.t 2=.ept 128 k 16 0 0/\st.t 3=vi w/\st.t 5=vi A/\st.t 38=.ept 256 l 4 0 1/\st.t 39=vi m.s/\st.t 40=.ept 64 e 16 0 0/\st.t 41=.ept 64 e 16 0 4/\st.t 42=vi a.h.s/\st.t 43=.v (.bool (m.s != a.h.s))/\st.s 64=some (e,.arr true 237 16 [[vi a.h.c.W,vi a.h.c.p,.osl 832 i 1 0 x.length,.osl 384 g 4 0 u.length,vi a.h.s,vi a.h.b,s39 a.o,s3 a.t,s39 a.q,vi a.d,vi a.r.j,vi a.r.K,vi a.r.F,vi (wI (z + 1)),vi a.r.f,vi a.r.y]] 0)/\st.s 128=some (k,.arr true 237 16 [[vi 0,vi 0,.nsl,.nsl,vi 0,vi 0,.nsl,.nsl,.nsl,vi 0,vi 0,vi 0,vi 0,vi 0,vi 0,vi 0]] 0)/\st.s 256=some (l,.arr true 114 4 [XW m] 0)))
abbrev QlW:=λN a (Q:(Int × List Int × List Wv)→Prop) n (st:St)=>∃u v l m w,Qa8 N a n u v l m=some w/\Q w/\((∃e g k i,st.n=78/\st.s 384=some (e,.arr false 114 4 (m.map XW) 0)/\st.s 832=some (g,.arr false 39 1 (l.map e39) 0)/\st.t 1=.ept 64 k 16 0 0/\st.t 2=.ept 128 i 16 0 0/\st.t 3=vi u/\st.s 64=some (k,.arr true 237 16 [[vi a.h.c.W,vi a.h.c.p,.osl 832 g 1 0 l.length,.osl 384 e 4 0 m.length,vi a.h.s,vi a.h.b,s39 a.o,s3 a.t,s39 a.q,vi a.d,vi a.r.j,vi a.r.K,vi a.r.F,vi v,vi a.r.f,vi a.r.y]] 0)/\st.s 128=some (i,.arr true 237 16 [[vi 0,vi 0,.nsl,.nsl,vi 0,vi 0,.nsl,.nsl,.nsl,vi 0,vi 0,vi 0,vi 0,vi 0,vi 0,vi 0]] 0)))
abbrev Qkj:=λN b c (Q:(Ex Bool Unit)→Prop) n (st:St)=>∃d e,QdG N b c n d=some e/\Q e/\((∃a,st.n=21/\st.t 1=s39 c/\st.t 2=.ept 128 a 10 0 0/\st.t 5=vi d/\st.s 128=some (a,.arr true 43 10 [e43 b] 0)))
abbrev Qjl:=λN b (Q:(List Int)→Prop) n (st:St)=>∃d c e,QdO N b n d c=some e/\Q e/\((∃a,st.n=19/\st.s 1024=some (a,.arr false 39 1 (c.map e39) 0)/\st.t 3=.osl 1024 a 1 0 c.length/\st.t 6=Xkh b/\st.t 7=vi b.length/\st.t 8=vi d)\/((st.n=19/\st.t 3=.nsl/\st.t 6=Xkh b/\st.t 7=vi b.length/\st.t 8=vi d)/\c=[]))
abbrev QlX:=λN b (Q:Int→Prop) n (st:St)=>∃c d,Qfq N b n c=some d/\Q d/\((∃a,st.n=19/\st.t 1=vi c/\st.t 2=.ept 128 a 6 0 0/\st.s 128=some (a,.arr true 27 6 [e27 b] 0)))
abbrev Qiw:=λN b (Q:(Ex Bool Unit)→Prop) n (st:St)=>∃c d e,Qbi N b n c d=some e/\Q e/\((∃a,st.n=51/\st.t 1=.ept 64 a 3 0 0/\st.t 3=vi c/\st.t 8=s72 b.l.S/\st.t 9=vi b.l.S.length/\st.t 10=vi d/\st.s 64=some (a,.arr true 188 3 [e32 b.l] 0)))
abbrev QlY:=λN b (Q:(List Int)→Prop) n (st:St)=>∃d c e,Qfr N b n d c=some e/\Q e/\((∃a,st.n=20/\st.s 1088=some (a,.arr false 39 1 (c.map e39) 0)/\st.t 3=.osl 1088 a 1 0 c.length/\st.t 7=s76 b.P/\st.t 8=vi b.P.length/\st.t 9=vi d)\/((st.n=20/\st.t 3=.nsl/\st.t 7=s76 b.P/\st.t 8=vi b.P.length/\st.t 9=vi d)/\c=[]))
abbrev Qnc:=λN b (Q:(List Oj)→Prop) n (st:St)=>∃d c e,QcX N b n d c=some e/\Q e/\((∃a,st.n=54/\st.s 1344=some (a,.arr false 352 2 (c.map Xkg) 0)/\st.t 3=.osl 1344 a 2 0 c.length/\st.t 7=Ya b/\st.t 8=vi b.length/\st.t 9=vi d)\/((st.n=54/\st.t 3=.nsl/\st.t 7=Ya b/\st.t 8=vi b.length/\st.t 9=vi d)/\c=[]))
abbrev Qjb:=λN a b (Q:(Ex Bool Unit)→Prop) n (st:St)=>∃c d,Qce N a b n c=some d/\Q d/\((st.n=26/\st.t 0=Ya a/\st.t 1=Ya b/\st.t 5=vi c))
abbrev QlZ:=λN c d (Q:(Ex Bool Unit)→Prop) n (st:St)=>∃f g,QeM N c d n f=some g/\Q g/\((∃a b,st.n=31/\st.t 2=.ept 128 a 1 0 0/\st.t 3=.ept 192 b 1 0 0/\st.t 5=vi f/\st.s 128=some (a,.arr true 35 1 [[s74 c.e]] 0)/\st.s 192=some (b,.arr true 35 1 [[s74 d.e]] 0)))
abbrev Ql0:=λN a b (Q:(Ex Bool Unit)→Prop) n (st:St)=>∃c d,QeO N a b n c=some d/\Q d/\((st.n=26/\st.t 0=s39 a/\st.t 1=s39 b/\st.t 5=vi c))
def g5:(∀N a0 a1 a2,OK (QfM N a0 a1 a2) 246 [Ya a0,vi a1,vi a2] [] (λr=>vi r) λr=>[])/\(∀N a0 a1,OK (QhA N a0 a1) 160 [s76 a0,vu a1] [] (λr=>vi r) λr=>[])/\(∀N a0,OK (Qch N a0) 79 [.agg (e35 a0)] [] (λr=>.v (.bool r)) λr=>[])/\(∀N a0,OK (Qg9 N a0) 318 [Ya a0] [] (λr=>Xm5 r) λr=>[])/\(∀N a0,OK (Qfz N a0) 186 [.agg (Jo a0)] [] (λr=>.agg (Jo r)) λr=>[])/\(∀N a0 a1,OK (QdH N a0 a1) 188 [.agg (e43 a0),s39 a1] [] (λr=>.v (.bool r)) λr=>[])/\(∀N a0,OK (Qco N a0) 207 [Xkh a0] [] (λr=>s39 r) λr=>[])/\(∀N a0 a1,OK (QhU N a0 a1) 326 [.agg (e27 a0),vi a1] [] (λr=>vi r) λr=>[])/\(∀N a0,OK (QdL N a0) 125 [.agg (Xm0 a0)] [] (λr=>.v (.bool r)) λr=>[])/\(∀N a0,OK (Qit N a0) 136 [.agg (e38 a0)] [] (λr=>s39 r) λr=>[])/\(∀N a0,OK (Qik N a0) 360 [Ya a0] [] (λr=>Xm5 r) λr=>[])/\(∀N a0 a1,OK (QfK N a0 a1) 104 [Ya a0,Ya a1] [] (λr=>.v (.bool r)) λr=>[])/\(∀N a0 a1,OK (Qhh N a0 a1) 34 [.agg (e35 a0),.agg (e35 a1)] [] (λr=>.v (.bool r)) λr=>[])/\(∀N a0 a1,OK (Qh3 N a0 a1) 36 [s39 a0,s39 a1] [] (λr=>.v (.bool r)) λr=>[]):=by
 refine⟨λN _ _ _=>rk Tryz.f246 ?_,λN _ _=>rk Tryz.f160 ?_,λN _=>rk Tryz.f79 ?_,λN _=>rk Tryz.f318 ?_,λN _=>rk Tryz.f186 ?_,λN _ _=>rk Tryz.f188 ?_,λN _=>rk Tryz.f207 ?_,λN _ _=>rk Tryz.f326 ?_,λN _=>rk Tryz.f125 ?_,λN _=>rk Tryz.f136 ?_,λN _=>rk Tryz.f360 ?_,λN _ _=>rk Tryz.f104 ?_,λN _ _=>rk Tryz.f34 ?_,λN _ _=>rk Tryz.f36 ?_⟩<;>(rintro _ hw r hr C _ rfl hwf hf;simp only[Tryz.f246,Tryz.f160,Tryz.f79,Tryz.f318,Tryz.f186,Tryz.f188,Tryz.f207,Tryz.f326,Tryz.f125,Tryz.f136,Tryz.f360,Tryz.f104,Tryz.f34,Tryz.f36,Option.get!];(first|rw[QfM]at hr|rw[QhA]at hr|rw[Qch]at hr|rw[Qg9]at hr|rw[Qfz]at hr|rw[QdH]at hr|rw[Qco]at hr|rw[QhU]at hr|rw[QdL]at hr|rw[Qit]at hr|rw[Qik]at hr|rw[QfK]at hr|rw[Qhh]at hr|rw[Qh3]at hr);repeat' first
 |(refine El.el hr ?_;clear hr;intro hr)
 |(with_reducible intro h;refine Xv hr h ?_;clear hr;intro hr)
 |with_reducible intro _
 |(refine Xm hr ?_;rintro rfl;have hr:=hk;clear hk)
 |simp only[go_sem,simprocAttr,Xtz,E,hl3,Xw,Yw,YJ,ZH,Xk,Xbk,XeB]
 |(with_reducible first|apply Xi|apply Xh|apply Xo|apply Xr|apply Xs)
 |((first|with_reducible refine Yn hr ag ?_ ?_|(with_reducible refine Yj hr ?_ ?_;rotate_left;intro p;rotate_right));(·simp only[go_sem,simprocAttr]);intro hp hn hd hr;(try have hl3:=hd _ e3);(try simp only[go_sem,simprocAttr]at hl3);(try have Xw:=hd _ e39);(try simp only[go_sem,simprocAttr]at Xw);(try have Yw:=hd _ e72);(try simp only[go_sem,simprocAttr]at Yw);(try have YJ:=hd _ e74);(try simp only[go_sem,simprocAttr]at YJ);(try have ZH:=hd _ e76);(try simp only[go_sem,simprocAttr]at ZH);(try have Xk:=hd _ XW);(try simp only[go_sem,simprocAttr]at Xk);(try have Xbk:=hd _ VQ);(try simp only[go_sem,simprocAttr]at Xbk);(try have XeB:=hd _ Xkg);(try simp only[go_sem,simprocAttr]at XeB))
 |(refine Xp ?_ ?_;.first|assumption|omega)
 |(with_reducible refine lp (QkW N _ _) hr N ?_ (λex hq hk=>⟨_,_,ex,hq,hk,?_⟩) _;clear hr;(try clear E);rintro n1 st ⟨v1,v2,ex,hr,hk,E⟩<;>(obtain _|n1:=n1<;>rw[Qd0]at hr))
 |refine⟨_,WA _,_,_,_,hr,hk,?_⟩
 |(with_reducible refine lp (Qoc N _ _) hr N ?_ (λex hq hk=>⟨_,ex,hq,hk,?_⟩) _;clear hr;(try clear E);rintro n1 st ⟨v1,ex,hr,hk,E⟩<;>(obtain _|n1:=n1<;>rw[QfO]at hr))
 |refine⟨_,WA _,_,_,hr,hk,?_⟩
 |(with_reducible refine lp (QkX N _) hr N ?_ (λex hq hk=>⟨_,ex,hq,hk,?_⟩) _;clear hr;(try clear E);rintro n1 st ⟨v1,ex,hr,hk,⟨_,E⟩⟩<;>(obtain _|n1:=n1<;>rw[Qdo]at hr))
 |(with_reducible refine lp (QlU N _) hr N ?_ (λex hq hk=>⟨_,_,ex,hq,hk,?_⟩) _;clear hr;(try clear E);rintro n1 st ⟨v1,v2,ex,hr,hk,(⟨_,E⟩|⟨E,z0⟩)⟩<;>(try subst z0)<;>(obtain _|n1:=n1<;>rw[Qby]at hr))
 |(with_reducible refine lp (QlV N _ _ _ _ _) hr N ?_ (λex hq hk=>⟨_,_,ex,hq,hk,?_⟩) _;clear hr;(try clear E);rintro n1 st ⟨v7,v8,ex,hr,hk,⟨_,_,_,_,_,E⟩⟩<;>(obtain _|n1:=n1<;>rw[QbA]at hr))
 |(with_reducible refine lp (QlW N _) hr N ?_ (λex hq hk=>⟨_,_,_,_,ex,hq,hk,?_⟩) _;clear hr;(try clear E);rintro n2 st ⟨v1,v2,v3,v4,ex,hr,hk,⟨_,_,_,_,E⟩⟩<;>(obtain _|n2:=n2<;>rw[Qa8]at hr))
 |refine⟨_,WA _,_,_,_,_,_,hr,hk,?_⟩
 |(with_reducible refine lp (Qkj N _ _) hr N ?_ (λex hq hk=>⟨_,ex,hq,hk,?_⟩) _;clear hr;(try clear E);rintro n1 st ⟨v1,ex,hr,hk,⟨_,E⟩⟩<;>(obtain _|n1:=n1<;>rw[QdG]at hr))
 |(with_reducible refine lp (Qjl N _) hr N ?_ (λex hq hk=>⟨_,_,ex,hq,hk,?_⟩) _;clear hr;(try clear E);rintro n1 st ⟨v1,v2,ex,hr,hk,(⟨_,E⟩|⟨E,z0⟩)⟩<;>(try subst z0)<;>(obtain _|n1:=n1<;>rw[QdO]at hr))
 |(with_reducible refine lp (QlX N _) hr N ?_ (λex hq hk=>⟨_,ex,hq,hk,?_⟩) _;clear hr;(try clear E);rintro n1 st ⟨v1,ex,hr,hk,⟨_,E⟩⟩<;>(obtain _|n1:=n1<;>rw[Qfq]at hr))
 |(with_reducible refine lp (Qiw N _) hr N ?_ (λex hq hk=>⟨_,_,ex,hq,hk,?_⟩) _;clear hr;(try clear E);rintro n1 st ⟨v1,v2,ex,hr,hk,⟨_,E⟩⟩<;>(obtain _|n1:=n1<;>rw[Qbi]at hr))
 |(with_reducible refine lp (QlY N _) hr N ?_ (λex hq hk=>⟨_,_,ex,hq,hk,?_⟩) _;clear hr;(try clear E);rintro n1 st ⟨v1,v2,ex,hr,hk,(⟨_,E⟩|⟨E,z0⟩)⟩<;>(try subst z0)<;>(obtain _|n1:=n1<;>rw[Qfr]at hr))
 |(with_reducible refine lp (Qnc N _) hr N ?_ (λex hq hk=>⟨_,_,ex,hq,hk,?_⟩) _;clear hr;(try clear E);rintro n1 st ⟨v1,v2,ex,hr,hk,(⟨_,E⟩|⟨E,z0⟩)⟩<;>(try subst z0)<;>(obtain _|n1:=n1<;>rw[QcX]at hr))
 |(with_reducible refine lp (Qjb N _ _) hr N ?_ (λex hq hk=>⟨_,ex,hq,hk,?_⟩) _;clear hr;(try clear E);rintro n1 st ⟨v1,ex,hr,hk,E⟩<;>(obtain _|n1:=n1<;>rw[Qce]at hr))
 |(with_reducible refine lp (QlZ N _ _) hr N ?_ (λex hq hk=>⟨_,ex,hq,hk,?_⟩) _;clear hr;(try clear E);rintro n1 st ⟨v1,ex,hr,hk,⟨_,_,E⟩⟩<;>(obtain _|n1:=n1<;>rw[QeM]at hr))
 |(with_reducible refine lp (Ql0 N _ _) hr N ?_ (λex hq hk=>⟨_,ex,hq,hk,?_⟩) _;clear hr;(try clear E);rintro n1 st ⟨v1,ex,hr,hk,E⟩<;>(obtain _|n1:=n1<;>rw[QeO]at hr))
 |refine dc 318 7 hf 23 [(0,0,[]),(1,0,[]),(3,0,[]),(7,12230,[]),(7,12225,[]),(23,12225,[]),(63,12224,[]),(127,12224,[]),(255,12224,[]),(7,8639,[]),(7,8319,[]),(1031,8319,[]),(3591,8255,[]),(7687,8255,[]),(15879,8255,[]),(32767,8192,[]),(7,8191,[]),(131071,0,[]),(262143,0,[])] ?_
 |refine dc 188 4 hf 12 [(0,242,[]),(0,241,[]),(3,240,[]),(7,240,[]),(0,15,[]),(16,15,[]),(48,15,[]),(112,15,[]),(255,0,[])] ?_
 |refine dc 360 8 hf 30 [(0,0,[]),(1,0,[]),(3,0,[]),(7,3042,[]),(7,3041,[]),(31,3040,[]),(63,3040,[]),(127,3040,[]),(7,2143,[]),(7,2111,[]),(775,2079,[]),(1799,2079,[]),(3847,2079,[]),(8191,2048,[]),(7,2047,[]),(32767,0,[]),(65535,0,[]),(131071,0,[])] ?_
 |refine dc 104 6 hf 17 [(0,242,[]),(0,241,[]),(3,240,[]),(7,240,[]),(0,47,[]),(0,31,[]),(48,15,[]),(112,15,[]),(255,0,[])] ?_
 |refine dc 34 6 hf 20 [(0,996,[]),(1,996,[]),(0,995,[]),(7,992,[]),(15,992,[]),(0,159,[]),(32,159,[]),(0,127,[]),(224,31,[]),(480,31,[]),(1023,0,[])] ?_
 |refine dc 36 6 hf 17 [(0,242,[]),(0,241,[]),(3,240,[]),(7,240,[]),(0,47,[]),(0,31,[]),(48,15,[]),(112,15,[]),(255,0,[])] ?_
 |(refine Xm hr ?_;rintro rfl;with_reducible refine XI ?_)
 |exact Ym hr
 |((first|refine Xv (c:=true) hr rfl ?_|refine Xv (c:=false) hr rfl ?_|refine Xv hr ag ?_);intro hr)
 |fail)
abbrev Qod:=g5.1
abbrev Qq5:=g5.2.1
abbrev Qoe:=g5.2.2.1
abbrev Qpm:=g5.2.2.2.1
abbrev Qpn:=g5.2.2.2.2.1
abbrev Qnd:=g5.2.2.2.2.2.1
abbrev QkY:=g5.2.2.2.2.2.2.1
abbrev Qpo:=g5.2.2.2.2.2.2.2.1
abbrev Qi1:=g5.2.2.2.2.2.2.2.2.1
abbrev Qpp:=g5.2.2.2.2.2.2.2.2.2.1
abbrev Qqr:=g5.2.2.2.2.2.2.2.2.2.2.1
abbrev Qkk:=g5.2.2.2.2.2.2.2.2.2.2.2.1
abbrev Qpq:=g5.2.2.2.2.2.2.2.2.2.2.2.2.1
abbrev Qpr:=g5.2.2.2.2.2.2.2.2.2.2.2.2.2
attribute [instance] Qod Qq5 Qoe Qpm Qpn Qnd QkY Qpo Qi1 Qpp Qqr Qkk Qpq Qpr
abbrev Qne:=λN a b (Q:(Ex Bool Unit)→Prop) n (st:St)=>∃c d,Qf2 N a b n c=some d/\Q d/\((st.n=18/\st.t 0=s39 a/\st.t 1=vu b/\st.t 5=vi c))
abbrev Ql1:=λN b (Q:Int→Prop) n (st:St)=>∃c d,Qev N b n c=some d/\Q d/\((∃a,st.n=15/\st.t 1=vi c/\st.t 2=.ept 128 a 6 0 0/\st.s 128=some (a,.arr true 27 6 [e27 b] 0)))
abbrev Ql2:=λN b c (Q:Int→Prop) n (st:St)=>∃d e f,Qew N b c n d e=some f/\Q f/\((∃a,st.n=24/\st.t 2=vi c/\st.t 3=.ept 192 a 3 0 0/\st.t 7=vi d/\st.t 8=vi e/\st.s 192=some (a,.arr true 32 3 [e32 b] 0)))
abbrev QkZ:=λN b c (Q:(Ex Bool Unit)→Prop) n (st:St)=>∃d e,Qdp N b c n d=some e/\Q e/\((∃a,st.n=20/\st.t 1=vi c/\st.t 2=.ept 128 a 16 0 0/\st.t 5=vi d/\st.s 128=some (a,.arr true 237 16 [Jo b] 0)))
abbrev Ql3:=λN e f g h (Q:(Ex (List Wv × Int) (List Wv))→Prop) n (st:St)=>∃i d j,Qex N e f g h n i d=some j/\Q j/\((∃a b c,st.n=57/\st.s 1920=some (a,.arr false 114 4 (d.map XW) 0)/\st.t 1=vi e/\st.t 2=vi f/\st.t 8=.ept 512 b 4 0 0/\st.t 9=.ept 576 c 4 0 0/\st.t 12=.osl 1920 a 4 0 d.length/\st.t 13=vi i/\st.s 512=some (b,.arr true 114 4 [XW g] 0)/\st.s 576=some (c,.arr true 114 4 [XW h] 0)))
abbrev Qk0:=λN a (Q:Int→Prop) n (st:St)=>∃b c d,QbF N a n b c=some d/\Q d/\((st.n=20/\st.t 0=Ya a/\st.t 3=vi b/\st.t 4=vi c))
abbrev Ql4:=λN b c (Q:(Ex Int Unit)→Prop) n (st:St)=>∃d e,Qfn N b c n d=some e/\Q e/\((∃a,st.n=22/\st.t 1=vu c/\st.t 2=.ept 128 a 10 0 0/\st.t 5=vi d/\st.s 128=some (a,.arr true 43 10 [e43 b] 0)))
abbrev Qnf:=λN a (Q:Int→Prop) n (st:St)=>∃b c d,Qf7 N a n b c=some d/\Q d/\((st.n=14/\st.t 3=vu b/\st.t 6=vi (if 64 < (if a < 0 then 0 else a)then 64 else(if a < 0 then 0 else a))/\st.t 7=vi c))
abbrev QiT:=λN b (Q:(Ex Bool Unit)→Prop) n (st:St)=>∃c d e,Qa5 N b n c d=some e/\Q e/\((∃a,st.n=74/\st.t 1=.ept 64 a 3 0 0/\st.t 3=vi c/\st.t 27=s78 b.l.x/\st.t 28=vi b.l.x.length/\st.t 29=vi d/\st.s 64=some (a,.arr true 188 3 [e32 b.l] 0)))
abbrev QhJ:=λN a b (Q:(Ex Int Unit)→Prop) n (st:St)=>∃c d,QaI N a b n c=some d/\Q d/\((st.n=19/\st.t 0=s39 a/\st.t 1=vu b/\st.t 7=vi a.length/\st.t 8=vi c))
abbrev Ql5:=λN a (Q:Int→Prop) n (st:St)=>∃b c d,QdV N a n b c=some d/\Q d/\((st.n=19/\st.t 3=vi b/\st.t 6=Ya a/\st.t 7=vi a.length/\st.t 8=vi c))
abbrev Qix:=λN a b (Q:(Ex Int Unit)→Prop) n (st:St)=>∃c d,QbM N a b n c=some d/\Q d/\((st.n=19/\st.t 0=s3 a/\st.t 1=vi b/\st.t 7=vi a.length/\st.t 8=vi c))
abbrev Ql6:=λN c d (Q:(Ex Bool Unit)→Prop) n (st:St)=>∃e f,QeJ N c d n e=some f/\Q f/\((∃a b,st.n=87/\st.t 2=.ept 128 a 3 0 0/\st.t 3=.ept 192 b 3 0 0/\st.t 5=vi e/\st.s 128=some (a,.arr true 32 3 [e32 c] 0)/\st.s 192=some (b,.arr true 32 3 [e32 d] 0)))
abbrev Ql7:=λN c d (Q:(Ex Bool Unit)→Prop) n (st:St)=>∃e f,QeK N c d n e=some f/\Q f/\((∃a b,st.n=87/\st.t 2=.ept 128 a 3 0 0/\st.t 3=.ept 192 b 3 0 0/\st.t 6=vi e/\st.s 128=some (a,.arr true 32 3 [e32 c] 0)/\st.s 192=some (b,.arr true 32 3 [e32 d] 0)))
abbrev Ql8:=λN c d (Q:(Ex Bool Unit)→Prop) n (st:St)=>∃e f,QeL N c d n e=some f/\Q f/\((∃a b,st.n=87/\st.t 2=.ept 128 a 3 0 0/\st.t 3=.ept 192 b 3 0 0/\st.t 7=vi e/\st.s 128=some (a,.arr true 32 3 [e32 c] 0)/\st.s 192=some (b,.arr true 32 3 [e32 d] 0)))
abbrev Ql9:=λN a b (Q:(Ex Bool Unit)→Prop) n (st:St)=>∃c d,QeN N a b n c=some d/\Q d/\((st.n=26/\st.t 0=s76 a/\st.t 1=s76 b/\st.t 5=vi c))
def g4:(∀N a0 a1,OK (Qdl N a0 a1) 81 [s39 a0,vu a1] [] (λr=>.v (.bool r)) λr=>[])/\(∀N a0 a1,OK (Qgg N a0 a1) 342 [.agg (e27 a0),vi a1] [] (λr=>vi r) λr=>[])/\(∀N a0 a1 a2,OK (Qg8 N a0 a1 a2) 162 [.agg (e32 a0),vi a1,vi a2] [] (λr=>vi r) λr=>[])/\(∀N a0 a1,OK (Qhp N a0 a1) 293 [.agg (Jo a0),vi a1] [] (λr=>.v (.bool r)) λr=>[])/\(∀N a0 a1 a2 a3 a4,OK (QdD N a0 a1 a2 a3 a4) 319 [Ya a0,vi a1,vi a2,.agg (XW a3),.agg (XW a4)] [] (λr=>.tup [.fsl 114 4 (r.1.map XW),vi r.2]) λr=>[])/\(∀N a0,OK (QcS N a0) 283 [Ya a0] [] (λr=>vi r) λr=>[])/\(∀N a0 a1,OK (Qgn N a0 a1) 190 [.agg (e43 a0),vu a1] [] (λr=>vi r) λr=>[])/\(∀N a0,OK (Qa2 N a0) 300 [vi a0] [] (λr=>vu r) λr=>[])/\(∀N a0,OK (QdY N a0) 124 [.agg (Xm0 a0)] [] (λr=>.v (.bool r)) λr=>[])/\(∀N a0 a1,OK (QbV N a0 a1) 129 [s39 a0,vu a1] [] (λr=>vi r) λr=>[])/\(∀N a0,OK (Qhf N a0) 348 [Ya a0] [] (λr=>vi r) λr=>[])/\(∀N a0 a1,OK (QeU N a0 a1) 370 [s3 a0,vi a1] [] (λr=>vi r) λr=>[])/\(∀N a0 a1,OK (Qh1 N a0 a1) 33 [.agg (e32 a0),.agg (e32 a1)] [] (λr=>.v (.bool r)) λr=>[])/\(∀N a0 a1,OK (Qh2 N a0 a1) 35 [s76 a0,s76 a1] [] (λr=>.v (.bool r)) λr=>[]):=by
 refine⟨λN _ _=>rk Tryz.f81 ?_,λN _ _=>rk Tryz.f342 ?_,λN _ _ _=>rk Tryz.f162 ?_,λN _ _=>rk Tryz.f293 ?_,λN _ _ _ _ _=>rq Tryz.f319 [1920] ?_,λN _=>rk Tryz.f283 ?_,λN _ _=>rk Tryz.f190 ?_,λN _=>rk Tryz.f300 ?_,λN _=>rk Tryz.f124 ?_,λN _ _=>rk Tryz.f129 ?_,λN _=>rk Tryz.f348 ?_,λN _ _=>rk Tryz.f370 ?_,λN _ _=>rk Tryz.f33 ?_,λN _ _=>rk Tryz.f35 ?_⟩<;>(rintro _ hw r hr C _ rfl hwf hf;simp only[Tryz.f81,Tryz.f342,Tryz.f162,Tryz.f293,Tryz.f319,Tryz.f283,Tryz.f190,Tryz.f300,Tryz.f124,Tryz.f129,Tryz.f348,Tryz.f370,Tryz.f33,Tryz.f35,Option.get!];(first|rw[Qdl]at hr|rw[Qgg]at hr|rw[Qg8]at hr|rw[Qhp]at hr|rw[QdD]at hr|rw[QcS]at hr|rw[Qgn]at hr|rw[Qa2]at hr|rw[QdY]at hr|rw[QbV]at hr|rw[Qhf]at hr|rw[QeU]at hr|rw[Qh1]at hr|rw[Qh2]at hr);repeat' first
 |(refine El.el hr ?_;clear hr;intro hr)
 |(with_reducible intro h;refine Xv hr h ?_;clear hr;intro hr)
 |with_reducible intro _
 |(refine Xm hr ?_;rintro rfl;have hr:=hk;clear hk)
 |simp only[go_sem,simprocAttr,E,hl3,Xw,Yw,ZH,Kf,Xk,KJ]
 |(with_reducible first|apply Xi|apply Xh|apply Xo|apply Xr|apply Xs)
 |((first|with_reducible refine Yn hr ag ?_ ?_|(with_reducible refine Yj hr ?_ ?_;rotate_left;intro p;rotate_right));(·simp only[go_sem,simprocAttr]);intro hp hn hd hr;(try have hl3:=hd _ e3);(try simp only[go_sem,simprocAttr]at hl3);(try have Xw:=hd _ e39);(try simp only[go_sem,simprocAttr]at Xw);(try have Yw:=hd _ e72);(try simp only[go_sem,simprocAttr]at Yw);(try have ZH:=hd _ e76);(try simp only[go_sem,simprocAttr]at ZH);(try have Kf:=hd _ e78);(try simp only[go_sem,simprocAttr]at Kf);(try have Xk:=hd _ XW);(try simp only[go_sem,simprocAttr]at Xk);(try have KJ:=hd _ XdL);(try simp only[go_sem,simprocAttr]at KJ))
 |(refine Xp ?_ ?_;.first|assumption|omega)
 |(with_reducible refine lp (Qne N _ _) hr N ?_ (λex hq hk=>⟨_,ex,hq,hk,?_⟩) _;clear hr;(try clear E);rintro n1 st ⟨v1,ex,hr,hk,E⟩<;>(obtain _|n1:=n1<;>rw[Qf2]at hr))
 |refine⟨_,WA _,_,_,hr,hk,?_⟩
 |(with_reducible refine lp (Ql1 N _) hr N ?_ (λex hq hk=>⟨_,ex,hq,hk,?_⟩) _;clear hr;(try clear E);rintro n1 st ⟨v1,ex,hr,hk,⟨_,E⟩⟩<;>(obtain _|n1:=n1<;>rw[Qev]at hr))
 |(with_reducible refine lp (Ql2 N _ _) hr N ?_ (λex hq hk=>⟨_,_,ex,hq,hk,?_⟩) _;clear hr;(try clear E);rintro n1 st ⟨v1,v2,ex,hr,hk,⟨_,E⟩⟩<;>(obtain _|n1:=n1<;>rw[Qew]at hr))
 |refine⟨_,WA _,_,_,_,hr,hk,?_⟩
 |(with_reducible refine lp (QkZ N _ _) hr N ?_ (λex hq hk=>⟨_,ex,hq,hk,?_⟩) _;clear hr;(try clear E);rintro n1 st ⟨v1,ex,hr,hk,⟨_,E⟩⟩<;>(obtain _|n1:=n1<;>rw[Qdp]at hr))
 |(with_reducible refine lp (Ql3 N _ _ _ _) hr N ?_ (λex hq hk=>⟨_,_,ex,hq,hk,?_⟩) _;clear hr;(try clear E);rintro n1 st ⟨v1,v2,ex,hr,hk,⟨_,_,_,E⟩⟩<;>(obtain _|n1:=n1<;>rw[Qex]at hr))
 |(with_reducible refine lp (Qk0 N _) hr N ?_ (λex hq hk=>⟨_,_,ex,hq,hk,?_⟩) _;clear hr;(try clear E);rintro n1 st ⟨v1,v2,ex,hr,hk,E⟩<;>(obtain _|n1:=n1<;>rw[QbF]at hr))
 |(with_reducible refine lp (Ql4 N _ _) hr N ?_ (λex hq hk=>⟨_,ex,hq,hk,?_⟩) _;clear hr;(try clear E);rintro n1 st ⟨v1,ex,hr,hk,⟨_,E⟩⟩<;>(obtain _|n1:=n1<;>rw[Qfn]at hr))
 |(with_reducible refine lp (Qnf N _) hr N ?_ (λex hq hk=>⟨_,_,ex,hq,hk,?_⟩) _;clear hr;(try clear E);rintro n1 st ⟨v1,v2,ex,hr,hk,E⟩<;>(obtain _|n1:=n1<;>rw[Qf7]at hr))
 |(with_reducible refine lp (QiT N _) hr N ?_ (λex hq hk=>⟨_,_,ex,hq,hk,?_⟩) _;clear hr;(try clear E);rintro n1 st ⟨v1,v2,ex,hr,hk,⟨_,E⟩⟩<;>(obtain _|n1:=n1<;>rw[Qa5]at hr))
 |(with_reducible refine lp (QhJ N _ _) hr N ?_ (λex hq hk=>⟨_,ex,hq,hk,?_⟩) _;clear hr;(try clear E);rintro n1 st ⟨v1,ex,hr,hk,E⟩<;>(obtain _|n1:=n1<;>rw[QaI]at hr))
 |(with_reducible refine lp (Ql5 N _) hr N ?_ (λex hq hk=>⟨_,_,ex,hq,hk,?_⟩) _;clear hr;(try clear E);rintro n1 st ⟨v1,v2,ex,hr,hk,E⟩<;>(obtain _|n1:=n1<;>rw[QdV]at hr))
 |(with_reducible refine lp (Qix N _ _) hr N ?_ (λex hq hk=>⟨_,ex,hq,hk,?_⟩) _;clear hr;(try clear E);rintro n1 st ⟨v1,ex,hr,hk,E⟩<;>(obtain _|n1:=n1<;>rw[QbM]at hr))
 |(with_reducible refine lp (Ql6 N _ _) hr N ?_ (λex hq hk=>⟨_,ex,hq,hk,?_⟩) _;clear hr;(try clear E);rintro n1 st ⟨v1,ex,hr,hk,⟨_,_,E⟩⟩<;>(obtain _|n1:=n1<;>rw[QeJ]at hr))
 |(with_reducible refine lp (Ql7 N _ _) hr N ?_ (λex hq hk=>⟨_,ex,hq,hk,?_⟩) _;clear hr;(try clear E);rintro n2 st ⟨v5,ex,hr,hk,⟨_,_,E⟩⟩<;>(obtain _|n2:=n2<;>rw[QeK]at hr))
 |(with_reducible refine lp (Ql8 N _ _) hr N ?_ (λex hq hk=>⟨_,ex,hq,hk,?_⟩) _;clear hr;(try clear E);rintro n3 st ⟨v9,ex,hr,hk,⟨_,_,E⟩⟩<;>(obtain _|n3:=n3<;>rw[QeL]at hr))
 |(with_reducible refine lp (Ql9 N _ _) hr N ?_ (λex hq hk=>⟨_,ex,hq,hk,?_⟩) _;clear hr;(try clear E);rintro n1 st ⟨v1,ex,hr,hk,E⟩<;>(obtain _|n1:=n1<;>rw[QeN]at hr))
 |refine dc 33 6 hf 40 [(0,996,[]),(1,996,[]),(0,995,[]),(7,992,[]),(15,992,[]),(0,159,[]),(32,159,[]),(0,127,[]),(224,31,[]),(480,31,[]),(1023,0,[])] ?_
 |refine dc 33 11 hf 58 [(0,996,[]),(1,996,[]),(0,995,[]),(7,992,[]),(15,992,[]),(0,159,[]),(32,159,[]),(0,127,[]),(224,31,[]),(480,31,[]),(1023,0,[])] ?_
 |refine dc 33 16 hf 76 [(0,996,[]),(1,996,[]),(0,995,[]),(7,992,[]),(15,992,[]),(0,159,[]),(32,159,[]),(0,127,[]),(224,31,[]),(480,31,[]),(1023,0,[])] ?_
 |refine dc 35 6 hf 17 [(0,242,[]),(0,241,[]),(3,240,[]),(7,240,[]),(0,47,[]),(0,31,[]),(48,15,[]),(112,15,[]),(255,0,[])] ?_
 |(refine Xm hr ?_;rintro rfl;with_reducible refine XI ?_)
 |exact Ym hr
 |((first|refine Xv (c:=true) hr rfl ?_|refine Xv (c:=false) hr rfl ?_|refine Xv hr ag ?_);intro hr)
 |fail)
abbrev Qqs:=g4.1
abbrev Qps:=g4.2.1
abbrev Qpt:=g4.2.2.1
abbrev Qof:=g4.2.2.2.1
abbrev Qpu:=g4.2.2.2.2.1
abbrev Qog:=g4.2.2.2.2.2.1
abbrev Qpv:=g4.2.2.2.2.2.2.1
abbrev Qqt:=g4.2.2.2.2.2.2.2.1
abbrev Qi8:=g4.2.2.2.2.2.2.2.2.1
abbrev Qig:=g4.2.2.2.2.2.2.2.2.2.1
abbrev Qpw:=g4.2.2.2.2.2.2.2.2.2.2.1
abbrev Qi2:=g4.2.2.2.2.2.2.2.2.2.2.2.1
abbrev Qpx:=g4.2.2.2.2.2.2.2.2.2.2.2.2.1
abbrev Qpy:=g4.2.2.2.2.2.2.2.2.2.2.2.2.2
attribute [instance] Qqs Qps Qpt Qof Qpu Qog Qpv Qqt Qi8 Qig Qpw Qi2 Qpx Qpy
instance Qk1:∀N(a0:List Wv),OK (Qaa N a0) 137 [.isl 114 4 (a0.map XW)] [] (λr=>.fsl 114 4 (r.map XW)) λr=>[]:=by
 refineλN a0=>⟨λG hw r hr=>?_⟩
 rw[Qaa]at hr;obtain rfl:=WE hr;obtain _|⟨x,l⟩:=a0;refine Zd λa cap=>?_;obtain _|a:=a
 all_goals
  refine Yl (fn:=Tryz.f137) (body:=(Tryz.f137.body).get!) (rs:=[.tmp 2]) 1000 [320] 8 ac ac ac ac ac ab λC _ hG hwf=>?_;subst hG;have hw2:=hwf;simp only[WfL,Wf,Ug,and_true,Uk,Xg1,Xx]at hw2;simp only[Tryz.f137,Option.get!]
  simp only[go_sem,simprocAttr]
  try refine⟨aa,?_⟩
  with_reducible refine XI ?_
  simp only[go_sem,simprocAttr]
end Go.Sx
