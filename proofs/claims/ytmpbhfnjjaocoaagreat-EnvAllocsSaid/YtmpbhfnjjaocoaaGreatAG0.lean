import Derived.Test.YtmpbhfnjjaocoaaGreatAF
set_option linter.all false
namespace Go.Sx
open Go.Proofs
set_option maxRecDepth 10000
set_option maxHeartbeats 100000000
abbrev QkZ:=λN a0 a2 (Q:Int→Prop) n (st:St)=>∃v1 v2 ex,QdU N a0 a2 n v1 v2=some ex/\Q ex/\((∃w192,st.n=24/\st.t 2=vi a2/\st.t 3=.ept 192 w192 3 0 0/\st.t 7=vi v1/\st.t 8=vi v2/\st.s 192=some (w192,.arr true 32 3 [e32 a0] 0)))
abbrev Qj2:=λN a0 a2 (Q:Int→Prop) n (st:St)=>∃v1 v2 ex,Qdm N a0 a2 n v1 v2=some ex/\Q ex/\((st.n=37/\st.t 0=Yg a0/\st.t 2=vi a2/\st.t 7=vi v1/\st.t 8=vi v2))
abbrev Qm8:=λN a0 a1 (Q:(Ex Int Unit)→Prop) n (st:St)=>∃v1 ex,Qe8 N a0 a1 n v1=some ex/\Q ex/\((st.n=20/\st.t 0=s84 a0/\st.t 1=vu a1/\st.t 5=vi v1))
abbrev Qk0:=λN a0 (Q:(List IY)→Prop) n (st:St)=>∃v1 v2 ex,Qbr N a0 n v1 v2=some ex/\Q ex/\((∃w3328,st.n=54/\st.s 3328=some (w3328,.arr false 318 2 (v2.map XhP) 0)/\st.t 0=Yg a0/\st.t 3=.osl 3328 w3328 2 0 v2.length/\st.t 4=vi v1)\/((st.n=54/\st.t 0=Yg a0/\st.t 3=.nsl/\st.t 4=vi v1)/\v2=[]))
abbrev Qk1:=λN a0 v4 p5 v1 v2 (Q:(List Int)→Prop) n (st:St)=>∃v7 v8 ex,Qbt N a0 v4 p5 v1 v2 n v7 v8=some ex/\Q ex/\((∃w384 w832 w64 w128 w256,st.n=78/\st.s 384=some (w384,.arr false 175 4 ((v4.set v1.toNat (Wt.mk 0 0 0 0)).map XS) 0)/\st.s 832=some (w832,.arr false 58 1 (v8.map e58) 0)/\st.t 1=.ept 64 w64 16 0 0/\st.t 2=.ept 128 w128 16 0 0/\st.t 3=vi v1/\st.t 5=vi v7/\st.t 38=.ept 256 w256 4 0 1/\st.t 39=vi p5.s/\st.t 40=.ept 64 w64 16 0 0/\st.t 41=.ept 64 w64 16 0 4/\st.t 42=vi a0.h.s/\st.t 43=.v (.bool (p5.s != a0.h.s))/\st.s 64=some (w64,.arr true 138 16 [[vi a0.h.c.W,vi a0.h.c.p,.osl 832 w832 1 0 v8.length,.osl 384 w384 4 0 v4.length,vi a0.h.s,vi a0.h.b,s58 a0.o,s3 a0.t,s58 a0.q,vi a0.d,vi a0.r.j,vi a0.r.K,vi a0.r.F,vi (wI (v2 + 1)),vi a0.r.f,vi a0.r.y]] 0)/\st.s 128=some (w128,.arr true 138 16 [[vi 0,vi 0,.nsl,.nsl,vi 0,vi 0,.nsl,.nsl,.nsl,vi 0,vi 0,vi 0,vi 0,vi 0,vi 0,vi 0]] 0)/\st.s 256=some (w256,.arr true 175 4 [XS p5] 0)))
abbrev Qk2:=λN a0 (Q:(Int × List Int × List Wt)→Prop) n (st:St)=>∃v1 v2 v3 v4 ex,Qa0 N a0 n v1 v2 v3 v4=some ex/\Q ex/\((∃w384 w832 w64 w128,st.n=78/\st.s 384=some (w384,.arr false 175 4 (v4.map XS) 0)/\st.s 832=some (w832,.arr false 58 1 (v3.map e58) 0)/\st.t 1=.ept 64 w64 16 0 0/\st.t 2=.ept 128 w128 16 0 0/\st.t 3=vi v1/\st.s 64=some (w64,.arr true 138 16 [[vi a0.h.c.W,vi a0.h.c.p,.osl 832 w832 1 0 v3.length,.osl 384 w384 4 0 v4.length,vi a0.h.s,vi a0.h.b,s58 a0.o,s3 a0.t,s58 a0.q,vi a0.d,vi a0.r.j,vi a0.r.K,vi a0.r.F,vi v2,vi a0.r.f,vi a0.r.y]] 0)/\st.s 128=some (w128,.arr true 138 16 [[vi 0,vi 0,.nsl,.nsl,vi 0,vi 0,.nsl,.nsl,.nsl,vi 0,vi 0,vi 0,vi 0,vi 0,vi 0,vi 0]] 0)))
abbrev Qk3:=λN a0 a1 (Q:(Ex Int Unit)→Prop) n (st:St)=>∃v1 ex,QeK N a0 a1 n v1=some ex/\Q ex/\((∃w128,st.n=22/\st.t 1=vu a1/\st.t 2=.ept 128 w128 10 0 0/\st.t 5=vi v1/\st.s 128=some (w128,.arr true 65 10 [e65 a0] 0)))
abbrev Qid:=λN a0 (Q:(Ex Bool Unit)→Prop) n (st:St)=>∃v1 v2 ex,QaX N a0 n v1 v2=some ex/\Q ex/\((∃w64,st.n=74/\st.t 1=.ept 64 w64 3 0 0/\st.t 3=vi v1/\st.t 27=XbE a0.l.x/\st.t 28=vi a0.l.x.length/\st.t 29=vi v2/\st.s 64=some (w64,.arr true 180 3 [e32 a0.l] 0)))
abbrev Qk4:=λN a0 (Q:(List Int)→Prop) n (st:St)=>∃v1 v2 ex,QeN N a0 n v1 v2=some ex/\Q ex/\((∃w1088,st.n=20/\st.s 1088=some (w1088,.arr false 58 1 (v2.map e58) 0)/\st.t 3=.osl 1088 w1088 1 0 v2.length/\st.t 7=s84 a0.P/\st.t 8=vi a0.P.length/\st.t 9=vi v1)\/((st.n=20/\st.t 3=.nsl/\st.t 7=s84 a0.P/\st.t 8=vi a0.P.length/\st.t 9=vi v1)/\v2=[]))
abbrev Qme:=λN a0 (Q:Int→Prop) n (st:St)=>∃v1 v2 ex,Qfs N a0 n v1 v2=some ex/\Q ex/\((st.n=14/\st.t 3=vu v1/\st.t 6=vi (if 64 < (if a0 < 0 then 0 else a0)then 64 else(if a0 < 0 then 0 else a0))/\st.t 7=vi v2))
abbrev Qg4:=λN a0 a1 (Q:(Ex Int Unit)→Prop) n (st:St)=>∃v1 ex,Qax N a0 a1 n v1=some ex/\Q ex/\((st.n=19/\st.t 0=s58 a0/\st.t 1=vu a1/\st.t 7=vi a0.length/\st.t 8=vi v1))
abbrev Qk5:=λN a0 (Q:Int→Prop) n (st:St)=>∃v1 v2 ex,Qdi N a0 n v1 v2=some ex/\Q ex/\((st.n=19/\st.t 3=vi v1/\st.t 6=Yg a0/\st.t 7=vi a0.length/\st.t 8=vi v2))
abbrev Qiw:=λN a0 a1 (Q:(Ex Bool Unit)→Prop) n (st:St)=>∃v1 ex,Qb5 N a0 a1 n v1=some ex/\Q ex/\((st.n=26/\st.t 0=Yg a0/\st.t 1=Yg a1/\st.t 5=vi v1))
abbrev Qk6:=λN a0 a1 (Q:(Ex Bool Unit)→Prop) n (st:St)=>∃v1 ex,Qeb N a0 a1 n v1=some ex/\Q ex/\((∃w128 w192,st.n=31/\st.t 2=.ept 128 w128 1 0 0/\st.t 3=.ept 192 w192 1 0 0/\st.t 5=vi v1/\st.s 128=some (w128,.arr true 35 1 [[K5 a0.e]] 0)/\st.s 192=some (w192,.arr true 35 1 [[K5 a1.e]] 0)))
abbrev Qk7:=λN a0 a1 (Q:(Ex Bool Unit)→Prop) n (st:St)=>∃v1 ex,Qed N a0 a1 n v1=some ex/\Q ex/\((st.n=26/\st.t 0=s58 a0/\st.t 1=s58 a1/\st.t 5=vi v1))
def g5:(∀N a0 a1 a2,OK (Qgp N a0 a1 a2) 141 [.agg (e32 a0),vi a1,vi a2] [] (λr=>vi r) λr=>[])/\(∀N a0 a1 a2,OK (Qe6 N a0 a1 a2) 144 [Yg a0,vi a1,vi a2] [] (λr=>vi r) λr=>[])/\(∀N a0 a1,OK (QgV N a0 a1) 139 [s84 a0,vu a1] [] (λr=>vi r) λr=>[])/\(∀N a0,OK (Qgq N a0) 241 [Yg a0] [] (λr=>XmQ r) λr=>[])/\(∀N a0,OK (Qeh N a0) 82 [.agg (K4 a0)] [] (λr=>.agg (K4 r)) λr=>[])/\(∀N a0 a1,OK (QfG N a0 a1) 245 [.agg (e65 a0),vu a1] [] (λr=>vi r) λr=>[])/\(∀N a0,OK (Qdj N a0) 112 [.agg (XmL a0)] [] (λr=>.v (.bool r)) λr=>[])/\(∀N a0,OK (QhP N a0) 64 [.agg (e38 a0)] [] (λr=>s58 r) λr=>[])/\(∀N a0,OK (QcY N a0) 156 [vi a0] [] (λr=>vu r) λr=>[])/\(∀N a0 a1,OK (QbI N a0 a1) 117 [s58 a0,vu a1] [] (λr=>vi r) λr=>[])/\(∀N a0,OK (Qgx N a0) 234 [Yg a0] [] (λr=>vi r) λr=>[])/\(∀N a0 a1,OK (Qe3 N a0 a1) 84 [Yg a0,Yg a1] [] (λr=>.v (.bool r)) λr=>[])/\(∀N a0 a1,OK (QgB N a0 a1) 35 [.agg (e35 a0),.agg (e35 a1)] [] (λr=>.v (.bool r)) λr=>[])/\(∀N a0 a1,OK (Qhk N a0 a1) 37 [s58 a0,s58 a1] [] (λr=>.v (.bool r)) λr=>[]):=by
 refine⟨λN _ _ _=>rk Tryz.f141 [.tmp 6] [] 24 ?_,λN _ _ _=>rk Tryz.f144 [.tmp 6] [] 37 ?_,λN _ _=>rk Tryz.f139 [.tmp 4] [] 20 ?_,λN _=>rk Tryz.f241 [.tmp 2] [] 54 ?_,λN _=>rk Tryz.f82 [.cell 2 138] [] 78 ?_,λN _ _=>rk Tryz.f245 [.tmp 4] [] 22 ?_,λN _=>rk Tryz.f112 [.tmp 2] [] 74 ?_,λN _=>rk Tryz.f64 [.tmp 2] [] 20 ?_,λN _=>rk Tryz.f156 [.tmp 2] [] 14 ?_,λN _ _=>rk Tryz.f117 [.tmp 4] [] 19 ?_,λN _=>rk Tryz.f234 [.tmp 2] [] 19 ?_,λN _ _=>rk Tryz.f84 [.tmp 4] [] 26 ?_,λN _ _=>rk Tryz.f35 [.tmp 4] [] 31 ?_,λN _ _=>rk Tryz.f37 [.tmp 4] [] 26 ?_⟩<;>(rintro _ hw r hr C _ rfl hwf hf;simp only[Tryz.f141,Tryz.f144,Tryz.f139,Tryz.f241,Tryz.f82,Tryz.f245,Tryz.f112,Tryz.f64,Tryz.f156,Tryz.f117,Tryz.f234,Tryz.f84,Tryz.f35,Tryz.f37,Option.get!];(first|rw[Qgp]at hr|rw[Qe6]at hr|rw[QgV]at hr|rw[Qgq]at hr|rw[Qeh]at hr|rw[QfG]at hr|rw[Qdj]at hr|rw[QhP]at hr|rw[QcY]at hr|rw[QbI]at hr|rw[Qgx]at hr|rw[Qe3]at hr|rw[QgB]at hr|rw[Qhk]at hr);repeat' first
 |(refine El.el hr ?_;clear hr;intro hr)
 |(with_reducible intro h;refine XB hr h ?_;clear hr;intro hr)
 |with_reducible intro _
 |(refine Xn hr ?_;rintro rfl;have hr:=hk;clear hk)
 |simp only[go_sem,simprocAttr,E,Xu,ZU,XX,Yo,YE,Xj,XaL,Kv]
 |(with_reducible first|apply Xi|apply Xh|apply Xs|apply Xq|apply Xr)
 |((first|with_reducible refine Yq hr ag ?_ ?_|(with_reducible refine Yn hr ?_ ?_;rotate_left;intro p;rotate_right));(·simp only[go_sem,simprocAttr]);intro hp hn hd hr;(try have Xu:=hd _ e58);(try simp only[go_sem,simprocAttr]at Xu);(try have ZU:=hd _ e84);(try simp only[go_sem,simprocAttr]at ZU);(try have XX:=hd _ ZT);(try simp only[go_sem,simprocAttr]at XX);(try have Yo:=hd _ Zv);(try simp only[go_sem,simprocAttr]at Yo);(try have YE:=hd _ K6);(try simp only[go_sem,simprocAttr]at YE);(try have Xj:=hd _ XS);(try simp only[go_sem,simprocAttr]at Xj);(try have XaL:=hd _ XhP);(try simp only[go_sem,simprocAttr]at XaL);(try have Kv:=hd _ Xdx);(try simp only[go_sem,simprocAttr]at Kv))
 |(refine Xt ?_ ?_;.first|assumption|omega)
 |(with_reducible refine lp (QkZ N _ _) hr N ?_ (λex hq hk=>⟨_,_,ex,hq,hk,?_⟩) _;clear hr;(try clear E);rintro n1 st ⟨v1,v2,ex,hr,hk,⟨_,E⟩⟩<;>(obtain _|n1:=n1<;>rw[QdU]at hr))
 |refine⟨_,Wz _,_,_,_,hr,hk,?_⟩
 |(with_reducible refine lp (Qj2 N _ _) hr N ?_ (λex hq hk=>⟨_,_,ex,hq,hk,?_⟩) _;clear hr;(try clear E);rintro n1 st ⟨v1,v2,ex,hr,hk,E⟩<;>(obtain _|n1:=n1<;>rw[Qdm]at hr))
 |(with_reducible refine lp (Qm8 N _ _) hr N ?_ (λex hq hk=>⟨_,ex,hq,hk,?_⟩) _;clear hr;(try clear E);rintro n1 st ⟨v1,ex,hr,hk,E⟩<;>(obtain _|n1:=n1<;>rw[Qe8]at hr))
 |refine⟨_,Wz _,_,_,hr,hk,?_⟩
 |(with_reducible refine lp (Qk0 N _) hr N ?_ (λex hq hk=>⟨_,_,ex,hq,hk,?_⟩) _;clear hr;(try clear E);rintro n1 st ⟨v1,v2,ex,hr,hk,(⟨_,E⟩|⟨E,z0⟩)⟩<;>(try subst z0)<;>(obtain _|n1:=n1<;>rw[Qbr]at hr))
 |(with_reducible refine lp (Qk1 N _ _ _ _ _) hr N ?_ (λex hq hk=>⟨_,_,ex,hq,hk,?_⟩) _;clear hr;(try clear E);rintro n1 st ⟨v7,v8,ex,hr,hk,⟨_,_,_,_,_,E⟩⟩<;>(obtain _|n1:=n1<;>rw[Qbt]at hr))
 |(with_reducible refine lp (Qk2 N _) hr N ?_ (λex hq hk=>⟨_,_,_,_,ex,hq,hk,?_⟩) _;clear hr;(try clear E);rintro n2 st ⟨v1,v2,v3,v4,ex,hr,hk,⟨_,_,_,_,E⟩⟩<;>(obtain _|n2:=n2<;>rw[Qa0]at hr))
 |refine⟨_,Wz _,_,_,_,_,_,hr,hk,?_⟩
 |(with_reducible refine lp (Qk3 N _ _) hr N ?_ (λex hq hk=>⟨_,ex,hq,hk,?_⟩) _;clear hr;(try clear E);rintro n1 st ⟨v1,ex,hr,hk,⟨_,E⟩⟩<;>(obtain _|n1:=n1<;>rw[QeK]at hr))
 |(with_reducible refine lp (Qid N _) hr N ?_ (λex hq hk=>⟨_,_,ex,hq,hk,?_⟩) _;clear hr;(try clear E);rintro n1 st ⟨v1,v2,ex,hr,hk,⟨_,E⟩⟩<;>(obtain _|n1:=n1<;>rw[QaX]at hr))
 |(with_reducible refine lp (Qk4 N _) hr N ?_ (λex hq hk=>⟨_,_,ex,hq,hk,?_⟩) _;clear hr;(try clear E);rintro n1 st ⟨v1,v2,ex,hr,hk,(⟨_,E⟩|⟨E,z0⟩)⟩<;>(try subst z0)<;>(obtain _|n1:=n1<;>rw[QeN]at hr))
 |(with_reducible refine lp (Qme N _) hr N ?_ (λex hq hk=>⟨_,_,ex,hq,hk,?_⟩) _;clear hr;(try clear E);rintro n1 st ⟨v1,v2,ex,hr,hk,E⟩<;>(obtain _|n1:=n1<;>rw[Qfs]at hr))
 |(with_reducible refine lp (Qg4 N _ _) hr N ?_ (λex hq hk=>⟨_,ex,hq,hk,?_⟩) _;clear hr;(try clear E);rintro n1 st ⟨v1,ex,hr,hk,E⟩<;>(obtain _|n1:=n1<;>rw[Qax]at hr))
 |(with_reducible refine lp (Qk5 N _) hr N ?_ (λex hq hk=>⟨_,_,ex,hq,hk,?_⟩) _;clear hr;(try clear E);rintro n1 st ⟨v1,v2,ex,hr,hk,E⟩<;>(obtain _|n1:=n1<;>rw[Qdi]at hr))
 |(with_reducible refine lp (Qiw N _ _) hr N ?_ (λex hq hk=>⟨_,ex,hq,hk,?_⟩) _;clear hr;(try clear E);rintro n1 st ⟨v1,ex,hr,hk,E⟩<;>(obtain _|n1:=n1<;>rw[Qb5]at hr))
 |(with_reducible refine lp (Qk6 N _ _) hr N ?_ (λex hq hk=>⟨_,ex,hq,hk,?_⟩) _;clear hr;(try clear E);rintro n1 st ⟨v1,ex,hr,hk,⟨_,_,E⟩⟩<;>(obtain _|n1:=n1<;>rw[Qeb]at hr))
 |(with_reducible refine lp (Qk7 N _ _) hr N ?_ (λex hq hk=>⟨_,ex,hq,hk,?_⟩) _;clear hr;(try clear E);rintro n1 st ⟨v1,ex,hr,hk,E⟩<;>(obtain _|n1:=n1<;>rw[Qed]at hr))
 |refine dc 241 7 hf 23 [(0,0,[]),(1,0,[]),(3,0,[]),(7,12230,[]),(7,12225,[]),(23,12225,[]),(63,12224,[]),(127,12224,[]),(255,12224,[]),(7,8639,[]),(7,8319,[]),(1031,8319,[]),(3591,8255,[]),(7687,8255,[]),(15879,8255,[]),(32767,8192,[]),(7,8191,[]),(131071,0,[]),(262143,0,[])] ?_
 |refine dc 84 6 hf 17 [(0,242,[]),(0,241,[]),(3,240,[]),(7,240,[]),(0,47,[]),(0,31,[]),(48,15,[]),(112,15,[]),(255,0,[])] ?_
 |refine dc 35 6 hf 20 [(0,996,[]),(1,996,[]),(0,995,[]),(7,992,[]),(15,992,[]),(0,159,[]),(32,159,[]),(0,127,[]),(224,31,[]),(480,31,[]),(1023,0,[])] ?_
 |refine dc 37 6 hf 17 [(0,242,[]),(0,241,[]),(3,240,[]),(7,240,[]),(0,47,[]),(0,31,[]),(48,15,[]),(112,15,[]),(255,0,[])] ?_
 |(refine Xn hr ?_;rintro rfl;with_reducible refine XP ?_)
 |exact Yw hr
 |((first|refine XB (c:=true) hr rfl ?_|refine XB (c:=false) hr rfl ?_|refine XB hr ag ?_);intro hr)
 |fail)
abbrev Qof:=g5.1
abbrev Qm9:=g5.2.1
abbrev QpU:=g5.2.2.1
abbrev Qog:=g5.2.2.2.1
abbrev Qoh:=g5.2.2.2.2.1
abbrev Qoi:=g5.2.2.2.2.2.1
abbrev Qir:=g5.2.2.2.2.2.2.1
abbrev Qoj:=g5.2.2.2.2.2.2.2.1
abbrev Qpg:=g5.2.2.2.2.2.2.2.2.1
abbrev Qhz:=g5.2.2.2.2.2.2.2.2.2.1
abbrev Qok:=g5.2.2.2.2.2.2.2.2.2.2.1
abbrev Qjp:=g5.2.2.2.2.2.2.2.2.2.2.2.1
abbrev Qol:=g5.2.2.2.2.2.2.2.2.2.2.2.2.1
abbrev Qom:=g5.2.2.2.2.2.2.2.2.2.2.2.2.2
attribute [instance] Qof Qm9 QpU Qog Qoh Qoi Qir Qoj Qpg Qhz Qok Qjp Qol Qom
def g3:(∀N a0,OK (Qgo N a0) 44 [.ept 1000000 0 2 0 0] [.arr true 54 2 [[s3 a0.L,vi a0.at_]] 0] (λr=>.v (.bool r)) λr=>[.arr true 54 2 [[s3 a0.L,vi a0.at_]] 0])/\(∀N a0,OK (Qc1 N a0) 165 [.agg (e51 a0)] [] (λr=>.v (.bool r)) λr=>[])/\(∀N a0,OK (Qcv N a0) 148 [vu a0] [] (λr=>.tup [vu r.1,.v (.bool r.2)]) λr=>[])/\(∀N a0,OK (Qaf N a0) 174 [vi a0] [] (λr=>.tup [.agg (e38 r.1),vu r.2.1,vi r.2.2]) λr=>[])/\(∀N a0 a1 a2,OK (QgY N a0 a1 a2) 295 [.agg (e35 a0),vi a1,.agg (Zv a2)] [] (λr=>.agg (e35 r)) λr=>[])/\(∀N a0 a1 a2 a3,OK (Qfy N a0 a1 a2 a3) 186 [.agg (e65 a0),vu a1,vi a2,vu a3] [] (λr=>.agg (e65 r)) λr=>[])/\(∀N a0 a1,OK (QdN N a0 a1) 196 [.agg (XmL a0),vi a1] [] (λr=>XbD r) λr=>[])/\(∀N a0,OK (QbQ N a0) 154 [.agg (e23 a0)] [] (λr=>.v (.bool r)) λr=>[])/\(∀N a0,OK (Qdd N a0) 291 [.agg (XgM a0)] [] (λr=>.v (.bool r)) λr=>[])/\(∀N a0,OK (Qhf N a0) 311 [vu a0] [] (λr=>.v (.bool r)) λr=>[])/\(∀N a0,OK (Qdk N a0) 204 [vu a0] [] (λr=>.v (.bool r)) λr=>[])/\(∀N a0 a1,OK (QdT N a0 a1) 22 [vi a0,.ept 1000000 0 1 0 0] [.arr true 24 1 [[s58 a1]] 0] (λr=>s58 r.1) λr=>[.arr true 24 1 [[s58 r.2]] 0]):=by
 refine⟨λN _=>rk Tryz.f44 [.tmp 2] [] 13 ?_,λN _=>rk Tryz.f165 [.tmp 2] [] 40 ?_,λN _=>rk Tryz.f148 [.tmp 2,.tmp 3] [] 14 ?_,λN _=>rk Tryz.f174 [.cell 2 38,.tmp 3,.tmp 4] [] 7 ?_,λN _ _ _=>rk Tryz.f295 [.cell 6 35] [] 18 ?_,λN _ _ _ _=>rk Tryz.f186 [.cell 8 65] [] 38 ?_,λN _ _=>rk Tryz.f196 [.tmp 4] [] 42 ?_,λN _=>rk Tryz.f154 [.tmp 2] [] 27 ?_,λN _=>rk Tryz.f291 [.tmp 2] [] 11 ?_,λN _=>rk Tryz.f311 [.tmp 2] [] 5 ?_,λN _=>rk Tryz.f204 [.tmp 2] [] 6 ?_,λN _ _=>rk Tryz.f22 [.tmp 3] [] 12 ?_⟩<;>(rintro _ hw r hr C _ rfl hwf hf;simp only[Tryz.f44,Tryz.f165,Tryz.f148,Tryz.f174,Tryz.f295,Tryz.f186,Tryz.f196,Tryz.f154,Tryz.f291,Tryz.f311,Tryz.f204,Tryz.f22,Option.get!];(first|rw[Qgo]at hr|rw[Qc1]at hr|rw[Qcv]at hr|rw[Qaf]at hr|rw[QgY]at hr|rw[Qfy]at hr|rw[QdN]at hr|rw[QbQ]at hr|rw[Qdd]at hr|rw[Qhf]at hr|rw[Qdk]at hr|rw[QdT]at hr);repeat' first
 |(refine El.el hr ?_;clear hr;intro hr)
 |(with_reducible intro h;refine XB hr h ?_;clear hr;intro hr)
 |with_reducible intro _
 |simp only[go_sem,simprocAttr,Xu,Yo,YE,Kk,Wj,Wl,WA]
 |(with_reducible first|apply Xi|apply Xh|apply Xs|apply Xq|apply Xr)
 |((first|with_reducible refine Yq hr ag ?_ ?_|(with_reducible refine Yn hr ?_ ?_;rotate_left;intro p;rotate_right));(·simp only[go_sem,simprocAttr,Wj,Wl,WA]);intro hp hn hd hr;(try have Xu:=hd _ e58);(try simp only[go_sem,simprocAttr]at Xu);(try have Yo:=hd _ Zv);(try simp only[go_sem,simprocAttr]at Yo);(try have YE:=hd _ K6);(try simp only[go_sem,simprocAttr]at YE);(try have Kk:=hd _ Xbg);(try simp only[go_sem,simprocAttr]at Kk))
 |(refine Xt ?_ ?_;.first|assumption|omega)
 |refine dc 44 1 hf 3 [(0,496,[]),(1,496,[]),(3,496,[]),(7,496,[]),(0,15,[]),(16,15,[]),(48,15,[]),(112,15,[]),(240,15,[]),(511,0,[]),(1023,0,[])] ?_
 |refine dc 196 2 hf 12 [(0,262136,[]),(1,262136,[]),(3,262136,[]),(0,261191,[]),(8,261191,[]),(24,261191,[]),(0,261183,[]),(120,261127,[]),(248,261127,[]),(504,261127,[]),(0,25599,[]),(1024,25599,[]),(3072,25599,[]),(0,8191,[]),(8192,8191,[]),(31744,1023,[]),(64512,1023,[]),(130048,1023,[]),(262143,0,[]),(524287,0,[])] ?_
 |refine dc 196 3 hf 31 [(0,1016,[]),(1,1016,[]),(3,1016,[]),(0,71,[]),(8,71,[]),(24,71,[]),(0,63,[]),(120,7,[]),(248,7,[]),(504,7,[]),(1023,0,[]),(2047,0,[])] ?_
 |(refine Xn hr ?_;rintro rfl;with_reducible refine XP ?_)
 |exact Yw hr
 |fail)
abbrev Qj3:=g3.1
abbrev Qna:=g3.2.1
abbrev Qmf:=g3.2.2.1
abbrev Qmg:=g3.2.2.2.1
abbrev Qph:=g3.2.2.2.2.1
abbrev Qpi:=g3.2.2.2.2.2.1
abbrev Qix:=g3.2.2.2.2.2.2.1
abbrev Qj4:=g3.2.2.2.2.2.2.2.1
abbrev QiK:=g3.2.2.2.2.2.2.2.2.1
abbrev Qmh:=g3.2.2.2.2.2.2.2.2.2.1
abbrev Qis:=g3.2.2.2.2.2.2.2.2.2.2.1
abbrev Qjq:=g3.2.2.2.2.2.2.2.2.2.2.2
attribute [instance] Qj3 Qna Qmf Qmg Qph Qpi Qix Qj4 QiK Qmh Qis Qjq
instance Qjr:∀N(a0:List W8),OK (QaA N a0) 136 [.isl 109 3 (a0.map Zv)] [] (λr=>.fsl 109 3 (r.map Zv)) λr=>[]:=by
 refineλN a0=>⟨λG hw r hr=>?_⟩
 rw[QaA]at hr;obtain rfl:=WK hr;obtain _|⟨x,l⟩:=a0;refine YY λa cap=>?_;obtain _|a:=a
 all_goals
  refine Ys (fn:=Tryz.f136) (body:=(Tryz.f136.body).get!) (rs:=[.tmp 2]) 1000 [320] 8 ac ac ac ac ac ab λC _ hG hwf=>?_;subst hG;have hw2:=hwf;simp only[WfL,Wf,W4,and_true,Uo,Xdh,Xp]at hw2;simp only[Tryz.f136,Option.get!]
  simp only[go_sem,simprocAttr]
  try refine⟨aa,?_⟩
  with_reducible refine XP ?_
  simp only[go_sem,simprocAttr]
end Go.Sx
