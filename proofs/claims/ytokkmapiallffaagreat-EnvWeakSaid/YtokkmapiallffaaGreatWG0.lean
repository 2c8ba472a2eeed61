import Derived.Test.YtokkmapiallffaaGreatWF
set_option linter.all false
namespace Go.Sx
open Go.Proofs Tryz
set_option maxRecDepth 10000
set_option maxHeartbeats 100000000
abbrev Qjw:=λN b c Q n (st:St)=>∃d e,Iv (QdT N b c n d e) Q ((∃a,st.n=24/\st.t 2=vi c/\st.t 3=.ept 192 a 3 0 0/\st.t 7=vi d/\st.t 8=vi e/\st.s 192=some (a,.arr true 32 3 [e32 b] 0)))
abbrev QiC:=λN a b Q n (st:St)=>∃c d,Iv (Qdr N a b n c d) Q ((st.n=37/\st.t 0=Yz a/\st.t 2=vi b/\st.t 7=vi c/\st.t 8=vi d))
abbrev Qle:=λN a b Q n (st:St)=>∃c,Iv (QeX N a b n c) Q ((st.n=20/\st.t 0=s93 a/\st.t 1=vu b/\st.t 5=vi c))
abbrev Qjx:=λN c Q n (st:St)=>∃d b,Iv (Qbw N c n d b) Q ((∃a,st.n=54/\st.s 3328=some (a,.arr false 359 2 (b.map Xi0) 0)/\st.t 0=Yz c/\st.t 3=.osl 3328 a 2 0 b.length/\st.t 4=vi d)\/((st.n=54/\st.t 0=Yz c/\st.t 3=.nsl/\st.t 4=vi d)/\b=[]))
abbrev Qjy:=λN a u m w x Q n (st:St)=>∃v7 v8,Iv (Qbe N a u m w x n v7 v8) Q ((∃g i e k l,st.n=78/\st.s 384=some (g,.arr false 122 4 ((u.set w.toNat (Wr.mk 0 0 0 0)).map XX) 0)/\st.s 832=some (i,.arr false 52 1 (v8.map e52) 0)/\st.t 1=.ept 64 e 16 0 0/\st.t 2=.ept 128 k 16 0 0/\st.t 3=vi w/\st.t 5=vi v7/\st.t 38=.ept 256 l 4 0 1/\st.t 39=vi m.s/\st.t 40=.ept 64 e 16 0 0/\st.t 41=.ept 64 e 16 0 4/\st.t 42=vi a.h.s/\st.t 43=.v (.bool (m.s != a.h.s))/\st.s 64=some (e,.arr true 266 16 [[vi a.h.c.W,vi a.h.c.p,.osl 832 i 1 0 v8.length,.osl 384 g 4 0 u.length,vi a.h.s,vi a.h.b,s52 a.o,s3 a.t,s52 a.q,vi a.d,vi a.r.j,vi a.r.K,vi a.r.F,vi (wI (x + 1)),vi a.r.f,vi a.r.y]] 0)/\st.s 128=some (k,.arr true 266 16 [[vi 0,vi 0,.nsl,.nsl,vi 0,vi 0,.nsl,.nsl,.nsl,vi 0,vi 0,vi 0,vi 0,vi 0,vi 0,vi 0]] 0)/\st.s 256=some (l,.arr true 122 4 [XX m] 0)))
abbrev Qjz:=λN a Q n (st:St)=>∃u v l m,Iv (QaL N a n u v l m) Q ((∃e g k i,st.n=78/\st.s 384=some (e,.arr false 122 4 (m.map XX) 0)/\st.s 832=some (g,.arr false 52 1 (l.map e52) 0)/\st.t 1=.ept 64 k 16 0 0/\st.t 2=.ept 128 i 16 0 0/\st.t 3=vi u/\st.s 64=some (k,.arr true 266 16 [[vi a.h.c.W,vi a.h.c.p,.osl 832 g 1 0 l.length,.osl 384 e 4 0 m.length,vi a.h.s,vi a.h.b,s52 a.o,s3 a.t,s52 a.q,vi a.d,vi a.r.j,vi a.r.K,vi a.r.F,vi v,vi a.r.f,vi a.r.y]] 0)/\st.s 128=some (i,.arr true 266 16 [[vi 0,vi 0,.nsl,.nsl,vi 0,vi 0,.nsl,.nsl,.nsl,vi 0,vi 0,vi 0,vi 0,vi 0,vi 0,vi 0]] 0)))
abbrev QjA:=λN b c Q n (st:St)=>∃d,Iv (QeD N b c n d) Q ((∃a,st.n=22/\st.t 1=vu c/\st.t 2=.ept 128 a 10 0 0/\st.t 5=vi d/\st.s 128=some (a,.arr true 42 10 [e42 b] 0)))
abbrev Qhd:=λN b Q n (st:St)=>∃c d,Iv (Qa1 N b n c d) Q ((∃a,st.n=74/\st.t 1=.ept 64 a 3 0 0/\st.t 3=vi c/\st.t 27=Xcu b.l.x/\st.t 28=vi b.l.x.length/\st.t 29=vi d/\st.s 64=some (a,.arr true 179 3 [e32 b.l] 0)))
abbrev QjB:=λN b Q n (st:St)=>∃d c,Iv (QeG N b n d c) Q ((∃a,st.n=20/\st.s 1088=some (a,.arr false 52 1 (c.map e52) 0)/\st.t 3=.osl 1088 a 1 0 c.length/\st.t 7=s93 b.P/\st.t 8=vi b.P.length/\st.t 9=vi d)\/((st.n=20/\st.t 3=.nsl/\st.t 7=s93 b.P/\st.t 8=vi b.P.length/\st.t 9=vi d)/\c=[]))
abbrev Qkx:=λN a Q n (st:St)=>∃b c,Iv (Qfg N a n b c) Q ((st.n=14/\st.t 3=vu b/\st.t 6=vi (if 64 < (if a < 0 then 0 else a)then 64 else(if a < 0 then 0 else a))/\st.t 7=vi c))
abbrev QgD:=λN a b Q n (st:St)=>∃c,Iv (Qay N a b n c) Q ((st.n=19/\st.t 0=s52 a/\st.t 1=vu b/\st.t 7=vi a.length/\st.t 8=vi c))
abbrev QjC:=λN a Q n (st:St)=>∃b c,Iv (Qdm N a n b c) Q ((st.n=19/\st.t 3=vi b/\st.t 6=Yz a/\st.t 7=vi a.length/\st.t 8=vi c))
def g5:(∀N(a0:Ws)(a1:Int)(a2:Int),O1 (Qf7 N a0 a1 a2) 149 [.agg (e32 a0),vi a1,vi a2] (λr=>vi r))/\(∀N(a0:List Wr)(a1:Int)(a2:Int),O1 (QeV N a0 a1 a2) 52 [Yz a0,vi a1,vi a2] (λr=>vi r))/\(∀N(a0:List UE)(a1:Int),O1 (Qgw N a0 a1) 253 [s93 a0,vu a1] (λr=>vi r))/\(∀N(a0:List Wr),O1 (Qf8 N a0) 306 [Yz a0] (λr=>Xow r))/\(∀N(a0:Wu),O1 (Qeb N a0) 186 [.agg (Jz a0)] (λr=>.agg (Jz r)))/\(∀N(a0:WQ)(a1:Int),O1 (Qfq N a0 a1) 190 [.agg (e42 a0),vu a1] (λr=>vi r))/\(∀N(a0:IM),O1 (Qdn N a0) 98 [.agg (Xor a0)] (λr=>.v (.bool r)))/\(∀N(a0:Um),O1 (Qg5 N a0) 71 [.agg (e38 a0)] (λr=>s52 r))/\(∀N(a0:Int),O1 (QcU N a0) 153 [vi a0] (λr=>vu r))/\(∀N(a0:List Int)(a1:Int),O1 (QbR N a0 a1) 103 [s52 a0,vu a1] (λr=>vi r))/\(∀N(a0:List Wr),O1 (Qgf N a0) 237 [Yz a0] (λr=>vi r)):=by
 refine⟨λN _ _ _=>rk f149 ?_,λN _ _ _=>rk f52 ?_,λN _ _=>rk f253 ?_,λN _=>rk f306 ?_,λN _=>rk f186 ?_,λN _ _=>rk f190 ?_,λN _=>rk f98 ?_,λN _=>rk f71 ?_,λN _=>rk f153 ?_,λN _ _=>rk f103 ?_,λN _=>rk f237 ?_⟩<;>(rintro _ hw r hr C _ rfl hwf hf;simp only[f149,f52,f253,f306,f186,f190,f98,f71,f153,f103,f237,Option.get!,Qf7,QeV,Qgw,Qf8,Qeb,Qfq,Qdn,Qg5,QcU,QbR,Qgf]at hr⊢;repeat' first
 |(refine El.el hr ?_;clear hr;intro hr)
 |(with_reducible intro h;refine XJ hr h ?_;clear hr;intro hr)
 |with_reducible intro _
 |(refine Xp hr ?_;rintro rfl;have hr:=hk;clear hk)
 |simp only[go_sem,simprocAttr,E,XA,KC,Xk,ZJ,X2,JL,XbC]
 |(with_reducible first|apply Xj|apply Xi|apply Xw|apply Xs|apply Xt)
 |((first|with_reducible refine Yy hr ah ?_ ?_|(with_reducible refine Yr hr ?_ ?_;rotate_left;intro p;rotate_right));(·simp only[go_sem,simprocAttr]);intro hp hn hd hr;(try have XA:=hd _ e52;simp only[go_sem,simprocAttr]at XA);(try have KC:=hd _ e93;simp only[go_sem,simprocAttr]at KC);(try have Xk:=hd _ XX;simp only[go_sem,simprocAttr]at Xk);(try have ZJ:=hd _ Xab;simp only[go_sem,simprocAttr]at ZJ);(try have X2:=hd _ KB;simp only[go_sem,simprocAttr]at X2);(try have JL:=hd _ Xgi;simp only[go_sem,simprocAttr]at JL);(try have XbC:=hd _ Xi0;simp only[go_sem,simprocAttr]at XbC))
 |(refine Xx ?_ ?_;.first|assumption|omega)
 |(with_reducible refine lp (Qjw N _ _) hr N ?_ (λ_ p q=>⟨_,_,_,p,q,?_⟩) _;rintro n1 st ⟨_,_,_,hr,hk,⟨_,E⟩⟩<;>(obtain _|n1:=n1<;>rw[QdT]at hr))
 |refine⟨_,Wz _,_,_,_,hr,hk,?_⟩
 |(with_reducible refine lp (QiC N _ _) hr N ?_ (λ_ p q=>⟨_,_,_,p,q,?_⟩) _;rintro n1 st ⟨_,_,_,hr,hk,E⟩<;>(obtain _|n1:=n1<;>rw[Qdr]at hr))
 |(with_reducible refine lp (Qle N _ _) hr N ?_ (λ_ p q=>⟨_,_,p,q,?_⟩) _;rintro n1 st ⟨_,_,hr,hk,E⟩<;>(obtain _|n1:=n1<;>rw[QeX]at hr))
 |refine⟨_,Wz _,_,_,hr,hk,?_⟩
 |(with_reducible refine lp (Qjx N _) hr N ?_ (λ_ p q=>⟨_,_,_,p,q,?_⟩) _;rintro n1 st ⟨_,_,_,hr,hk,(⟨_,E⟩|⟨E,z0⟩)⟩<;>(try subst z0)<;>(obtain _|n1:=n1<;>rw[Qbw]at hr))
 |(with_reducible refine lp (Qjy N _ _ _ _ _) hr N ?_ (λ_ p q=>⟨_,_,_,p,q,?_⟩) _;rintro n1 st ⟨_,_,_,hr,hk,⟨_,_,_,_,_,E⟩⟩<;>(obtain _|n1:=n1<;>rw[Qbe]at hr))
 |(with_reducible refine lp (Qjz N _) hr N ?_ (λ_ p q=>⟨_,_,_,_,_,p,q,?_⟩) _;rintro n2 st ⟨_,_,_,_,_,hr,hk,⟨_,_,_,_,E⟩⟩<;>(obtain _|n2:=n2<;>rw[QaL]at hr))
 |refine⟨_,Wz _,_,_,_,_,_,hr,hk,?_⟩
 |(with_reducible refine lp (QjA N _ _) hr N ?_ (λ_ p q=>⟨_,_,p,q,?_⟩) _;rintro n1 st ⟨_,_,hr,hk,⟨_,E⟩⟩<;>(obtain _|n1:=n1<;>rw[QeD]at hr))
 |(with_reducible refine lp (Qhd N _) hr N ?_ (λ_ p q=>⟨_,_,_,p,q,?_⟩) _;rintro n1 st ⟨_,_,_,hr,hk,⟨_,E⟩⟩<;>(obtain _|n1:=n1<;>rw[Qa1]at hr))
 |(with_reducible refine lp (QjB N _) hr N ?_ (λ_ p q=>⟨_,_,_,p,q,?_⟩) _;rintro n1 st ⟨_,_,_,hr,hk,(⟨_,E⟩|⟨E,z0⟩)⟩<;>(try subst z0)<;>(obtain _|n1:=n1<;>rw[QeG]at hr))
 |(with_reducible refine lp (Qkx N _) hr N ?_ (λ_ p q=>⟨_,_,_,p,q,?_⟩) _;rintro n1 st ⟨_,_,_,hr,hk,E⟩<;>(obtain _|n1:=n1<;>rw[Qfg]at hr))
 |(with_reducible refine lp (QgD N _ _) hr N ?_ (λ_ p q=>⟨_,_,p,q,?_⟩) _;rintro n1 st ⟨_,_,hr,hk,E⟩<;>(obtain _|n1:=n1<;>rw[Qay]at hr))
 |(with_reducible refine lp (QjC N _) hr N ?_ (λ_ p q=>⟨_,_,_,p,q,?_⟩) _;rintro n1 st ⟨_,_,_,hr,hk,E⟩<;>(obtain _|n1:=n1<;>rw[Qdm]at hr))
 |refine dp ?_
 |(refine Xp hr ?_;rintro rfl;with_reducible refine XT ?_)
 |exact YH hr
 |((first|refine XJ (c:=true) hr rfl ?_|refine XJ (c:=false) hr rfl ?_|refine XJ hr ah ?_);intro hr))
abbrev Qme:=g5.1
abbrev Qlf:=g5.2.1
abbrev QnI:=g5.2.2.1
abbrev Qmf:=g5.2.2.2.1
abbrev Qmg:=g5.2.2.2.2.1
abbrev Qmh:=g5.2.2.2.2.2.1
abbrev Qhl:=g5.2.2.2.2.2.2.1
abbrev Qmi:=g5.2.2.2.2.2.2.2.1
abbrev Qm9:=g5.2.2.2.2.2.2.2.2.1
abbrev QgW:=g5.2.2.2.2.2.2.2.2.2.1
abbrev Qmj:=g5.2.2.2.2.2.2.2.2.2.2
attribute [instance] Qme Qlf QnI Qmf Qmg Qmh Qhl Qmi Qm9 QgW Qmj
abbrev QiD:=λN b Q n (st:St)=>∃c,Iv (QcP N b n c) Q ((∃a,st.n=39/\st.t 1=.ept 64 a 1 0 0/\st.t 3=vi c/\st.s 64=some (a,.arr true 35 1 [[s96 b.e]] 0)))
abbrev Qky:=λN a b Q n (st:St)=>∃c,Iv (Qfc N a b n c) Q ((st.n=18/\st.t 0=s52 a/\st.t 1=vu b/\st.t 5=vi c))
abbrev QjD:=λN b Q n (st:St)=>∃c,Iv (QcJ N b n c) Q ((∃a,st.n=15/\st.t 1=vi c/\st.t 2=.ept 128 a 6 0 0/\st.s 128=some (a,.arr true 28 6 [e28 b] 0)))
abbrev QiE:=λN b c Q n (st:St)=>∃d,Iv (QcR N b c n d) Q ((∃a,st.n=20/\st.t 1=vi c/\st.t 2=.ept 128 a 16 0 0/\st.t 5=vi d/\st.s 128=some (a,.arr true 266 16 [Jz b] 0)))
abbrev QjE:=λN e f g h Q n (st:St)=>∃i d,Iv (QdU N e f g h n i d) Q ((∃a b c,st.n=57/\st.s 1920=some (a,.arr false 122 4 (d.map XX) 0)/\st.t 1=vi e/\st.t 2=vi f/\st.t 8=.ept 512 b 4 0 0/\st.t 9=.ept 576 c 4 0 0/\st.t 12=.osl 1920 a 4 0 d.length/\st.t 13=vi i/\st.s 512=some (b,.arr true 122 4 [XX g] 0)/\st.s 576=some (c,.arr true 122 4 [XX h] 0)))
abbrev Qh7:=λN b c Q n (st:St)=>∃d,Iv (Qc8 N b c n d) Q ((∃a,st.n=21/\st.t 1=s52 c/\st.t 2=.ept 128 a 10 0 0/\st.t 5=vi d/\st.s 128=some (a,.arr true 42 10 [e42 b] 0)))
abbrev QiF:=λN a Q n (st:St)=>∃b c,Iv (QbD N a n b c) Q ((st.n=20/\st.t 0=Yz a/\st.t 3=vi b/\st.t 4=vi c))
abbrev Qg7:=λN b Q n (st:St)=>∃c d,Iv (Qa9 N b n c d) Q ((∃a,st.n=51/\st.t 1=.ept 64 a 3 0 0/\st.t 3=vi c/\st.t 8=Xcv b.l.S/\st.t 9=vi b.l.S.length/\st.t 10=vi d/\st.s 64=some (a,.arr true 179 3 [e32 b.l] 0)))
abbrev Qhx:=λN b Q n (st:St)=>∃d c,Iv (Qdg N b n d c) Q ((∃a,st.n=19/\st.s 1024=some (a,.arr false 52 1 (c.map e52) 0)/\st.t 3=.osl 1024 a 1 0 c.length/\st.t 6=Xlz b/\st.t 7=vi b.length/\st.t 8=vi d)\/((st.n=19/\st.t 3=.nsl/\st.t 6=Xlz b/\st.t 7=vi b.length/\st.t 8=vi d)/\c=[]))
abbrev QjF:=λN b Q n (st:St)=>∃c,Iv (QeH N b n c) Q ((∃a,st.n=19/\st.t 1=vi c/\st.t 2=.ept 128 a 6 0 0/\st.s 128=some (a,.arr true 28 6 [e28 b] 0)))
abbrev Qg8:=λN a b Q n (st:St)=>∃c,Iv (QbH N a b n c) Q ((st.n=19/\st.t 0=s3 a/\st.t 1=vi b/\st.t 7=vi a.length/\st.t 8=vi c))
abbrev Qkz:=λN b Q n (st:St)=>∃d c,Iv (QcF N b n d c) Q ((∃a,st.n=54/\st.s 1344=some (a,.arr false 359 2 (c.map Xi0) 0)/\st.t 3=.osl 1344 a 2 0 c.length/\st.t 7=Yz b/\st.t 8=vi b.length/\st.t 9=vi d)\/((st.n=54/\st.t 3=.nsl/\st.t 7=Yz b/\st.t 8=vi b.length/\st.t 9=vi d)/\c=[]))
def g4:(∀N(a0:WG),O1 (Qcc N a0) 30 [.agg (e35 a0)] (λr=>.v (.bool r)))/\(∀N(a0:List Int)(a1:Int),O1 (Qbs N a0 a1) 32 [s52 a0,vu a1] (λr=>.v (.bool r)))/\(∀N(a0:Wh)(a1:Int),O1 (QeL N a0 a1) 308 [.agg (e28 a0),vi a1] (λr=>vi r))/\(∀N(a0:Wu)(a1:Int),O1 (Qgk N a0 a1) 288 [.agg (Jz a0),vi a1] (λr=>.v (.bool r)))/\(∀N(a0:List Wr)(a1:Int)(a2:Int)(a3:Wr)(a4:Wr),O1 (QdE N a0 a1 a2 a3 a4) 307 [Yz a0,vi a1,vi a2,.agg (XX a3),.agg (XX a4)] (λr=>.tup [.fsl 122 4 (r.1.map XX),vi r.2]))/\(∀N(a0:WQ)(a1:List Int),O1 (Qc9 N a0 a1) 188 [.agg (e42 a0),s52 a1] (λr=>.v (.bool r)))/\(∀N(a0:List Wr),O1 (QcZ N a0) 302 [Yz a0] (λr=>vi r))/\(∀N(a0:IM),O1 (Qdb N a0) 99 [.agg (Xor a0)] (λr=>.v (.bool r)))/\(∀N(a0:List UV),O1 (Qcj N a0) 174 [Xlz a0] (λr=>s52 r))/\(∀N(a0:Wh)(a1:Int),O1 (QgN N a0 a1) 295 [.agg (e28 a0),vi a1] (λr=>vi r))/\(∀N(a0:List Int)(a1:Int),O1 (Qee N a0 a1) 292 [s3 a0,vi a1] (λr=>vi r))/\(∀N(a0:List Wr),O1 (Qg4 N a0) 278 [Yz a0] (λr=>Xow r)):=by
 refine⟨λN _=>rk f30 ?_,λN _ _=>rk f32 ?_,λN _ _=>rk f308 ?_,λN _ _=>rk f288 ?_,λN _ _ _ _ _=>rq f307 [1920] ?_,λN _ _=>rk f188 ?_,λN _=>rk f302 ?_,λN _=>rk f99 ?_,λN _=>rk f174 ?_,λN _ _=>rk f295 ?_,λN _ _=>rk f292 ?_,λN _=>rk f278 ?_⟩<;>(rintro _ hw r hr C _ rfl hwf hf;simp only[f30,f32,f308,f288,f307,f188,f302,f99,f174,f295,f292,f278,Option.get!,Qcc,Qbs,QeL,Qgk,QdE,Qc9,QcZ,Qdb,Qcj,QgN,Qee,Qg4]at hr⊢;repeat' first
 |(refine El.el hr ?_;clear hr;intro hr)
 |(with_reducible intro h;refine XJ hr h ?_;clear hr;intro hr)
 |with_reducible intro _
 |(refine Xp hr ?_;rintro rfl;have hr:=hk;clear hk)
 |simp only[go_sem,simprocAttr,XuP,E,hl3,XA,Zk,Xk,X2,XbB,XbC]
 |(with_reducible first|apply Xj|apply Xi|apply Xw|apply Xs|apply Xt)
 |((first|with_reducible refine Yy hr ah ?_ ?_|(with_reducible refine Yr hr ?_ ?_;rotate_left;intro p;rotate_right));(·simp only[go_sem,simprocAttr]);intro hp hn hd hr;(try have hl3:=hd _ e3;simp only[go_sem,simprocAttr]at hl3);(try have XA:=hd _ e52;simp only[go_sem,simprocAttr]at XA);(try have Zk:=hd _ e96;simp only[go_sem,simprocAttr]at Zk);(try have Xk:=hd _ XX;simp only[go_sem,simprocAttr]at Xk);(try have X2:=hd _ KB;simp only[go_sem,simprocAttr]at X2);(try have XbB:=hd _ Xac;simp only[go_sem,simprocAttr]at XbB);(try have XbC:=hd _ Xi0;simp only[go_sem,simprocAttr]at XbC))
 |(refine Xx ?_ ?_;.first|assumption|omega)
 |(with_reducible refine lp (QiD N _) hr N ?_ (λ_ p q=>⟨_,_,p,q,?_⟩) _;rintro n1 st ⟨_,_,hr,hk,⟨_,E⟩⟩<;>(obtain _|n1:=n1<;>rw[QcP]at hr))
 |refine⟨_,Wz _,_,_,hr,hk,?_⟩
 |(with_reducible refine lp (Qky N _ _) hr N ?_ (λ_ p q=>⟨_,_,p,q,?_⟩) _;rintro n1 st ⟨_,_,hr,hk,E⟩<;>(obtain _|n1:=n1<;>rw[Qfc]at hr))
 |(with_reducible refine lp (QjD N _) hr N ?_ (λ_ p q=>⟨_,_,p,q,?_⟩) _;rintro n1 st ⟨_,_,hr,hk,⟨_,E⟩⟩<;>(obtain _|n1:=n1<;>rw[QcJ]at hr))
 |(with_reducible refine lp (QiE N _ _) hr N ?_ (λ_ p q=>⟨_,_,p,q,?_⟩) _;rintro n1 st ⟨_,_,hr,hk,⟨_,E⟩⟩<;>(obtain _|n1:=n1<;>rw[QcR]at hr))
 |(with_reducible refine lp (QjE N _ _ _ _) hr N ?_ (λ_ p q=>⟨_,_,_,p,q,?_⟩) _;rintro n1 st ⟨_,_,_,hr,hk,⟨_,_,_,E⟩⟩<;>(obtain _|n1:=n1<;>rw[QdU]at hr))
 |refine⟨_,Wz _,_,_,_,hr,hk,?_⟩
 |(with_reducible refine lp (Qh7 N _ _) hr N ?_ (λ_ p q=>⟨_,_,p,q,?_⟩) _;rintro n1 st ⟨_,_,hr,hk,⟨_,E⟩⟩<;>(obtain _|n1:=n1<;>rw[Qc8]at hr))
 |(with_reducible refine lp (QiF N _) hr N ?_ (λ_ p q=>⟨_,_,_,p,q,?_⟩) _;rintro n1 st ⟨_,_,_,hr,hk,E⟩<;>(obtain _|n1:=n1<;>rw[QbD]at hr))
 |(with_reducible refine lp (Qg7 N _) hr N ?_ (λ_ p q=>⟨_,_,_,p,q,?_⟩) _;rintro n1 st ⟨_,_,_,hr,hk,⟨_,E⟩⟩<;>(obtain _|n1:=n1<;>rw[Qa9]at hr))
 |(with_reducible refine lp (Qhx N _) hr N ?_ (λ_ p q=>⟨_,_,_,p,q,?_⟩) _;rintro n1 st ⟨_,_,_,hr,hk,(⟨_,E⟩|⟨E,z0⟩)⟩<;>(try subst z0)<;>(obtain _|n1:=n1<;>rw[Qdg]at hr))
 |(with_reducible refine lp (QjF N _) hr N ?_ (λ_ p q=>⟨_,_,p,q,?_⟩) _;rintro n1 st ⟨_,_,hr,hk,⟨_,E⟩⟩<;>(obtain _|n1:=n1<;>rw[QeH]at hr))
 |(with_reducible refine lp (Qg8 N _ _) hr N ?_ (λ_ p q=>⟨_,_,p,q,?_⟩) _;rintro n1 st ⟨_,_,hr,hk,E⟩<;>(obtain _|n1:=n1<;>rw[QbH]at hr))
 |(with_reducible refine lp (Qkz N _) hr N ?_ (λ_ p q=>⟨_,_,_,p,q,?_⟩) _;rintro n1 st ⟨_,_,_,hr,hk,(⟨_,E⟩|⟨E,z0⟩)⟩<;>(try subst z0)<;>(obtain _|n1:=n1<;>rw[QcF]at hr))
 |refine dp ?_
 |(refine Xp hr ?_;rintro rfl;with_reducible refine XT ?_)
 |exact YH hr
 |((first|refine XJ (c:=true) hr rfl ?_|refine XJ (c:=false) hr rfl ?_|refine XJ hr ah ?_);intro hr))
abbrev Qlg:=g4.1
abbrev Qna:=g4.2.1
abbrev Qmk:=g4.2.2.1
abbrev Qlh:=g4.2.2.2.1
abbrev Qml:=g4.2.2.2.2.1
abbrev QkA:=g4.2.2.2.2.2.1
abbrev Qli:=g4.2.2.2.2.2.2.1
abbrev Qhi:=g4.2.2.2.2.2.2.2.1
abbrev QiG:=g4.2.2.2.2.2.2.2.2.1
abbrev Qmm:=g4.2.2.2.2.2.2.2.2.2.1
abbrev Qhj:=g4.2.2.2.2.2.2.2.2.2.2.1
abbrev Qnb:=g4.2.2.2.2.2.2.2.2.2.2.2
attribute [instance] Qlg Qna Qmk Qlh Qml QkA Qli Qhi QiG Qmm Qhj Qnb
def g2:(∀N(a0:WR),O1 (QaQ N a0) 39 [.agg (e24 a0)] (λr=>.v (.bool r)))/\(∀N(a0:Int),O1 (QgG N a0) 51 [vi a0] (λr=>.v (.bool r)))/\(∀N(a0:Wh)(a1:Int)(a2:Int),O1 (Qfy N a0 a1 a2) 311 [.agg (e28 a0),vi a1,vi a2] (λr=>vu r))/\(∀N(a0:Int),O1 (QcM N a0) 286 [vu a0] (λr=>.tup [vu r.1,vi r.2]))/\(∀N(a0:Iu),O1 (QgX N a0) 263 [.agg (XqI a0)] (λr=>.v (.bool r)))/\(∀N(a0:Um)(a1:Um)(a2:Int)(a3:Int)(a4:Int),O1 (QeE N a0 a1 a2 a3 a4) 59 [.agg (e38 a0),.agg (e38 a1),vi a2,vu a3,vi a4] (λr=>.agg (Xsf r)))/\(∀N(a0:IM)(a1:Int),O1 (QdM N a0 a1) 171 [.agg (Xor a0),vi a1] (λr=>Xcv r))/\(∀N(a0:WR),O1 (QbY N a0) 151 [.agg (e24 a0)] (λr=>.v (.bool r)))/\(∀N(a0:Wr),O1 (Qdf N a0) 277 [.agg (XhX a0)] (λr=>.v (.bool r)))/\(∀N(a0:Int),O1 (QgO N a0) 296 [vu a0] (λr=>.v (.bool r)))/\(∀N(a0:Int),O1 (Qdo N a0) 179 [vu a0] (λr=>.v (.bool r)))/\(∀N a0 a1,OK (QdS N a0 a1) 26 [vi a0,.ept 1000000 0 1 0 0] [.arr true 25 1 [[s52 a1]] 0] (λr=>s52 r.1) λr=>[.arr true 25 1 [[s52 r.2]] 0]):=by
 refine⟨λN _=>rk f39 ?_,λN _=>rk f51 ?_,λN _ _ _=>rk f311 ?_,λN _=>rk f286 ?_,λN _=>rk f263 ?_,λN _ _ _ _ _=>rk f59 ?_,λN _ _=>rk f171 ?_,λN _=>rk f151 ?_,λN _=>rk f277 ?_,λN _=>rk f296 ?_,λN _=>rk f179 ?_,λN _ _=>rk f26 ?_⟩<;>(rintro _ hw r hr C _ rfl hwf hf;simp only[f39,f51,f311,f286,f263,f59,f171,f151,f277,f296,f179,f26,Option.get!,QaQ,QgG,Qfy,QcM,QgX,QeE,QdM,QbY,Qdf,QgO,Qdo,QdS]at hr⊢;repeat' first
 |(refine El.el hr ?_;clear hr;intro hr)
 |(with_reducible intro h;refine XJ hr h ?_;clear hr;intro hr)
 |with_reducible intro _
 |simp only[go_sem,simprocAttr,ZJ,Wl,Wo,WD]
 |(with_reducible first|apply Xj|apply Xi|apply Xw|apply Xs|apply Xt)
 |((first|with_reducible refine Yy hr ah ?_ ?_|(with_reducible refine Yr hr ?_ ?_;rotate_left;intro p;rotate_right));(·simp only[go_sem,simprocAttr,Wl,Wo,WD]);intro hp hn hd hr;(try have ZJ:=hd _ Xab;simp only[go_sem,simprocAttr]at ZJ))
 |(refine Xx ?_ ?_;.first|assumption|omega)
 |refine dp ?_
 |(refine Xp hr ?_;rintro rfl;with_reducible refine XT ?_)
 |exact YH hr)
abbrev Qh8:=g2.1
abbrev Qmn:=g2.2.1
abbrev QjG:=g2.2.2.1
abbrev QjH:=g2.2.2.2.1
abbrev Qlj:=g2.2.2.2.2.1
abbrev QjI:=g2.2.2.2.2.2.1
abbrev Qhq:=g2.2.2.2.2.2.2.1
abbrev QiH:=g2.2.2.2.2.2.2.2.1
abbrev Qhy:=g2.2.2.2.2.2.2.2.2.1
abbrev QkB:=g2.2.2.2.2.2.2.2.2.2.1
abbrev Qhm:=g2.2.2.2.2.2.2.2.2.2.2.1
abbrev Qh9:=g2.2.2.2.2.2.2.2.2.2.2.2
attribute [instance] Qh8 Qmn QjG QjH Qlj QjI Qhq QiH Qhy QkB Qhm Qh9
def g1:(∀N a0 a1,OK (Qaj N a0 a1) 36 [.ept 1000000 0 2 0 0,vi a1] [.arr true 62 2 [[s3 a0.L,vi a0.at_]] 0] (λr=>vi r.1) λr=>[.arr true 62 2 [[s3 r.2.L,vi r.2.at_]] 0])/\(∀N(a0:Ws)(a1:Int),O1 (Qhb N a0 a1) 150 [.agg (e32 a0),vi a1] (λr=>vi r))/\(∀N(a0:Wx),O1 (QcW N a0) 93 [.agg (e59 a0)] (λr=>.v (.bool r)))/\(∀N(a0:Wu)(a1:Int),O1 (QcL N a0 a1) 283 [.agg (Jz a0),vu a1] (λr=>.agg (Jz r)))/\(∀N(a0:Int)(a1:Int)(a2:Int),O1 (QcA N a0 a1 a2) 125 [vi a0,vu a1,vu a2] (λr=>.tup [.agg (e59 r.1),.v (.bool r.2)]))/\(∀N(a0:Ws)(a1:Int),O1 (QgA N a0 a1) 218 [.agg (e32 a0),vi a1] (λr=>.agg (e32 r)))/\(∀N(a0:W8),O1 (QfD N a0) 102 [.agg (e96 a0)] (λr=>.v (.bool r)))/\(∀N(a1:Int),O1 (Qbr N a1) 134 [.nsl,vi a1] (λr=>.fsl 52 1 (r.map e52)))/\(∀N(a0:Wr),O1 (Qb3 N a0) 240 [.agg (XhX a0)] (λr=>.v (.bool r)))/\(∀N(a0:List Int)(a1:Int)(a2:Int),O1 (Qe2 N a0 a1 a2) 243 [s52 a0,vu a1,vi a2] (λr=>.tup [vi r.1,.v (.bool r.2)]))/\(∀N(a0:Int),O1 (Qev N a0) 251 [vu a0] (λr=>.v (.bool r)))/\(∀N(a0:Int),O1 (Qam N a0) 65 [vi a0] (λr=>.tup [])):=by
 refine⟨λN _ _=>rk f36 ?_,λN _ _=>rk f150 ?_,λN _=>rk f93 ?_,λN _ _=>rk f283 ?_,λN _ _ _=>rk f125 ?_,λN _ _=>rk f218 ?_,λN _=>rk f102 ?_,λN _=>rq f134 [1408] ?_,λN _=>rk f240 ?_,λN _ _ _=>rk f243 ?_,λN _=>rk f251 ?_,λN _=>rk f65 ?_⟩<;>(rintro _ hw r hr C _ rfl hwf hf;simp only[f36,f150,f93,f283,f125,f218,f102,f134,f240,f243,f251,f65,Option.get!,Qaj,Qhb,QcW,QcL,QcA,QgA,QfD,Qbr,Qb3,Qe2,Qev,Qam]at hr⊢;repeat' first
 |(refine El.el hr ?_;clear hr;intro hr)
 |(with_reducible intro h;refine XJ hr h ?_;clear hr;intro hr)
 |with_reducible intro _
 |simp only[go_sem,simprocAttr,hl3,ZJ,Wl,Wo,WD]
 |(with_reducible first|apply Xj|apply Xi|apply Xw|apply Xs|apply Xt)
 |((first|with_reducible refine Yy hr ah ?_ ?_|(with_reducible refine Yr hr ?_ ?_;rotate_left;intro p;rotate_right));(·simp only[go_sem,simprocAttr,Wl,Wo,WD]);intro hp hn hd hr;(try have hl3:=hd _ e3;simp only[go_sem,simprocAttr]at hl3);(try have ZJ:=hd _ Xab;simp only[go_sem,simprocAttr]at ZJ))
 |(refine Xx ?_ ?_;.first|assumption|omega)
 |refine dq 218 1 hf [(0,[320],[]),(1,[],[320]),(2,[],[320]),(3,[],[320]),(4,[],[320]),(5,[],[320]),(6,[],[320]),(7,[],[320]),(8,[],[320]),(9,[],[320]),(10,[320],[]),(12,[128],[])] ?_
 |refine dp ?_
 |(refine Xp hr ?_;rintro rfl;with_reducible refine XT ?_)
 |exact YH hr)
abbrev QiI:=g1.1
abbrev QnJ:=g1.2.1
abbrev Qlk:=g1.2.2.1
abbrev Qmo:=g1.2.2.2.1
abbrev Qll:=g1.2.2.2.2.1
abbrev Qnc:=g1.2.2.2.2.2.1
abbrev QjJ:=g1.2.2.2.2.2.2.1
abbrev QgE:=g1.2.2.2.2.2.2.2.1
abbrev Qhz:=g1.2.2.2.2.2.2.2.2.1
abbrev Qlm:=g1.2.2.2.2.2.2.2.2.2.1
abbrev QhP:=g1.2.2.2.2.2.2.2.2.2.2.1
abbrev QkC:=g1.2.2.2.2.2.2.2.2.2.2.2
attribute [instance] QiI QnJ Qlk Qmo Qll Qnc QjJ QgE Qhz Qlm QhP QkC
def g3:(∀N a0,OK (Qf6 N a0) 19 [.ept 1000000 0 2 0 0] [.arr true 62 2 [[s3 a0.L,vi a0.at_]] 0] (λr=>.v (.bool r)) λr=>[.arr true 62 2 [[s3 a0.L,vi a0.at_]] 0])/\(∀N(a0:List Int)(a1:Int)(a2:Int),O1 (QdC N a0 a1 a2) 166 [s52 a0,vu a1,vi a2] (λr=>.tup [vi r.1,.v (.bool r.2)]))/\(∀N(a0:Int),O1 (Qcx N a0) 257 [vu a0] (λr=>.tup [vu r.1,.v (.bool r.2)]))/\(∀N(a0:Int),O1 (Qab N a0) 115 [vi a0] (λr=>.tup [.agg (e38 r.1),vu r.2.1,vi r.2.2]))/\(∀N(a0:WG)(a1:Int)(a2:W8),O1 (Qgz N a0 a1 a2) 264 [.agg (e35 a0),vi a1,.agg (e96 a2)] (λr=>.agg (e35 r)))/\(∀N(a0:WQ)(a1:Int)(a2:Int)(a3:Int),O1 (Qfm N a0 a1 a2 a3) 127 [.agg (e42 a0),vu a1,vi a2,vu a3] (λr=>.agg (e42 r)))/\(∀N(a0:Int),O1 (QfE N a0) 97 [vi a0] (λr=>.v (.bool r)))/\(∀N(a0:Wr)(a1:WR),O1 (QfS N a0 a1) 233 [.agg (XhX a0),.agg (e24 a1)] (λr=>.v (.bool r)))/\(∀N(a0:Wr)(a1:Wr),O1 (Qe9 N a0 a1) 236 [.agg (XhX a0),.agg (XhX a1)] (λr=>.v (.bool r)))/\(∀N(a0:UV),O1 (Qep N a0) 176 [.agg (Xac a0)] (λr=>.v (.bool r)))/\(∀N a0 a1,OK (Qfa N a0 a1) 249 [.agg (e93 a0),.ept 1000000 0 1 0 0] [.arr true 52 1 [[vu a1]] 0] (λr=>.v (.bool r)) λr=>[.arr true 52 1 [[vu a1]] 0])/\(∀N(a0:Int),O1 (QhL N a0) 152 [vi a0] (λr=>.tup [s52 r.1,vi r.2])):=by
 refine⟨λN _=>rk f19 ?_,λN _ _ _=>rk f166 ?_,λN _=>rk f257 ?_,λN _=>rk f115 ?_,λN _ _ _=>rk f264 ?_,λN _ _ _ _=>rk f127 ?_,λN _=>rk f97 ?_,λN _ _=>rk f233 ?_,λN _ _=>rk f236 ?_,λN _=>rk f176 ?_,λN _ _=>rk f249 ?_,λN _=>rk f152 ?_⟩<;>(rintro _ hw r hr C _ rfl hwf hf;simp only[f19,f166,f257,f115,f264,f127,f97,f233,f236,f176,f249,f152,Option.get!,Qf6,QdC,Qcx,Qab,Qgz,Qfm,QfE,QfS,Qe9,Qep,Qfa,QhL]at hr⊢;repeat' first
 |(refine El.el hr ?_;clear hr;intro hr)
 |(with_reducible intro h;refine XJ hr h ?_;clear hr;intro hr)
 |with_reducible intro _
 |simp only[go_sem,simprocAttr,XA,Zk,KO]
 |(with_reducible first|apply Xj|apply Xi|apply Xw|apply Xs|apply Xt)
 |((first|with_reducible refine Yy hr ah ?_ ?_|(with_reducible refine Yr hr ?_ ?_;rotate_left;intro p;rotate_right));(·simp only[go_sem,simprocAttr]);intro hp hn hd hr;(try have XA:=hd _ e52;simp only[go_sem,simprocAttr]at XA);(try have Zk:=hd _ e96;simp only[go_sem,simprocAttr]at Zk);(try have KO:=hd _ Xb6;simp only[go_sem,simprocAttr]at KO))
 |(refine Xx ?_ ?_;.first|assumption|omega)
 |refine dp ?_
 |(refine Xp hr ?_;rintro rfl;with_reducible refine XT ?_)
 |exact YH hr)
abbrev QiJ:=g3.1
abbrev Qmp:=g3.2.1
abbrev QkD:=g3.2.2.1
abbrev QkE:=g3.2.2.2.1
abbrev Qnd:=g3.2.2.2.2.1
abbrev Qne:=g3.2.2.2.2.2.1
abbrev QjK:=g3.2.2.2.2.2.2.1
abbrev Qia:=g3.2.2.2.2.2.2.2.1
abbrev QhA:=g3.2.2.2.2.2.2.2.2.1
abbrev QiK:=g3.2.2.2.2.2.2.2.2.2.1
abbrev QhB:=g3.2.2.2.2.2.2.2.2.2.2.1
abbrev Qnf:=g3.2.2.2.2.2.2.2.2.2.2.2
attribute [instance] QiJ Qmp QkD QkE Qnd Qne QjK Qia QhA QiK QhB Qnf
instance QiL:∀N(a0:List Wr),OK (Qad N a0) 133 [.isl 122 4 (a0.map XX)] [] (λr=>.fsl 122 4 (r.map XX)) λr=>[]:=by
 refineλN a0=>⟨λG hw r hr=>?_⟩
 rw[Qad]at hr;obtain rfl:=WE hr;obtain _|⟨x,l⟩:=a0;refine Zi λa cap=>?_;obtain _|a:=a
 all_goals
  refine Yq (fn:=f133) (body:=(f133.body).get!) (rs:=[.tmp 2]) 1000 [320] 8 ae ae ae ae ae ac λC _ hG hwf=>?_;subst hG;have hw2:=hwf;simp only[WfL,Wf,Ug,and_true,Uu,XhU,XC]at hw2;simp only[f133,Option.get!]
  simp only[go_sem,simprocAttr]
  try refine⟨ab,?_⟩
  with_reducible refine XT ?_
  simp only[go_sem,simprocAttr]
instance QkF:∀N(a0:List Int),OK (Qac N a0) 76 [.isl 52 1 (a0.map e52)] [] (λr=>.fsl 52 1 (r.map e52)) λr=>[]:=by
 refineλN a0=>⟨λG hw r hr=>?_⟩
 rw[Qac]at hr;obtain rfl:=WE hr;obtain _|⟨x,l⟩:=a0;refine Zi λa cap=>?_;obtain _|a:=a
 all_goals
  refine Yq (fn:=f76) (body:=(f76.body).get!) (rs:=[.tmp 2]) 1000 [320] 8 ae ae ae ae ae ac λC _ hG hwf=>?_;subst hG;have hw2:=hwf;simp only[WfL,Wf,Ug,and_true,Uu,Xki,XC]at hw2;simp only[f76,Option.get!]
  simp only[go_sem,simprocAttr]
  try refine⟨ab,?_⟩
  with_reducible refine XT ?_
  simp only[go_sem,simprocAttr]
instance Qib:∀N(a0:List W8),OK (QaK N a0) 147 [.isl 96 3 (a0.map e96)] [] (λr=>.fsl 96 3 (r.map e96)) λr=>[]:=by
 refineλN a0=>⟨λG hw r hr=>?_⟩
 rw[QaK]at hr;obtain rfl:=WE hr;obtain _|⟨x,l⟩:=a0;refine Zi λa cap=>?_;obtain _|a:=a
 all_goals
  refine Yq (fn:=f147) (body:=(f147.body).get!) (rs:=[.tmp 2]) 1000 [320] 8 ae ae ae ae ae ac λC _ hG hwf=>?_;subst hG;have hw2:=hwf;simp only[WfL,Wf,Ug,and_true,Uu,Xkk,XC]at hw2;simp only[f147,Option.get!]
  simp only[go_sem,simprocAttr]
  try refine⟨ab,?_⟩
  with_reducible refine XT ?_
  simp only[go_sem,simprocAttr]
instance Qic:∀N(a0:List UU),OK (QaJ N a0) 145 [.isl 129 3 (a0.map Xab)] [] (λr=>.fsl 129 3 (r.map Xab)) λr=>[]:=by
 refineλN a0=>⟨λG hw r hr=>?_⟩
 rw[QaJ]at hr;obtain rfl:=WE hr;obtain _|⟨x,l⟩:=a0;refine Zi λa cap=>?_;obtain _|a:=a
 all_goals
  refine Yq (fn:=f145) (body:=(f145.body).get!) (rs:=[.tmp 2]) 1000 [320] 8 ae ae ae ae ae ac λC _ hG hwf=>?_;subst hG;have hw2:=hwf;simp only[WfL,Wf,Ug,and_true,Uu,XhV,XC]at hw2;simp only[f145,Option.get!]
  simp only[go_sem,simprocAttr]
  try refine⟨ab,?_⟩
  with_reducible refine XT ?_
  simp only[go_sem,simprocAttr]
instance Qng:∀N(a0:List Int),OK (QaN N a0) 146 [.isl 3 1 (a0.map e3)] [] (λr=>.fsl 3 1 (r.map e3)) λr=>[]:=by
 refineλN a0=>⟨λG hw r hr=>?_⟩
 rw[QaN]at hr;obtain rfl:=WE hr;obtain _|⟨x,l⟩:=a0;refine Zi λa cap=>?_;obtain _|a:=a
 all_goals
  refine Yq (fn:=f146) (body:=(f146.body).get!) (rs:=[.tmp 2]) 1000 [320] 8 ae ae ae ae ae ac λC _ hG hwf=>?_;subst hG;have hw2:=hwf;simp only[WfL,Wf,Ug,and_true,Uu,XiZ,XC]at hw2;simp only[f146,Option.get!]
  simp only[go_sem,simprocAttr]
  try refine⟨ab,?_⟩
  with_reducible refine XT ?_
  simp only[go_sem,simprocAttr]
instance QiM:∀N(a0:List UI),OK (QaW N a0) 144 [.isl 158 3 (a0.map KB)] [] (λr=>.fsl 158 3 (r.map KB)) λr=>[]:=by
 refineλN a0=>⟨λG hw r hr=>?_⟩
 rw[QaW]at hr;obtain rfl:=WE hr;obtain _|⟨x,l⟩:=a0;refine Zi λa cap=>?_;obtain _|a:=a
 all_goals
  refine Yq (fn:=f144) (body:=(f144.body).get!) (rs:=[.tmp 2]) 1000 [320] 8 ae ae ae ae ae ac λC _ hG hwf=>?_;subst hG;have hw2:=hwf;simp only[WfL,Wf,Ug,and_true,Uu,XhW,XC]at hw2;simp only[f144,Option.get!]
  simp only[go_sem,simprocAttr]
  try refine⟨ab,?_⟩
  with_reducible refine XT ?_
  simp only[go_sem,simprocAttr]
instance QjL:∀N(a0:List UE),OK (Qcn N a0) 75 [.isl 93 2 (a0.map e93)] [] (λr=>.fsl 93 2 (r.map e93)) λr=>[]:=by
 refineλN a0=>⟨λG hw r hr=>?_⟩
 rw[Qcn]at hr;obtain rfl:=WE hr;obtain _|⟨x,l⟩:=a0;refine Zi λa cap=>?_;obtain _|a:=a
 all_goals
  refine Yq (fn:=f75) (body:=(f75.body).get!) (rs:=[.tmp 2]) 1000 [320] 8 ae ae ae ae ae ac λC _ hG hwf=>?_;subst hG;have hw2:=hwf;simp only[WfL,Wf,Ug,and_true,Uu,Xkj,XC]at hw2;simp only[f75,Option.get!]
  simp only[go_sem,simprocAttr]
  try refine⟨ab,?_⟩
  with_reducible refine XT ?_
  simp only[go_sem,simprocAttr]
end Go.Sx
