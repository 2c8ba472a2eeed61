import Derived.Test.YtcclgbgphjofaaaGreatHF
set_option linter.all false
namespace Go.Sx
open Go.Proofs
set_option maxRecDepth 10000
set_option maxHeartbeats 100000000
abbrev Qj9:=λN b c (Q:Int→Prop) n (st:St)=>∃d e f,QdU N b c n d e=some f/\Q f/\((∃a,st.n=24/\st.t 2=vi c/\st.t 3=.ept 192 a 3 0 0/\st.t 7=vi d/\st.t 8=vi e/\st.s 192=some (a,.arr true 32 3 [e32 b] 0)))
abbrev Qk9:=λN a b (Q:(Ex Bool Unit)→Prop) n (st:St)=>∃c d,Qe5 N a b n c=some d/\Q d/\((st.n=18/\st.t 0=s55 a/\st.t 1=vu b/\st.t 5=vi c))
abbrev Qka:=λN b (Q:Int→Prop) n (st:St)=>∃c d,QcB N b n c=some d/\Q d/\((∃a,st.n=15/\st.t 1=vi c/\st.t 2=.ept 128 a 6 0 0/\st.s 128=some (a,.arr true 28 6 [e28 b] 0)))
abbrev Qjg:=λN b c (Q:(Ex Bool Unit)→Prop) n (st:St)=>∃d e,QcM N b c n d=some e/\Q e/\((∃a,st.n=20/\st.t 1=vi c/\st.t 2=.ept 128 a 16 0 0/\st.t 5=vi d/\st.s 128=some (a,.arr true 204 16 [JH b] 0)))
abbrev Qkb:=λN e f g h (Q:(Ex (List WJ × Int) (List WJ))→Prop) n (st:St)=>∃i d j,QdV N e f g h n i d=some j/\Q j/\((∃a b c,st.n=57/\st.s 1920=some (a,.arr false 144 4 (d.map Y8) 0)/\st.t 1=vi e/\st.t 2=vi f/\st.t 8=.ept 512 b 4 0 0/\st.t 9=.ept 576 c 4 0 0/\st.t 12=.osl 1920 a 4 0 d.length/\st.t 13=vi i/\st.s 512=some (b,.arr true 144 4 [Y8 g] 0)/\st.s 576=some (c,.arr true 144 4 [Y8 h] 0)))
abbrev QiL:=λN b c (Q:(Ex Bool Unit)→Prop) n (st:St)=>∃d e,Qc0 N b c n d=some e/\Q e/\((∃a,st.n=21/\st.t 1=s55 c/\st.t 2=.ept 128 a 10 0 0/\st.t 5=vi d/\st.s 128=some (a,.arr true 42 10 [e42 b] 0)))
abbrev Qjh:=λN a (Q:Int→Prop) n (st:St)=>∃b c d,Qek N a n b c=some d/\Q d/\((st.n=20/\st.t 0=ZH a/\st.t 3=vi b/\st.t 4=vi c))
abbrev Qla:=λN a (Q:Int→Prop) n (st:St)=>∃b c d,Qfa N a n b c=some d/\Q d/\((st.n=14/\st.t 3=vu b/\st.t 6=vi (if 64 < (if a < 0 then 0 else a)then 64 else(if a < 0 then 0 else a))/\st.t 7=vi c))
abbrev Qhy:=λN b (Q:(Ex Bool Unit)→Prop) n (st:St)=>∃c d e,Qa0 N b n c d=some e/\Q e/\((∃a,st.n=74/\st.t 1=.ept 64 a 3 0 0/\st.t 3=vi c/\st.t 27=Y9 b.l.x/\st.t 28=vi b.l.x.length/\st.t 29=vi d/\st.s 64=some (a,.arr true 179 3 [e32 b.l] 0)))
abbrev QgC:=λN a b (Q:(Ex Int Unit)→Prop) n (st:St)=>∃c d,QaX N a b n c=some d/\Q d/\((st.n=19/\st.t 0=s55 a/\st.t 1=vu b/\st.t 7=vi a.length/\st.t 8=vi c))
abbrev QfP:=λN a b (Q:(Ex Bool Unit)→Prop) n (st:St)=>∃c d,Qat N a b n c=some d/\Q d/\((st.n=26/\st.t 0=Y9 a/\st.t 1=Y9 b/\st.t 12=vi a.length/\st.t 13=vi c))
abbrev Qhz:=λN a (Q:(List UO)→Prop) n (st:St)=>∃k j m,QbW N a n k j=some m/\Q m/\((∃f h b d,st.n=74/\st.s 2560=some (f,.arr false 87 4 (j.map e87) 0)/\st.t 1=.ept 64 h 10 0 0/\st.t 2=.ept 128 b 10 0 0/\st.t 3=.ept 192 d 10 0 0/\st.t 4=vi k/\st.s 64=some (h,.arr true 42 10 [e42 a] 0)/\st.s 128=some (b,.arr true 52 10 [[vi 0,vi 0,.nsl,.nsl,.nsl,.nsl,.nsl,.nsl,.nsl,.nsl]] 0)/\st.s 192=some (d,.arr true 52 10 [[vi a.c.W,vi a.c.p,.osl 2560 f 4 0 j.length,Zd a.l.S,Y9 a.l.x,s3 a.l.i,XT a.g.e,XT a.v.e,.nsl,s55 a.R]] 0))\/(∃h b d,(st.n=74/\st.t 1=.ept 64 h 10 0 0/\st.t 2=.ept 128 b 10 0 0/\st.t 3=.ept 192 d 10 0 0/\st.t 4=vi k/\st.s 64=some (h,.arr true 42 10 [e42 a] 0)/\st.s 128=some (b,.arr true 52 10 [[vi 0,vi 0,.nsl,.nsl,.nsl,.nsl,.nsl,.nsl,.nsl,.nsl]] 0)/\st.s 192=some (d,.arr true 52 10 [[vi a.c.W,vi a.c.p,.nsl,Zd a.l.S,Y9 a.l.x,s3 a.l.i,XT a.g.e,XT a.v.e,.nsl,s55 a.R]] 0))/\j=[]))
abbrev QhA:=λN a k (Q:(List U5)→Prop) n (st:St)=>∃o m q,QbX N a k n o m=some q/\Q q/\((∃f h j b d,st.n=74/\st.s 2560=some (f,.arr false 87 4 (k.map e87) 0)/\st.s 4544=some (h,.arr false 90 3 (m.map e90) 0)/\st.t 1=.ept 64 j 10 0 0/\st.t 2=.ept 128 b 10 0 0/\st.t 3=.ept 192 d 10 0 0/\st.t 5=vi o/\st.s 64=some (j,.arr true 42 10 [e42 a] 0)/\st.s 128=some (b,.arr true 52 10 [[vi 0,vi 0,.nsl,.nsl,.nsl,.nsl,.nsl,.nsl,.nsl,.nsl]] 0)/\st.s 192=some (d,.arr true 52 10 [[vi a.c.W,vi a.c.p,.osl 2560 f 4 0 k.length,Zd a.l.S,Y9 a.l.x,s3 a.l.i,XT a.g.e,XT a.v.e,.osl 4544 h 3 0 m.length,s55 a.R]] 0))\/(∃h j b d,(st.n=74/\st.s 4544=some (h,.arr false 90 3 (m.map e90) 0)/\st.t 1=.ept 64 j 10 0 0/\st.t 2=.ept 128 b 10 0 0/\st.t 3=.ept 192 d 10 0 0/\st.t 5=vi o/\st.s 64=some (j,.arr true 42 10 [e42 a] 0)/\st.s 128=some (b,.arr true 52 10 [[vi 0,vi 0,.nsl,.nsl,.nsl,.nsl,.nsl,.nsl,.nsl,.nsl]] 0)/\st.s 192=some (d,.arr true 52 10 [[vi a.c.W,vi a.c.p,.nsl,Zd a.l.S,Y9 a.l.x,s3 a.l.i,XT a.g.e,XT a.v.e,.osl 4544 h 3 0 m.length,s55 a.R]] 0))/\k=[])\/(∃f j b d,(st.n=74/\st.s 2560=some (f,.arr false 87 4 (k.map e87) 0)/\st.t 1=.ept 64 j 10 0 0/\st.t 2=.ept 128 b 10 0 0/\st.t 3=.ept 192 d 10 0 0/\st.t 5=vi o/\st.s 64=some (j,.arr true 42 10 [e42 a] 0)/\st.s 128=some (b,.arr true 52 10 [[vi 0,vi 0,.nsl,.nsl,.nsl,.nsl,.nsl,.nsl,.nsl,.nsl]] 0)/\st.s 192=some (d,.arr true 52 10 [[vi a.c.W,vi a.c.p,.osl 2560 f 4 0 k.length,Zd a.l.S,Y9 a.l.x,s3 a.l.i,XT a.g.e,XT a.v.e,.nsl,s55 a.R]] 0))/\m=[])\/(∃j b d,(st.n=74/\st.t 1=.ept 64 j 10 0 0/\st.t 2=.ept 128 b 10 0 0/\st.t 3=.ept 192 d 10 0 0/\st.t 5=vi o/\st.s 64=some (j,.arr true 42 10 [e42 a] 0)/\st.s 128=some (b,.arr true 52 10 [[vi 0,vi 0,.nsl,.nsl,.nsl,.nsl,.nsl,.nsl,.nsl,.nsl]] 0)/\st.s 192=some (d,.arr true 52 10 [[vi a.c.W,vi a.c.p,.nsl,Zd a.l.S,Y9 a.l.x,s3 a.l.i,XT a.g.e,XT a.v.e,.nsl,s55 a.R]] 0))/\m=[]/\k=[]))
def g4:(∀N a0 a1 a2,OK (Qf6 N a0 a1 a2) 126 [.agg (e32 a0),vi a1,vi a2] [] (λr=>vi r) λr=>[])/\(∀N a0 a1,OK (Qba N a0 a1) 7 [s55 a0,vu a1] [] (λr=>.v (.bool r)) λr=>[])/\(∀N a0 a1,OK (QeG N a0 a1) 259 [.agg (e28 a0),vi a1] [] (λr=>vi r) λr=>[])/\(∀N a0 a1,OK (Qgn N a0 a1) 233 [.agg (JH a0),vi a1] [] (λr=>.v (.bool r)) λr=>[])/\(∀N a0 a1 a2 a3 a4,OK (QeH N a0 a1 a2 a3 a4) 258 [ZH a0,vi a1,vi a2,.agg (Y8 a3),.agg (Y8 a4)] [] (λr=>.tup [.fsl 144 4 (r.1.map Y8),vi r.2]) λr=>[])/\(∀N a0 a1,OK (Qc1 N a0 a1) 136 [.agg (e42 a0),s55 a1] [] (λr=>.v (.bool r)) λr=>[])/\(∀N a0,OK (QfD N a0) 249 [ZH a0] [] (λr=>vi r) λr=>[])/\(∀N a0,OK (QeN N a0) 181 [vi a0] [] (λr=>vu r) λr=>[])/\(∀N a0,OK (Qdk N a0) 98 [.agg (Xn5 a0)] [] (λr=>.v (.bool r)) λr=>[])/\(∀N a0 a1,OK (QcH N a0 a1) 103 [s55 a0,vu a1] [] (λr=>vi r) λr=>[])/\(∀N a0 a1,OK (QaI N a0 a1) 52 [Y9 a0,Y9 a1] [] (λr=>.v (.bool r)) λr=>[])/\(∀N a0,OK (Qcq N a0) 6 [.agg (e42 a0)] [] (λr=>.agg (e52 r)) λr=>[]):=by
 refine⟨λN _ _ _=>rk Tryz.f126 ?_,λN _ _=>rk Tryz.f7 ?_,λN _ _=>rk Tryz.f259 ?_,λN _ _=>rk Tryz.f233 ?_,λN _ _ _ _ _=>rq Tryz.f258 [1920] ?_,λN _ _=>rk Tryz.f136 ?_,λN _=>rk Tryz.f249 ?_,λN _=>rk Tryz.f181 ?_,λN _=>rk Tryz.f98 ?_,λN _ _=>rk Tryz.f103 ?_,λN _ _=>rk Tryz.f52 ?_,λN _=>rk Tryz.f6 ?_⟩<;>(rintro _ hw r hr C _ rfl hwf hf;simp only[Tryz.f126,Tryz.f7,Tryz.f259,Tryz.f233,Tryz.f258,Tryz.f136,Tryz.f249,Tryz.f181,Tryz.f98,Tryz.f103,Tryz.f52,Tryz.f6,Option.get!];(first|rw[Qf6]at hr|rw[Qba]at hr|rw[QeG]at hr|rw[Qgn]at hr|rw[QeH]at hr|rw[Qc1]at hr|rw[QfD]at hr|rw[QeN]at hr|rw[Qdk]at hr|rw[QcH]at hr|rw[QaI]at hr|rw[Qcq]at hr);repeat' first
 |(refine El.el hr ?_;intro hr)
 |(with_reducible intro h;refine XH hr h ?_;intro hr)
 |with_reducible intro _
 |(refine Xu hr ?_;rintro rfl;have hr:=hk;clear hk)
 |simp only[go_sem,simprocAttr,E,hl3,X2,VP,Xan,Km,YW,XS]
 |(with_reducible first|apply Xk|apply Xj|apply XA|apply XF|apply XG)
 |((first|with_reducible refine Y1 hr ag ?_ ?_|(with_reducible refine YN hr ?_ ?_;rotate_left;intro p;rotate_right));(·simp only[go_sem,simprocAttr]);intro hp hn hd hr;(try have hl3:=hd _ e3);(try simp only[go_sem,simprocAttr]at hl3);(try have X2:=hd _ e55);(try simp only[go_sem,simprocAttr]at X2);(try have VP:=hd _ e86);(try simp only[go_sem,simprocAttr]at VP);(try have Xan:=hd _ e89);(try simp only[go_sem,simprocAttr]at Xan);(try have Km:=hd _ XaR);(try simp only[go_sem,simprocAttr]at Km);(try have YW:=hd _ Vl);(try simp only[go_sem,simprocAttr]at YW);(try have XS:=hd _ Y8);(try simp only[go_sem,simprocAttr]at XS))
 |(refine XB ?_ ?_;.first|assumption|omega)
 |(with_reducible refine lp (Qj9 N _ _) hr N ?_ (λex hq hk=>⟨_,_,ex,hq,hk,?_⟩) _;clear hr;(try clear E);rintro n1 st ⟨v1,v2,ex,hr,hk,⟨_,E⟩⟩<;>(obtain _|n1:=n1<;>rw[QdU]at hr))
 |refine⟨_,WK _,_,_,_,hr,hk,?_⟩
 |(with_reducible refine lp (Qk9 N _ _) hr N ?_ (λex hq hk=>⟨_,ex,hq,hk,?_⟩) _;clear hr;(try clear E);rintro n1 st ⟨v1,ex,hr,hk,E⟩<;>(obtain _|n1:=n1<;>rw[Qe5]at hr))
 |refine⟨_,WK _,_,_,hr,hk,?_⟩
 |(with_reducible refine lp (Qka N _) hr N ?_ (λex hq hk=>⟨_,ex,hq,hk,?_⟩) _;clear hr;(try clear E);rintro n1 st ⟨v1,ex,hr,hk,⟨_,E⟩⟩<;>(obtain _|n1:=n1<;>rw[QcB]at hr))
 |(with_reducible refine lp (Qjg N _ _) hr N ?_ (λex hq hk=>⟨_,ex,hq,hk,?_⟩) _;clear hr;(try clear E);rintro n1 st ⟨v1,ex,hr,hk,⟨_,E⟩⟩<;>(obtain _|n1:=n1<;>rw[QcM]at hr))
 |(with_reducible refine lp (Qkb N _ _ _ _) hr N ?_ (λex hq hk=>⟨_,_,ex,hq,hk,?_⟩) _;clear hr;(try clear E);rintro n1 st ⟨v1,v2,ex,hr,hk,⟨_,_,_,E⟩⟩<;>(obtain _|n1:=n1<;>rw[QdV]at hr))
 |(with_reducible refine lp (QiL N _ _) hr N ?_ (λex hq hk=>⟨_,ex,hq,hk,?_⟩) _;clear hr;(try clear E);rintro n1 st ⟨v1,ex,hr,hk,⟨_,E⟩⟩<;>(obtain _|n1:=n1<;>rw[Qc0]at hr))
 |(with_reducible refine lp (Qjh N _) hr N ?_ (λex hq hk=>⟨_,_,ex,hq,hk,?_⟩) _;clear hr;(try clear E);rintro n1 st ⟨v1,v2,ex,hr,hk,E⟩<;>(obtain _|n1:=n1<;>rw[Qek]at hr))
 |(with_reducible refine lp (Qla N _) hr N ?_ (λex hq hk=>⟨_,_,ex,hq,hk,?_⟩) _;clear hr;(try clear E);rintro n1 st ⟨v1,v2,ex,hr,hk,E⟩<;>(obtain _|n1:=n1<;>rw[Qfa]at hr))
 |(with_reducible refine lp (Qhy N _) hr N ?_ (λex hq hk=>⟨_,_,ex,hq,hk,?_⟩) _;clear hr;(try clear E);rintro n1 st ⟨v1,v2,ex,hr,hk,⟨_,E⟩⟩<;>(obtain _|n1:=n1<;>rw[Qa0]at hr))
 |(with_reducible refine lp (QgC N _ _) hr N ?_ (λex hq hk=>⟨_,ex,hq,hk,?_⟩) _;clear hr;(try clear E);rintro n1 st ⟨v1,ex,hr,hk,E⟩<;>(obtain _|n1:=n1<;>rw[QaX]at hr))
 |(with_reducible refine lp (QfP N _ _) hr N ?_ (λex hq hk=>⟨_,ex,hq,hk,?_⟩) _;clear hr;(try clear E);rintro n1 st ⟨v1,ex,hr,hk,E⟩<;>(obtain _|n1:=n1<;>rw[Qat]at hr))
 |(with_reducible refine lp (Qhz N _) hr N ?_ (λex hq hk=>⟨_,_,ex,hq,hk,?_⟩) _;clear hr;(try clear E);rintro n1 st ⟨v1,v2,ex,hr,hk,(⟨_,_,_,_,E⟩|⟨_,_,_,E,z0⟩)⟩<;>(try subst z0)<;>(obtain _|n1:=n1<;>rw[QbW]at hr))
 |(with_reducible refine lp (QhA N _ _) hr N ?_ (λex hq hk=>⟨_,_,ex,hq,hk,?_⟩) _;clear hr;(try clear E);rintro n2 st ⟨v6,v7,ex,hr,hk,(⟨_,_,_,_,_,E⟩|⟨_,_,_,_,E,z0⟩|⟨_,_,_,_,E,z0⟩|⟨_,_,_,E,z0,z1⟩)⟩<;>(try subst z0)<;>(try subst z1)<;>(obtain _|n2:=n2<;>rw[QbX]at hr))
 |refine dc 136 4 hf 12 [(0,242,[]),(0,241,[]),(3,240,[]),(7,240,[]),(0,15,[]),(16,15,[]),(48,15,[]),(112,15,[]),(255,0,[])] ?_
 |refine dc 52 6 hf 16 [(0,242,[]),(0,241,[]),(3,240,[]),(7,240,[]),(0,47,[]),(0,31,[]),(48,15,[]),(112,15,[]),(255,0,[])] ?_
 |refine dc 6 5 hf 24 [(0,65532,[[],[2496]]),(1,65532,[[],[2496]]),(0,16147,[]),(4,16147,[]),(0,16143,[]),(28,16131,[]),(60,16131,[]),(124,16131,[]),(0,1279,[]),(256,1279,[]),(0,1023,[]),(1792,255,[]),(3840,255,[]),(7936,255,[]),(16380,3,[]),(32764,3,[[2496],[]]),(65535,0,[[2560],[]]),(131071,0,[]),(262143,0,[[192],[]])] ?_
 |refine dc 6 9 hf 49 [(0,4194300,[[],[4480]]),(1,4194300,[[],[4480]]),(0,1048339,[]),(4,1048339,[]),(0,1048335,[]),(28,1048323,[]),(60,1048323,[]),(124,1048323,[]),(0,1033471,[]),(256,1033471,[]),(0,1033215,[]),(1792,1032447,[]),(3840,1032447,[]),(7936,1032447,[]),(0,81919,[]),(16384,81919,[]),(0,65535,[]),(114688,16383,[]),(245760,16383,[]),(507904,16383,[]),(1048572,3,[]),(2097148,3,[[4480],[]]),(4194303,0,[[4544],[]]),(8388607,0,[]),(16777215,0,[[192],[]])] ?_
 |(refine Xu hr ?_;rintro rfl;with_reducible refine X4 ?_)
 |exact Za hr
 |exact Yb hr
 |(apply Yc;assumption)
 |((first|refine XH (c:=true) hr rfl ?_|refine XH (c:=false) hr rfl ?_|refine XH hr ag ?_);intro hr)
 |fail)
abbrev QmT:=g4.1
abbrev QnF:=g4.2.1
abbrev QmU:=g4.2.2.1
abbrev QlV:=g4.2.2.2.1
abbrev QmV:=g4.2.2.2.2.1
abbrev Qlb:=g4.2.2.2.2.2.1
abbrev QlW:=g4.2.2.2.2.2.2.1
abbrev QnG:=g4.2.2.2.2.2.2.2.1
abbrev QhQ:=g4.2.2.2.2.2.2.2.2.1
abbrev QgX:=g4.2.2.2.2.2.2.2.2.2.1
abbrev Qgl:=g4.2.2.2.2.2.2.2.2.2.2.1
abbrev QhR:=g4.2.2.2.2.2.2.2.2.2.2.2
attribute [instance] QmT QnF QmU QlV QmV Qlb QlW QnG QhQ QgX Qgl QhR
end Go.Sx
