import Derived.Test.YtcclgbgphjofaaaGreatHG9
import Derived.Test.YtcclgbgphjofaaaGreatHG10
set_option linter.all false
namespace Go.Sx
open Go.Proofs
set_option maxRecDepth 10000
set_option maxHeartbeats 100000000
abbrev QkH:=λN e f g (Q:(Ex (List Int × Int) (List Int))→Prop) n (st:St)=>∃h d i,Qau N e f g n h d=some i/\Q i/\((∃c a b,st.n=70/\st.s 3904=some (c,.arr false 55 1 (d.map e55) 0)/\st.t 1=vi f/\st.t 2=.ept 128 a 6 0 0/\st.t 6=.ept 384 b 4 0 0/\st.t 7=.osl 3904 c 1 0 d.length/\st.t 8=vi h/\st.s 128=some (a,.arr true 28 6 [e28 e] 0)/\st.s 384=some (b,.arr true 144 4 [Y8 g] 0))\/(∃a b,(st.n=70/\st.t 1=vi f/\st.t 2=.ept 128 a 6 0 0/\st.t 6=.ept 384 b 4 0 0/\st.t 7=.nsl/\st.t 8=vi h/\st.s 128=some (a,.arr true 28 6 [e28 e] 0)/\st.s 384=some (b,.arr true 144 4 [Y8 g] 0))/\d=[]))
abbrev QjI:=λN b c d (Q:(Ex Int Unit)→Prop) n (st:St)=>∃e f,QaQ N b c d n e=some f/\Q f/\((∃a,st.n=61/\st.t 1=vi c/\st.t 2=s55 d/\st.t 3=.ept 192 a 6 0 0/\st.t 7=vi e/\st.s 192=some (a,.arr true 28 6 [e28 b] 0)))
abbrev QkI:=λN d e f g h (Q:(List Bool)→Prop) n (st:St)=>∃i c j,QbJ N d e f g h n i c=some j/\Q j/\((∃a b,st.n=69/\st.s 1088=some (a,.arr false 4 1 (c.map e4) 0)/\st.t 1=vi e/\st.t 2=s55 f/\st.t 3=.ept 192 b 6 0 0/\st.t 7=.osl 1088 a 1 0 c.length/\st.t 8=vi g/\st.t 11=vi h/\st.t 12=vi i/\st.s 192=some (b,.arr true 28 6 [e28 d] 0)))
abbrev QkJ:=λN d e f (Q:(List Bool)→Prop) n (st:St)=>∃g c h,Qdb N d e f n g c=some h/\Q h/\((∃a b,st.n=69/\st.s 1088=some (a,.arr false 4 1 (c.map e4) 0)/\st.t 1=vi e/\st.t 2=s55 f/\st.t 3=.ept 192 b 6 0 0/\st.t 7=.osl 1088 a 1 0 c.length/\st.t 8=vi g/\st.s 192=some (b,.arr true 28 6 [e28 d] 0)))
abbrev Qlv:=λN (Q:(W8 × Int)→Prop) n (st:St)=>∃j k l m o p q r u b c d e f g h v,Qcs N n j k l m o p q r u b c d e f g h=some v/\Q v/\((∃i a,st.n=21/\st.t 1=.ept 64 i 16 0 0/\st.t 2=.ept 128 a 16 0 0/\st.s 64=some (i,.arr true 204 16 [[vi j,vi k,s55 l,ZH m,vi o,vi p,s55 q,s3 r,s55 u,vi b,vi c,vi d,vi e,vi f,vi g,vi h]] 0)/\st.s 128=some (a,.arr true 204 16 [[vi 0,vi 0,.nsl,.nsl,vi 0,vi 0,.nsl,.nsl,.nsl,vi 0,vi 0,vi 0,vi 0,vi 0,vi 0,vi 0]] 0)))
abbrev QiC:=λN e f (Q:(List Int)→Prop) n (st:St)=>∃g d h,QaH N e f n g d=some h/\Q h/\((∃a c b,st.n=50/\st.s 960=some (a,.arr false 55 1 (d.map e55) 0)/\st.t 1=.ept 64 c 10 0 0/\st.t 2=.ept 128 b 10 0 0/\st.t 4=s4 f/\st.t 5=.osl 960 a 1 0 d.length/\st.t 6=vi g/\st.s 64=some (c,.arr true 42 10 [e42 e] 0)/\st.s 128=some (b,.arr true 42 10 [[vi 0,vi 0,.nsl,.nsl,.nsl,.nsl,.nsl,.nsl,.nsl,.nsl]] 0)))
abbrev QjJ:=λN b (Q:(Ex Bool Unit)→Prop) n (st:St)=>∃c d,Qac N b n c=some d/\Q d/\((∃a,st.n=83/\st.t 1=.ept 64 a 6 0 0/\st.t 3=vi c/\st.s 64=some (a,.arr true 28 6 [e28 b] 0)))
abbrev QfQ:=λN a c0 c1 (Q:(Ex Int Unit)→Prop) n (st:St)=>∃b c,QaD N a c0 c1 n b=some c/\Q c/\((st.n=19/\st.t 0=s3 a/\st.t 1=.clo (.func 111) [] [.ept 1000000 0 10 0 0,.ept 1000001 0 4 0 0]/\st.t 7=vi a.length/\st.t 8=vi b/\st.s 1000000=some (0,.arr true 52 10 [e52 c0] 0)/\st.s 1000001=some (0,.arr true 87 4 [e86 c1] 0)))
def g19:(∀N a0 a1,OK (Qal N a0 a1) 119 [.agg (e28 a0),vi a1] [] (λr=>.tup [s55 r.1,vi r.2]) λr=>[])/\(∀N a0 a1 a2,OK (Qea N a0 a1 a2) 255 [.agg (e28 a0),vi a1,s55 a2] [] (λr=>vu r) λr=>[])/\(∀N a0 a1 a2,OK (QgG N a0 a1 a2) 260 [.agg (e28 a0),vi a1,s55 a2] [] (λr=>s4 r) λr=>[])/\(∀N a0,OK (QfU N a0) 132 [.agg (JH a0)] [] (λr=>.tup [.agg (JH r.1),vi r.2]) λr=>[])/\(∀N a0,OK (QbB N a0) 33 [.agg (e42 a0)] [] (λr=>.tup [.agg (e42 r.1),vi r.2]) λr=>[])/\(∀N a0,OK (Qcx N a0) 115 [.agg (e28 a0)] [] (λr=>.v (.bool r)) λr=>[])/\(∀N a0 c0 c1,OK (QbI N a0 c0 c1) 171 [s3 a0,.clo (.func 111) [] [.ept 1000000 0 10 0 0,.ept 1000001 0 4 0 0]] [.arr true 52 10 [[vi c0.c.W,vi c0.c.p,s87 c0.T,Zd c0.l.S,Y9 c0.l.x,s3 c0.l.i,XT c0.g.e,XT c0.v.e,s90 c0.m,s55 c0.R]] 0,.arr true 87 4 [[vi c1.H.k,vi c1.H.n,vw c1.H.Map,s55 c1.D]] 0] (λr=>vi r) λr=>[.arr true 52 10 [[vi c0.c.W,vi c0.c.p,s87 c0.T,Zd c0.l.S,Y9 c0.l.x,s3 c0.l.i,XT c0.g.e,XT c0.v.e,s90 c0.m,s55 c0.R]] 0,.arr true 87 4 [[vi c1.H.k,vi c1.H.n,vw c1.H.Map,s55 c1.D]] 0]):=by
 refine⟨λN _ _=>rk Tryz.f119 ?_,λN _ _ _=>rk Tryz.f255 ?_,λN _ _ _=>rk Tryz.f260 ?_,λN _=>rk Tryz.f132 ?_,λN _=>rk Tryz.f33 ?_,λN _=>rk Tryz.f115 ?_,λN _ _ _=>rk Tryz.f171 ?_⟩<;>(rintro _ hw r hr C _ rfl hwf hf;simp only[Tryz.f119,Tryz.f255,Tryz.f260,Tryz.f132,Tryz.f33,Tryz.f115,Tryz.f171,Option.get!];(first|rw[Qal]at hr|rw[Qea]at hr|rw[QgG]at hr|rw[QfU]at hr|rw[QbB]at hr|rw[Qcx]at hr|rw[QbI]at hr);repeat' first
 |(refine El.el hr ?_;intro hr)
 |(with_reducible intro h;refine XH hr h ?_;intro hr)
 |with_reducible intro _
 |(refine Xu hr ?_;rintro rfl;have hr:=hk;clear hk)
 |simp only[go_sem,simprocAttr,E,hl3,hl4,X2,XS]
 |(with_reducible first|apply Xk|apply Xj|apply XA|apply XF|apply XG)
 |((first|with_reducible refine Y1 hr ag ?_ ?_|(with_reducible refine YN hr ?_ ?_;rotate_left;intro p;rotate_right));(·simp only[go_sem,simprocAttr]);intro hp hn hd hr;(try have hl3:=hd _ e3);(try simp only[go_sem,simprocAttr]at hl3);(try have hl4:=hd _ e4);(try simp only[go_sem,simprocAttr]at hl4);(try have X2:=hd _ e55);(try simp only[go_sem,simprocAttr]at X2);(try have XS:=hd _ Y8);(try simp only[go_sem,simprocAttr]at XS))
 |(refine XB ?_ ?_;.first|assumption|omega)
 |(with_reducible first|refine CallX.c ?_ _|refine OK.c hr hw ?_ (λy hr=>?_) _|refine OK.d hr hw ?_ (λy hr=>?_) _)
 |(with_reducible refine lp (QkH N _ _ _) hr N ?_ (λex hq hk=>⟨_,_,ex,hq,hk,?_⟩) _;clear hr;(try clear E);rintro n1 st ⟨v3,v4,ex,hr,hk,(⟨_,_,_,E⟩|⟨_,_,E,z0⟩)⟩<;>(try subst z0)<;>(obtain _|n1:=n1<;>rw[Qau]at hr))
 |refine⟨_,WK _,_,_,_,hr,hk,?_⟩
 |(with_reducible refine lp (QjI N _ _ _) hr N ?_ (λex hq hk=>⟨_,ex,hq,hk,?_⟩) _;clear hr;(try clear E);rintro n1 st ⟨v1,ex,hr,hk,⟨_,E⟩⟩<;>(obtain _|n1:=n1<;>rw[QaQ]at hr))
 |refine⟨_,WK _,_,_,hr,hk,?_⟩
 |(with_reducible refine lp (QkI N _ _ _ _ _) hr N ?_ (λex hq hk=>⟨_,_,ex,hq,hk,?_⟩) _;clear hr;(try clear E);rintro n1 st ⟨v7,v8,ex,hr,hk,⟨_,_,E⟩⟩<;>(obtain _|n1:=n1<;>rw[QbJ]at hr))
 |(with_reducible refine lp (QkJ N _ _ _) hr N ?_ (λex hq hk=>⟨_,_,ex,hq,hk,?_⟩) _;clear hr;(try clear E);rintro n2 st ⟨v1,v2,ex,hr,hk,⟨_,_,E⟩⟩<;>(obtain _|n2:=n2<;>rw[Qdb]at hr))
 |(with_reducible refine lp (Qlv N) hr N ?_ (λex hq hk=>⟨_,_,_,_,_,_,_,_,_,_,_,_,_,_,_,_,ex,hq,hk,?_⟩) _;clear hr;(try clear E);rintro n1 st ⟨v1,v2,v3,v4,v5,v6,v7,v8,v9,v10,v11,v12,v13,v14,v15,v16,ex,hr,hk,⟨_,_,E⟩⟩<;>(obtain _|n1:=n1<;>rw[Qcs]at hr))
 |refine⟨_,WK _,_,_,_,_,_,_,_,_,_,_,_,_,_,_,_,_,_,hr,hk,?_⟩
 |(with_reducible refine lp (QiC N _ _) hr N ?_ (λex hq hk=>⟨_,_,ex,hq,hk,?_⟩) _;clear hr;(try clear E);rintro n1 st ⟨v4,v5,ex,hr,hk,⟨_,_,_,E⟩⟩<;>(obtain _|n1:=n1<;>rw[QaH]at hr))
 |(with_reducible refine lp (QjJ N _) hr N ?_ (λex hq hk=>⟨_,ex,hq,hk,?_⟩) _;clear hr;(try clear E);rintro n1 st ⟨v3,ex,hr,hk,⟨_,E⟩⟩<;>(obtain _|n1:=n1<;>rw[Qac]at hr))
 |(with_reducible refine lp (QfQ N _ _ _) hr N ?_ (λex hq hk=>⟨_,ex,hq,hk,?_⟩) _;clear hr;(try clear E);rintro n1 st ⟨v1,ex,hr,hk,E⟩<;>(obtain _|n1:=n1<;>rw[QaD]at hr))
 |refine dc 255 4 hf 8 [(0,30721,[[],[512]]),(0,5121,[[],[512]]),(0,3073,[[],[512]]),(6,1025,[[],[512]]),(14,1025,[[],[512]]),(31,1,[[],[512]]),(63,1,[[],[512]]),(127,131073,[[],[512]]),(127,65537,[[],[512]]),(0,261632,[[512],[]]),(767,131072,[[512],[]]),(2047,0,[])] ?_
 |refine dc 255 5 hf 26 [(0,12,[]),(1,12,[]),(0,3,[]),(4,3,[]),(15,0,[]),(31,0,[]),(63,0,[])] ?_
 |refine dc 260 5 hf 9 [(0,1966081,[[],[576]]),(0,327681,[[],[576]]),(0,196609,[[],[576]]),(6,65537,[[],[576]]),(14,65537,[[],[576]]),(31,1,[[],[576]]),(63,1,[[],[576]]),(127,8388609,[[],[576]]),(127,4194305,[[],[576]]),(0,16744448,[[576],[]]),(767,8388608,[[576],[]]),(2047,0,[])] ?_
 |refine dc 260 12 hf 43 [(0,8002,[]),(0,8001,[]),(3,8000,[]),(7,8000,[]),(15,8000,[]),(31,8000,[]),(0,7999,[]),(127,7936,[]),(0,3839,[]),(0,511,[]),(512,511,[]),(1536,511,[]),(3840,255,[]),(8191,0,[]),(16383,0,[])] ?_
 |(refine Xu hr ?_;rintro rfl;with_reducible refine X4 ?_)
 |exact Za hr
 |exact Yb hr
 |(apply Yc;assumption)
 |((first|refine XH (c:=true) hr rfl ?_|refine XH (c:=false) hr rfl ?_|refine XH hr ag ?_);intro hr)
 |fail)
abbrev Qnt:=g19.1
abbrev Qmr:=g19.2.1
abbrev Qnu:=g19.2.2.1
abbrev QnV:=g19.2.2.2.1
abbrev QkK:=g19.2.2.2.2.1
abbrev Qms:=g19.2.2.2.2.2.1
abbrev Qgm:=g19.2.2.2.2.2.2
attribute [instance] Qnt Qmr Qnu QnV QkK Qms Qgm
def g18:(∀N a0 a1,OK (Qb0 N a0 a1) 64 [.agg (e28 a0),vu a1] [] (λr=>.tup [.agg (e84 r.1),vi r.2]) λr=>[])/\(∀N a0 a1,OK (QeJ N a0 a1) 204 [.agg (e28 a0),.agg (e84 a1)] [] (λr=>.tup [.agg (e28 r.1),vu r.2.1,vi r.2.2]) λr=>[])/\(∀N a0 a1,OK (Qeh N a0 a1) 212 [.agg (e42 a0),vu a1] [] (λr=>.tup [vu r.1,vi r.2]) λr=>[])/\(∀N a0 a1 a2,OK (Qfs N a0 a1 a2) 158 [.agg (e42 a0),vi a1,vu a2] [] (λr=>vi r) λr=>[])/\(∀N a0 a1 a2,OK (QfW N a0 a1 a2) 160 [.agg (e42 a0),vi a1,vu a2] [] (λr=>vi r) λr=>[])/\(∀N a0 c0,OK (QaV N a0 c0) 105 [s55 a0,.clo (.func 106) [] [.ept 1000000 0 1 0 0]] [.arr true 25 1 [[s55 c0]] 0] (λr=>.v (.bool r)) λr=>[.arr true 25 1 [[s55 c0]] 0])/\(∀N a0,OK (QgL N a0) 45 [.agg (e38 a0)] [] (λr=>s55 r) λr=>[]):=by
 refine⟨λN _ _=>rk Tryz.f64 ?_,λN _ _=>rk Tryz.f204 ?_,λN _ _=>rk Tryz.f212 ?_,λN _ _ _=>rk Tryz.f158 ?_,λN _ _ _=>rk Tryz.f160 ?_,λN _ _=>rk Tryz.f105 ?_,λN _=>rk Tryz.f45 ?_⟩<;>(rintro _ hw r hr C _ rfl hwf hf;simp only[Tryz.f64,Tryz.f204,Tryz.f212,Tryz.f158,Tryz.f160,Tryz.f105,Tryz.f45,Option.get!];(first|rw[Qb0]at hr|rw[QeJ]at hr|rw[Qeh]at hr|rw[Qfs]at hr|rw[QfW]at hr|rw[QaV]at hr|rw[QgL]at hr);repeat' first
 |(refine El.el hr ?_;intro hr)
 |(with_reducible intro h;refine XH hr h ?_;intro hr)
 |with_reducible intro _
 |simp only[go_sem,simprocAttr]
 |(with_reducible first|apply Xk|apply Xj|apply XA|apply XF|apply XG)
 |(refine XB ?_ ?_;.first|assumption|omega)
 |(with_reducible first|refine CallX.c ?_ _|refine OK.c hr hw ?_ (λy hr=>?_) _|refine OK.d hr hw ?_ (λy hr=>?_) _)
 |refine dc 45 1 hf 3 [(0,1020,[]),(1,1020,[]),(0,355,[]),(4,355,[]),(12,355,[]),(0,287,[]),(32,287,[]),(124,259,[]),(0,255,[]),(508,3,[]),(1023,0,[[832],[]]),(2047,0,[[832],[]]),(4095,0,[])] ?_
 |(refine Xu hr ?_;rintro rfl;with_reducible refine X4 ?_)
 |exact Za hr
 |exact Yb hr
 |(apply Yc;assumption)
 |fail)
abbrev QnW:=g18.1
abbrev QnX:=g18.2.1
abbrev Qmt:=g18.2.2.1
abbrev QkL:=g18.2.2.2.1
abbrev Qlw:=g18.2.2.2.2.1
abbrev Qe0:=g18.2.2.2.2.2.1
abbrev Qnv:=g18.2.2.2.2.2.2
attribute [instance] QnW QnX Qmt QkL Qlw Qe0 Qnv
end Go.Sx
