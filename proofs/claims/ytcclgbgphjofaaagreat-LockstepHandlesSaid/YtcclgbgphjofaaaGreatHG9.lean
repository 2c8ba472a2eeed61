import Derived.Test.YtcclgbgphjofaaaGreatHG7
import Derived.Test.YtcclgbgphjofaaaGreatHG8
set_option linter.all false
namespace Go.Sx
open Go.Proofs
set_option maxRecDepth 10000
set_option maxHeartbeats 100000000
abbrev QjH:=λN m (Q:(Ex (W8 × List Int × Int) (Int × Int × List Int × List WJ × Int × Int × List Int × List Int × List Int × Int × Int × Int × Int × Int × Int × Int × List Int))→Prop) n (st:St)=>∃o p q r u v w x y e f g h i j k l d z,QbD N m n o p q r u v w x y e f g h i j k l d=some z/\Q z/\((∃c a b,st.n=39/\st.s 2304=some (c,.arr false 55 1 (d.map e55) 0)/\st.t 1=s55 m/\st.t 2=.ept 128 a 16 0 0/\st.t 4=.ept 256 b 16 0 0/\st.t 7=.osl 2304 c 1 0 d.length/\st.t 8=vi o/\st.s 128=some (a,.arr true 204 16 [[vi p,vi q,s55 r,ZH u,vi v,vi w,s55 x,s3 y,s55 e,vi f,vi g,vi h,vi i,vi j,vi k,vi l]] 0)/\st.s 256=some (b,.arr true 204 16 [[vi 0,vi 0,.nsl,.nsl,vi 0,vi 0,.nsl,.nsl,.nsl,vi 0,vi 0,vi 0,vi 0,vi 0,vi 0,vi 0]] 0))\/(∃a b,(st.n=39/\st.t 1=s55 m/\st.t 2=.ept 128 a 16 0 0/\st.t 4=.ept 256 b 16 0 0/\st.t 7=.nsl/\st.t 8=vi o/\st.s 128=some (a,.arr true 204 16 [[vi p,vi q,s55 r,ZH u,vi v,vi w,s55 x,s3 y,s55 e,vi f,vi g,vi h,vi i,vi j,vi k,vi l]] 0)/\st.s 256=some (b,.arr true 204 16 [[vi 0,vi 0,.nsl,.nsl,vi 0,vi 0,.nsl,.nsl,.nsl,vi 0,vi 0,vi 0,vi 0,vi 0,vi 0,vi 0]] 0))/\d=[]))
abbrev QkA:=λN o p (Q:(Ex (W8 × Bool × Int) (Int × Int × List Int × List WJ × Int × Int × List Int × List Int × List Int × Int × Int × Int × Int × Int × Int × Int))→Prop) n (st:St)=>∃q r u v w x b c d e f g h i j k l y,QbL N o p n q r u v w x b c d e f g h i j k l=some y/\Q y/\((∃m a,st.n=90/\st.t 1=.ept 64 m 16 0 0/\st.t 2=.ept 128 a 16 0 0/\st.t 5=vu o/\st.t 6=s3 p/\st.t 7=vi q/\st.s 64=some (m,.arr true 204 16 [[vi r,vi u,s55 v,ZH w,vi x,vi b,s55 c,s3 d,s55 e,vi f,vi g,vi h,vi i,vi j,vi k,vi l]] 0)/\st.s 128=some (a,.arr true 204 16 [[vi 0,vi 0,.nsl,.nsl,vi 0,vi 0,.nsl,.nsl,.nsl,vi 0,vi 0,vi 0,vi 0,vi 0,vi 0,vi 0]] 0)))
abbrev QkB:=λN a (Q:(List Int × Int)→Prop) n (st:St)=>∃i k l m,QaJ N a n i k l=some m/\Q m/\((∃g e,st.n=84/\st.t 1=.ept 64 g 16 0 0/\st.t 2=.ept 128 e 16 0 0/\st.t 3=vi i/\st.s 64=some (g,.arr true 204 16 [[vi a.h.c.W,vi a.h.c.p,s55 k,ZH a.h.p,vi a.h.s,vi a.h.b,s55 a.o,s3 a.t,s55 a.q,vi a.d,vi a.r.j,vi a.r.K,vi l,vi a.r.E,vi a.r.f,vi a.r.y]] 0)/\st.s 128=some (e,.arr true 204 16 [[vi 0,vi 0,.nsl,.nsl,vi 0,vi 0,.nsl,.nsl,.nsl,vi 0,vi 0,vi 0,vi 0,vi 0,vi 0,vi 0]] 0)))
abbrev QiB:=λN f (Q:(List Bool)→Prop) n (st:St)=>∃g d e h,Qa7 N f n g d e=some h/\Q h/\((∃a b c,st.n=56/\st.s 768=some (a,.arr false 4 1 (d.map e4) 0)/\st.s 896=some (b,.arr false 55 1 (e.map e55) 0)/\st.t 1=.ept 64 c 10 0 0/\st.t 3=.osl 768 a 1 0 d.length/\st.t 4=.osl 896 b 1 0 e.length/\st.t 5=vi g/\st.s 64=some (c,.arr true 42 10 [e42 f] 0)))
abbrev Qlt:=λN e b c f d (Q:(Ex Int Unit)→Prop) n (st:St)=>∃g h,Qe9 N e b c f d n g=some h/\Q h/\((∃a,st.n=66/\st.t 8=.ept 512 a 4 0 0/\st.t 9=vi d/\st.t 54=.isl 144 4 (((e.drop (wI (b + 1)).toNat).take ((wI (b + d)).toNat - (wI (b + 1)).toNat)).map Y8)/\st.t 55=vi (((min ((wI (b + d)).toNat - (wI (b + 1)).toNat) (e.length - (wI (b + 1)).toNat)):Nat):Int)/\st.t 56=vi g/\st.s 512=some (a,.arr true 298 4 [[vi f,vi c.s,vi c.u,vi c.P]] 0)))
abbrev QkC:=λN b (Q:(List Int)→Prop) n (st:St)=>∃d c f,Qd0 N b n d c=some f/\Q f/\((∃a,st.n=25/\st.s 1408=some (a,.arr false 55 1 (c.map e55) 0)/\st.t 3=.osl 1408 a 1 0 c.length/\st.t 10=XT b.e/\st.t 11=vi b.e.length/\st.t 12=vi d)\/((st.n=25/\st.t 3=.nsl/\st.t 10=XT b.e/\st.t 11=vi b.e.length/\st.t 12=vi d)/\c=[]))
abbrev QeZ:=λN a c0 (Q:(Ex Int Unit)→Prop) n (st:St)=>∃b c,Qaq N a c0 n b=some c/\Q c/\((st.n=19/\st.t 0=s55 a/\st.t 1=.clo (.func 106) [] [.ept 1000000 0 1 0 0]/\st.t 7=vi a.length/\st.t 8=vi b/\st.s 1000000=some (0,.arr true 25 1 [[s55 c0]] 0)))
abbrev QkD:=λN b (Q:(List Int)→Prop) n (st:St)=>∃d c e,Qd1 N b n d c=some e/\Q e/\((∃a,st.n=25/\st.s 1408=some (a,.arr false 55 1 (c.map e55) 0)/\st.t 3=.osl 1408 a 1 0 c.length/\st.t 10=Zd b.S/\st.t 11=vi b.S.length/\st.t 12=vi d)\/((st.n=25/\st.t 3=.nsl/\st.t 10=Zd b.S/\st.t 11=vi b.S.length/\st.t 12=vi d)/\c=[]))
abbrev QhD:=λN b (Q:(Ex Bool Unit)→Prop) n (st:St)=>∃c d,QbE N b n c=some d/\Q d/\((∃a,st.n=47/\st.t 1=.ept 64 a 10 0 0/\st.t 6=s90 b.m/\st.t 7=vi b.m.length/\st.t 8=vi c/\st.s 64=some (a,.arr true 52 10 [e52 b] 0)))
def g17:(∀N a0 a1,OK (QeT N a0 a1) 131 [.agg (JH a0),s55 a1] [] (λr=>.tup [.agg (JH r.1),s55 r.2.1,vi r.2.2]) λr=>[])/\(∀N a0,OK (QeI N a0) 199 [.agg (JH a0)] [] (λr=>.tup [.agg (JH r.1),.v (.bool r.2.1),vi r.2.2]) λr=>[])/\(∀N a0,OK (Qfm N a0) 135 [.agg (JH a0)] [] (λr=>.agg (JH r)) λr=>[])/\(∀N a0,OK (QdY N a0) 75 [.agg (e42 a0)] [] (λr=>s4 r) λr=>[])/\(∀N a0 a1 a2,OK (QgB N a0 a1 a2) 185 [.agg (e24 a0),ZH a1,vi a2] [] (λr=>vi r) λr=>[])/\(∀N a0,OK (QdH N a0) 42 [.agg (e35 a0)] [] (λr=>s55 r) λr=>[])/\(∀N a0 c0,OK (Qa9 N a0 c0) 178 [s55 a0,.clo (.func 106) [] [.ept 1000000 0 1 0 0]] [.arr true 25 1 [[s55 c0]] 0] (λr=>vi r) λr=>[.arr true 25 1 [[s55 c0]] 0])/\(∀N a0,OK (Qgf N a0) 50 [.agg (e32 a0)] [] (λr=>s55 r) λr=>[])/\(∀N a0,OK (QdR N a0) 51 [.agg (e52 a0)] [] (λr=>.v (.bool r)) λr=>[]):=by
 refine⟨λN _ _=>rk Tryz.f131 ?_,λN _=>rk Tryz.f199 ?_,λN _=>rk Tryz.f135 ?_,λN _=>rk Tryz.f75 ?_,λN _ _ _=>rk Tryz.f185 ?_,λN _=>rk Tryz.f42 ?_,λN _ _=>rk Tryz.f178 ?_,λN _=>rk Tryz.f50 ?_,λN _=>rk Tryz.f51 ?_⟩<;>(rintro _ hw r hr C _ rfl hwf hf;simp only[Tryz.f131,Tryz.f199,Tryz.f135,Tryz.f75,Tryz.f185,Tryz.f42,Tryz.f178,Tryz.f50,Tryz.f51,Option.get!];(first|rw[QeT]at hr|rw[QeI]at hr|rw[Qfm]at hr|rw[QdY]at hr|rw[QgB]at hr|rw[QdH]at hr|rw[Qa9]at hr|rw[Qgf]at hr|rw[QdR]at hr);repeat' first
 |(refine El.el hr ?_;intro hr)
 |(with_reducible intro h;refine XH hr h ?_;intro hr)
 |with_reducible intro _
 |(refine Xu hr ?_;rintro rfl;have hr:=hk;clear hk)
 |simp only[go_sem,simprocAttr,E,hK,hl3,hl4,X2,VP,Xev,YW,Zx,XS,Wx,WR,UX]
 |(with_reducible first|apply Xk|apply Xj|apply XA|apply XF|apply XG)
 |((first|with_reducible refine Y1 hr ag ?_ ?_|(with_reducible refine YN hr ?_ ?_;rotate_left;intro p;rotate_right));(·simp only[go_sem,simprocAttr,Wx,WR,UX]);intro hp hn hd hr;(try have hl3:=hd _ e3);(try simp only[go_sem,simprocAttr]at hl3);(try have hl4:=hd _ e4);(try simp only[go_sem,simprocAttr]at hl4);(try have X2:=hd _ e55);(try simp only[go_sem,simprocAttr]at X2);(try have VP:=hd _ e86);(try simp only[go_sem,simprocAttr]at VP);(try have Xev:=hd _ e90);(try simp only[go_sem,simprocAttr]at Xev);(try have YW:=hd _ Vl);(try simp only[go_sem,simprocAttr]at YW);(try have Zx:=hd _ K2);(try simp only[go_sem,simprocAttr]at Zx);(try have XS:=hd _ Y8);(try simp only[go_sem,simprocAttr]at XS))
 |(refine XB ?_ ?_;.first|assumption|omega)
 |(with_reducible first|refine CallX.c ?_ _|refine OK.c hr hw ?_ (λy hr=>?_) _|refine OK.d hr hw ?_ (λy hr=>?_) _)
 |(with_reducible refine lp (QjH N _) hr N ?_ (λex hq hk=>⟨_,_,_,_,_,_,_,_,_,_,_,_,_,_,_,_,_,_,ex,hq,hk,?_⟩) _;clear hr;(try clear E);rintro n1 st ⟨v1,v2,v3,v4,v5,v6,v7,v8,v9,v10,v11,v12,v13,v14,v15,v16,v17,v18,ex,hr,hk,(⟨_,_,_,E⟩|⟨_,_,E,z0⟩)⟩<;>(try subst z0)<;>(obtain _|n1:=n1<;>rw[QbD]at hr))
 |refine⟨_,WK _,_,_,_,_,_,_,_,_,_,_,_,_,_,_,_,_,_,_,_,hr,hk,?_⟩
 |(with_reducible refine lp (QkA N _ _) hr N ?_ (λex hq hk=>⟨_,_,_,_,_,_,_,_,_,_,_,_,_,_,_,_,_,ex,hq,hk,?_⟩) _;clear hr;(try clear E);rintro n1 st ⟨v4,v5,v6,v7,v8,v9,v10,v11,v12,v13,v14,v15,v16,v17,v18,v19,v20,ex,hr,hk,⟨_,_,E⟩⟩<;>(obtain _|n1:=n1<;>rw[QbL]at hr))
 |refine⟨_,WK _,_,_,_,_,_,_,_,_,_,_,_,_,_,_,_,_,_,_,hr,hk,?_⟩
 |(with_reducible refine lp (QkB N _) hr N ?_ (λex hq hk=>⟨_,_,_,ex,hq,hk,?_⟩) _;clear hr;(try clear E);rintro n1 st ⟨v1,v2,v3,ex,hr,hk,⟨_,_,E⟩⟩<;>(obtain _|n1:=n1<;>rw[QaJ]at hr))
 |refine⟨_,WK _,_,_,_,_,hr,hk,?_⟩
 |(with_reducible refine lp (QiB N _) hr N ?_ (λex hq hk=>⟨_,_,_,ex,hq,hk,?_⟩) _;clear hr;(try clear E);rintro n1 st ⟨v3,v4,v5,ex,hr,hk,⟨_,_,_,E⟩⟩<;>(obtain _|n1:=n1<;>rw[Qa7]at hr))
 |(with_reducible refine lp (Qlt N _ _ _ _ _) hr N ?_ (λex hq hk=>⟨_,ex,hq,hk,?_⟩) _;clear hr;(try clear E);rintro n1 st ⟨v7,ex,hr,hk,⟨_,E⟩⟩<;>(obtain _|n1:=n1<;>rw[Qe9]at hr))
 |refine⟨_,WK _,_,_,hr,hk,?_⟩
 |(with_reducible refine lp (QkC N _) hr N ?_ (λex hq hk=>⟨_,_,ex,hq,hk,?_⟩) _;clear hr;(try clear E);rintro n1 st ⟨v2,v3,ex,hr,hk,(⟨_,E⟩|⟨E,z0⟩)⟩<;>(try subst z0)<;>(obtain _|n1:=n1<;>rw[Qd0]at hr))
 |refine⟨_,WK _,_,_,_,hr,hk,?_⟩
 |(with_reducible refine lp (QeZ N _ _) hr N ?_ (λex hq hk=>⟨_,ex,hq,hk,?_⟩) _;clear hr;(try clear E);rintro n1 st ⟨v1,ex,hr,hk,E⟩<;>(obtain _|n1:=n1<;>rw[Qaq]at hr))
 |(with_reducible refine lp (QkD N _) hr N ?_ (λex hq hk=>⟨_,_,ex,hq,hk,?_⟩) _;clear hr;(try clear E);rintro n1 st ⟨v2,v3,ex,hr,hk,(⟨_,E⟩|⟨E,z0⟩)⟩<;>(try subst z0)<;>(obtain _|n1:=n1<;>rw[Qd1]at hr))
 |(with_reducible refine lp (QhD N _) hr N ?_ (λex hq hk=>⟨_,ex,hq,hk,?_⟩) _;clear hr;(try clear E);rintro n1 st ⟨v1,ex,hr,hk,⟨_,E⟩⟩<;>(obtain _|n1:=n1<;>rw[QbE]at hr))
 |refine dc 131 5 hf 9 [(0,30721,[[],[576]]),(0,5121,[[],[576]]),(0,3073,[[],[576]]),(6,1025,[[],[576]]),(14,1025,[[],[576]]),(31,1,[[],[576]]),(63,1,[[],[576]]),(127,393217,[[],[576]]),(127,327681,[[],[576]]),(127,196611,[[],[576]]),(0,523776,[[576],[]]),(1279,393216,[[576],[]]),(3583,262144,[]),(8191,0,[])] ?_
 |refine dc 131 8 hf 32 [(0,30,[[],[2240,2304]]),(0,13,[[],[2240]]),(0,3,[]),(4,3,[[2240],[]]),(14,1,[[2304],[]]),(31,0,[[128],[]]),(63,0,[])] ?_
 |refine dc 135 4 hf 4 [(0,4063232,[]),(1,4063232,[]),(3,4063232,[]),(0,638976,[]),(8,638976,[]),(0,507904,[]),(56,114688,[]),(120,114688,[]),(255,0,[]),(511,0,[]),(1023,50331648,[]),(1023,41943041,[]),(1023,25165827,[]),(2047,50331648,[]),(12287,33554432,[]),(32767,0,[])] ?_
 |refine dc 135 5 hf 30 [(0,2,[]),(0,1,[]),(3,0,[]),(7,0,[]),(15,0,[]),(31,3968,[]),(63,3968,[]),(31,608,[]),(159,608,[]),(31,480,[]),(927,96,[]),(1951,96,[]),(4095,0,[]),(8191,0,[])] ?_
 |refine dc 135 6 hf 7 [(0,8521215115265,[[],[448]]),(0,1236950581249,[[],[448]]),(2,1236950581249,[[],[448]]),(0,962072674305,[[],[448]]),(14,137438953473,[[],[448]]),(30,137438953473,[[],[448]]),(63,1,[[],[448]]),(0,17454747090944,[[448],[]]),(255,0,[[448],[]])] ?_
 |refine dc 135 8 hf 59 [(0,8184,[[],[4352]]),(1,8184,[[],[4352]]),(3,8184,[[],[4352]]),(0,7975,[[],[4352]]),(8,7975,[[],[4352]]),(0,7967,[[],[4352]]),(56,7943,[[],[4352]]),(120,7943,[[],[4352]]),(0,3327,[]),(256,3327,[[4352],[]]),(0,1023,[[],[4352]]),(1024,1023,[[],[4352]]),(3840,255,[[4352],[]]),(8191,0,[[4352],[]]),(16383,0,[]),(32767,32768,[]),(32767,212992,[[],[64]]),(65535,32768,[]),(196607,32768,[]),(458751,32768,[[64],[]])] ?_
 |refine dc 75 10 hf 43 [(0,2046,[]),(0,249,[]),(2,249,[]),(0,23,[]),(0,15,[]),(24,7,[]),(56,7,[]),(120,7,[]),(254,1,[]),(510,1,[]),(1022,1,[]),(2047,0,[[896],[]]),(4095,0,[])] ?_
 |refine dc 185 3 hf 26 [(0,0,[]),(1,0,[]),(3,0,[]),(7,0,[]),(15,0,[]),(31,0,[]),(63,0,[]),(127,0,[]),(255,0,[]),(511,48,[]),(1023,48,[]),(2047,48,[]),(4095,48,[]),(511,47,[]),(511,31,[]),(32767,0,[]),(65535,0,[]),(131071,0,[])] ?_
 |(refine Xu hr ?_;rintro rfl;with_reducible refine X4 ?_)
 |exact Za hr
 |exact Yb hr
 |(apply Yc;assumption)
 |((first|refine XH (c:=true) hr rfl ?_|refine XH (c:=false) hr rfl ?_|refine XH hr ag ?_);intro hr)
 |(with_reducible refine XuC hr ?_ ?_<;>intro hK hr<;>try simp only[hK])
 |fail)
abbrev Qmp:=g17.1
abbrev Qnn:=g17.2.1
abbrev Qno:=g17.2.2.1
abbrev QkE:=g17.2.2.2.1
abbrev QnU:=g17.2.2.2.2.1
abbrev Qnp:=g17.2.2.2.2.2.1
abbrev Qfp:=g17.2.2.2.2.2.2.1
abbrev Qnq:=g17.2.2.2.2.2.2.2.1
abbrev QhV:=g17.2.2.2.2.2.2.2.2
attribute [instance] Qmp Qnn Qno QkE QnU Qnp Qfp Qnq QhV
end Go.Sx
