import Derived.Test.YtgbmffljpneflaaGreatDoorBG7
import Derived.Test.YtgbmffljpneflaaGreatDoorBG8
set_option linter.all false
namespace Go.Sx
open Go.Proofs
set_option maxRecDepth 10000
set_option maxHeartbeats 100000000
abbrev QlE:=λN m (Q:(Ex (WE × List Int × Int) (Int × Int × List Int × List Wv × Int × Int × List Int × List Int × List Int × Int × Int × Int × Int × Int × Int × Int × List Int))→Prop) n (st:St)=>∃o p q r u v w x y e f g h i j k l d z,Qbn N m n o p q r u v w x y e f g h i j k l d=some z/\Q z/\((∃c a b,st.n=39/\st.s 2304=some (c,.arr false 39 1 (d.map e39) 0)/\st.t 1=s39 m/\st.t 2=.ept 128 a 16 0 0/\st.t 4=.ept 256 b 16 0 0/\st.t 7=.osl 2304 c 1 0 d.length/\st.t 8=vi o/\st.s 128=some (a,.arr true 237 16 [[vi p,vi q,s39 r,Yj u,vi v,vi w,s39 x,s3 y,s39 e,vi f,vi g,vi h,vi i,vi j,vi k,vi l]] 0)/\st.s 256=some (b,.arr true 237 16 [[vi 0,vi 0,.nsl,.nsl,vi 0,vi 0,.nsl,.nsl,.nsl,vi 0,vi 0,vi 0,vi 0,vi 0,vi 0,vi 0]] 0))\/(∃a b,(st.n=39/\st.t 1=s39 m/\st.t 2=.ept 128 a 16 0 0/\st.t 4=.ept 256 b 16 0 0/\st.t 7=.nsl/\st.t 8=vi o/\st.s 128=some (a,.arr true 237 16 [[vi p,vi q,s39 r,Yj u,vi v,vi w,s39 x,s3 y,s39 e,vi f,vi g,vi h,vi i,vi j,vi k,vi l]] 0)/\st.s 256=some (b,.arr true 237 16 [[vi 0,vi 0,.nsl,.nsl,vi 0,vi 0,.nsl,.nsl,.nsl,vi 0,vi 0,vi 0,vi 0,vi 0,vi 0,vi 0]] 0))/\d=[]))
abbrev QmS:=λN o p (Q:(Ex (WE × Bool × Int) (Int × Int × List Int × List Wv × Int × Int × List Int × List Int × List Int × Int × Int × Int × Int × Int × Int × Int))→Prop) n (st:St)=>∃q r u v w x b c d e f g h i j k l y,QbJ N o p n q r u v w x b c d e f g h i j k l=some y/\Q y/\((∃m a,st.n=90/\st.t 1=.ept 64 m 16 0 0/\st.t 2=.ept 128 a 16 0 0/\st.t 5=vu o/\st.t 6=s3 p/\st.t 7=vi q/\st.s 64=some (m,.arr true 237 16 [[vi r,vi u,s39 v,Yj w,vi x,vi b,s39 c,s3 d,s39 e,vi f,vi g,vi h,vi i,vi j,vi k,vi l]] 0)/\st.s 128=some (a,.arr true 237 16 [[vi 0,vi 0,.nsl,.nsl,vi 0,vi 0,.nsl,.nsl,.nsl,vi 0,vi 0,vi 0,vi 0,vi 0,vi 0,vi 0]] 0)))
abbrev QmT:=λN a (Q:(List Int × Int)→Prop) n (st:St)=>∃i k l m,Qa2 N a n i k l=some m/\Q m/\((∃g e,st.n=84/\st.t 1=.ept 64 g 16 0 0/\st.t 2=.ept 128 e 16 0 0/\st.t 3=vi i/\st.s 64=some (g,.arr true 237 16 [[vi a.h.c.W,vi a.h.c.p,s39 k,Yj a.h.p,vi a.h.s,vi a.h.b,s39 a.o,s3 a.t,s39 a.q,vi a.d,vi a.r.j,vi a.r.K,vi l,vi a.r.E,vi a.r.f,vi a.r.y]] 0)/\st.s 128=some (e,.arr true 237 16 [[vi 0,vi 0,.nsl,.nsl,vi 0,vi 0,.nsl,.nsl,.nsl,vi 0,vi 0,vi 0,vi 0,vi 0,vi 0,vi 0]] 0)))
abbrev Qka:=λN f (Q:(List Bool)→Prop) n (st:St)=>∃g d e h,Qdm N f n g d e=some h/\Q h/\((∃a b c,st.n=56/\st.s 768=some (a,.arr false 4 1 (d.map e4) 0)/\st.s 896=some (b,.arr false 39 1 (e.map e39) 0)/\st.t 1=.ept 64 c 10 0 0/\st.t 3=.osl 768 a 1 0 d.length/\st.t 4=.osl 896 b 1 0 e.length/\st.t 5=vi g/\st.s 64=some (c,.arr true 43 10 [e43 f] 0)))
abbrev QnT:=λN e b c f d (Q:(Ex Int Unit)→Prop) n (st:St)=>∃g h,Qgc N e b c f d n g=some h/\Q h/\((∃a,st.n=66/\st.t 8=.ept 512 a 4 0 0/\st.t 9=vi d/\st.t 54=.isl 114 4 (((e.drop (wI (b + 1)).toNat).take ((wI (b + d)).toNat - (wI (b + 1)).toNat)).map XU)/\st.t 55=vi (((min ((wI (b + d)).toNat - (wI (b + 1)).toNat) (e.length - (wI (b + 1)).toNat)):Nat):Int)/\st.t 56=vi g/\st.s 512=some (a,.arr true 356 4 [[vi f,vi c.s,vi c.u,vi c.P]] 0)))
abbrev QmU:=λN b (Q:(List Int)→Prop) n (st:St)=>∃d c f,QeK N b n d c=some f/\Q f/\((∃a,st.n=25/\st.s 1408=some (a,.arr false 39 1 (c.map e39) 0)/\st.t 3=.osl 1408 a 1 0 c.length/\st.t 10=s74 b.e/\st.t 11=vi b.e.length/\st.t 12=vi d)\/((st.n=25/\st.t 3=.nsl/\st.t 10=s74 b.e/\st.t 11=vi b.e.length/\st.t 12=vi d)/\c=[]))
abbrev Qf2:=λN a b (Q:(Ex Int Unit)→Prop) n (st:St)=>∃c d,Qaz N a b n c=some d/\Q d/\((st.n=19/\st.t 0=s39 a/\st.t 1=.clo (.func 132) [] [.ept 1000000 0 1 0 0]/\st.t 7=vi a.length/\st.t 8=vi c/\st.s 1000000=some (0,.arr true 24 1 [[s39 b]] 0)))
abbrev QmV:=λN b (Q:(List Int)→Prop) n (st:St)=>∃d c e,QeL N b n d c=some e/\Q e/\((∃a,st.n=25/\st.s 1408=some (a,.arr false 39 1 (c.map e39) 0)/\st.t 3=.osl 1408 a 1 0 c.length/\st.t 10=s72 b.S/\st.t 11=vi b.S.length/\st.t 12=vi d)\/((st.n=25/\st.t 3=.nsl/\st.t 10=s72 b.S/\st.t 11=vi b.S.length/\st.t 12=vi d)/\c=[]))
abbrev Qjl:=λN a f (Q:(List Int × Int)→Prop) n (st:St)=>∃i k g l,Qc0 N a f n i k g=some l/\Q l/\((∃e,st.n=39/\st.s 2304=some (e,.arr false 39 1 (g.map e39) 0)/\st.t 0=.ept 1000000 0 16 0 0/\st.t 5=.osl 2304 e 1 0 g.length/\st.t 9=s39 f/\st.t 10=vi f.length/\st.t 11=vi i/\st.s 1000000=some (0,.arr true 371 16 [[vi a.h.c.W,vi a.h.c.p,s39 a.h.w,Yj a.h.p,vi a.h.s,vi a.h.b,s39 a.o,s3 a.t,s39 a.q,vi a.d,vi a.r.j,vi a.r.K,vi a.r.F,vi a.r.E,vi k,vi a.r.y]] 0))\/((st.n=39/\st.t 0=.ept 1000000 0 16 0 0/\st.t 5=.nsl/\st.t 9=s39 f/\st.t 10=vi f.length/\st.t 11=vi i/\st.s 1000000=some (0,.arr true 371 16 [[vi a.h.c.W,vi a.h.c.p,s39 a.h.w,Yj a.h.p,vi a.h.s,vi a.h.b,s39 a.o,s3 a.t,s39 a.q,vi a.d,vi a.r.j,vi a.r.K,vi a.r.F,vi a.r.E,vi k,vi a.r.y]] 0))/\g=[]))
def g23:(∀N a0 a1,OK (Qel N a0 a1) 183 [.agg (JC a0),s39 a1] [] (λr=>.tup [.agg (JC r.1),s39 r.2.1,vi r.2.2]) λr=>[])/\(∀N a0,OK (Qgr N a0) 249 [.agg (JC a0)] [] (λr=>.tup [.agg (JC r.1),.v (.bool r.2.1),vi r.2.2]) λr=>[])/\(∀N a0,OK (QfI N a0) 187 [.agg (JC a0)] [] (λr=>.agg (JC r)) λr=>[])/\(∀N a0,OK (QgB N a0) 112 [.agg (e43 a0)] [] (λr=>s4 r) λr=>[])/\(∀N a0 a1 a2,OK (QhO N a0 a1 a2) 294 [.agg (e23 a0),Yj a1,vi a2] [] (λr=>vi r) λr=>[])/\(∀N a0,OK (Qep N a0) 48 [.agg (e35 a0)] [] (λr=>s39 r) λr=>[])/\(∀N a0 c0,OK (Qbj N a0 c0) 210 [s39 a0,.clo (.func 132) [] [.ept 1000000 0 1 0 0]] [.arr true 24 1 [[s39 c0]] 0] (λr=>vi r) λr=>[.arr true 24 1 [[s39 c0]] 0])/\(∀N a0,OK (Qgw N a0) 135 [.agg (e32 a0)] [] (λr=>s39 r) λr=>[])/\(∀N a0 a1,OK (Qei N a0 a1) 338 [.ept 1000000 0 16 0 0,s39 a1] [.arr true 371 16 [[vi a0.h.c.W,vi a0.h.c.p,s39 a0.h.w,Yj a0.h.p,vi a0.h.s,vi a0.h.b,s39 a0.o,s3 a0.t,s39 a0.q,vi a0.d,vi a0.r.j,vi a0.r.K,vi a0.r.F,vi a0.r.E,vi a0.r.f,vi a0.r.y]] 0] (λr=>s39 r.1) λr=>[.arr true 371 16 [[vi r.2.h.c.W,vi r.2.h.c.p,s39 r.2.h.w,Yj r.2.h.p,vi r.2.h.s,vi r.2.h.b,s39 r.2.o,s3 r.2.t,s39 r.2.q,vi r.2.d,vi r.2.r.j,vi r.2.r.K,vi r.2.r.F,vi r.2.r.E,vi r.2.r.f,vi r.2.r.y]] 0]):=by
 refine⟨λN _ _=>rk Tryz.f183 ?_,λN _=>rk Tryz.f249 ?_,λN _=>rk Tryz.f187 ?_,λN _=>rk Tryz.f112 ?_,λN _ _ _=>rk Tryz.f294 ?_,λN _=>rk Tryz.f48 ?_,λN _ _=>rk Tryz.f210 ?_,λN _=>rk Tryz.f135 ?_,λN _ _=>rk Tryz.f338 ?_⟩<;>(rintro _ hw r hr C _ rfl hwf hf;have hse:=@Za _ hw;simp only[Tryz.f183,Tryz.f249,Tryz.f187,Tryz.f112,Tryz.f294,Tryz.f48,Tryz.f210,Tryz.f135,Tryz.f338,Option.get!];(first|rw[Qel]at hr|rw[Qgr]at hr|rw[QfI]at hr|rw[QgB]at hr|rw[QhO]at hr|rw[Qep]at hr|rw[Qbj]at hr|rw[Qgw]at hr|rw[Qei]at hr);repeat' first
 |(refine El.el hr ?_;clear hr;intro hr)
 |(with_reducible intro h;refine Xx hr h ?_;clear hr;intro hr)
 |with_reducible intro _
 |(refine Xn hr ?_;rintro rfl;have hr:=hk;clear hk)
 |simp only[go_sem,simprocAttr,E,hK,hl3,hl4,Xz,YL,YN,Xk,KJ,hse,Wl,Wn,Wz]
 |(with_reducible first|apply Xi|apply Xh|apply Xs|apply Xq|apply Xr)
 |((first|with_reducible refine Yo hr ag ?_ ?_|(with_reducible refine Ye hr ?_ ?_;rotate_left;intro p;rotate_right));(·simp only[go_sem,simprocAttr,hse,Wl,Wn,Wz]);intro hp hn hd hr;(try have hl3:=hd _ e3);(try simp only[go_sem,simprocAttr]at hl3);(try have hl4:=hd _ e4);(try simp only[go_sem,simprocAttr]at hl4);(try have Xz:=hd _ e39);(try simp only[go_sem,simprocAttr]at Xz);(try have YL:=hd _ e72);(try simp only[go_sem,simprocAttr]at YL);(try have YN:=hd _ e74);(try simp only[go_sem,simprocAttr]at YN);(try have Xk:=hd _ XU);(try simp only[go_sem,simprocAttr]at Xk);(try have KJ:=hd _ Xb5);(try simp only[go_sem,simprocAttr]at KJ))
 |(refine Xt ?_ ?_;.first|assumption|omega)
 |(with_reducible first|refine CallX.c ?_ _|refine OK.c hr hw ?_ (λy hr=>?_) _|refine IK hr hw ?_ (λy hr=>?_) _)
 |(with_reducible refine lp (QlE N _) hr N ?_ (λex hq hk=>⟨_,_,_,_,_,_,_,_,_,_,_,_,_,_,_,_,_,_,ex,hq,hk,?_⟩) _;clear hr;(try clear E);rintro n1 st ⟨v1,v2,v3,v4,v5,v6,v7,v8,v9,v10,v11,v12,v13,v14,v15,v16,v17,v18,ex,hr,hk,(⟨_,_,_,E⟩|⟨_,_,E,z0⟩)⟩<;>(try subst z0)<;>(obtain _|n1:=n1<;>rw[Qbn]at hr))
 |refine⟨_,WA _,_,_,_,_,_,_,_,_,_,_,_,_,_,_,_,_,_,_,_,hr,hk,?_⟩
 |(with_reducible refine lp (QmS N _ _) hr N ?_ (λex hq hk=>⟨_,_,_,_,_,_,_,_,_,_,_,_,_,_,_,_,_,ex,hq,hk,?_⟩) _;clear hr;(try clear E);rintro n1 st ⟨v4,v5,v6,v7,v8,v9,v10,v11,v12,v13,v14,v15,v16,v17,v18,v19,v20,ex,hr,hk,⟨_,_,E⟩⟩<;>(obtain _|n1:=n1<;>rw[QbJ]at hr))
 |refine⟨_,WA _,_,_,_,_,_,_,_,_,_,_,_,_,_,_,_,_,_,_,hr,hk,?_⟩
 |(with_reducible refine lp (QmT N _) hr N ?_ (λex hq hk=>⟨_,_,_,ex,hq,hk,?_⟩) _;clear hr;(try clear E);rintro n1 st ⟨v1,v2,v3,ex,hr,hk,⟨_,_,E⟩⟩<;>(obtain _|n1:=n1<;>rw[Qa2]at hr))
 |refine⟨_,WA _,_,_,_,_,hr,hk,?_⟩
 |(with_reducible refine lp (Qka N _) hr N ?_ (λex hq hk=>⟨_,_,_,ex,hq,hk,?_⟩) _;clear hr;(try clear E);rintro n1 st ⟨v3,v4,v5,ex,hr,hk,⟨_,_,_,E⟩⟩<;>(obtain _|n1:=n1<;>rw[Qdm]at hr))
 |(with_reducible refine lp (QnT N _ _ _ _ _) hr N ?_ (λex hq hk=>⟨_,ex,hq,hk,?_⟩) _;clear hr;(try clear E);rintro n1 st ⟨v7,ex,hr,hk,⟨_,E⟩⟩<;>(obtain _|n1:=n1<;>rw[Qgc]at hr))
 |refine⟨_,WA _,_,_,hr,hk,?_⟩
 |(with_reducible refine lp (QmU N _) hr N ?_ (λex hq hk=>⟨_,_,ex,hq,hk,?_⟩) _;clear hr;(try clear E);rintro n1 st ⟨v2,v3,ex,hr,hk,(⟨_,E⟩|⟨E,z0⟩)⟩<;>(try subst z0)<;>(obtain _|n1:=n1<;>rw[QeK]at hr))
 |refine⟨_,WA _,_,_,_,hr,hk,?_⟩
 |(with_reducible refine lp (Qf2 N _ _) hr N ?_ (λex hq hk=>⟨_,ex,hq,hk,?_⟩) _;clear hr;(try clear E);rintro n1 st ⟨v1,ex,hr,hk,E⟩<;>(obtain _|n1:=n1<;>rw[Qaz]at hr))
 |(with_reducible refine lp (QmV N _) hr N ?_ (λex hq hk=>⟨_,_,ex,hq,hk,?_⟩) _;clear hr;(try clear E);rintro n1 st ⟨v2,v3,ex,hr,hk,(⟨_,E⟩|⟨E,z0⟩)⟩<;>(try subst z0)<;>(obtain _|n1:=n1<;>rw[QeL]at hr))
 |(with_reducible refine lp (Qjl N _ _) hr N ?_ (λex hq hk=>⟨_,_,_,ex,hq,hk,?_⟩) _;clear hr;(try clear E);rintro n1 st ⟨v1,v2,v3,ex,hr,hk,(⟨_,E⟩|⟨E,z0⟩)⟩<;>(try subst z0)<;>(obtain _|n1:=n1<;>rw[Qc0]at hr))
 |refine dc 183 5 hf 9 [(0,30721,[[],[576]]),(0,5121,[[],[576]]),(0,3073,[[],[576]]),(6,1025,[[],[576]]),(14,1025,[[],[576]]),(31,1,[[],[576]]),(63,1,[[],[576]]),(127,393217,[[],[576]]),(127,327681,[[],[576]]),(127,196611,[[],[576]]),(0,523776,[[576],[]]),(1279,393216,[[576],[]]),(3583,262144,[]),(8191,0,[])] ?_
 |refine dc 183 8 hf 32 [(0,30,[[],[2240,2304]]),(0,13,[[],[2240]]),(0,3,[]),(4,3,[[2240],[]]),(14,1,[[2304],[]]),(31,0,[[128],[]]),(63,0,[])] ?_
 |refine dc 187 4 hf 4 [(0,4063232,[]),(1,4063232,[]),(3,4063232,[]),(0,638976,[]),(8,638976,[]),(0,507904,[]),(56,114688,[]),(120,114688,[]),(255,0,[]),(511,0,[]),(1023,50331648,[]),(1023,41943041,[]),(1023,25165827,[]),(2047,50331648,[]),(12287,33554432,[]),(32767,0,[])] ?_
 |refine dc 187 5 hf 30 [(0,2,[]),(0,1,[]),(3,0,[]),(7,0,[]),(15,0,[]),(31,3968,[]),(63,3968,[]),(31,608,[]),(159,608,[]),(31,480,[]),(927,96,[]),(1951,96,[]),(4095,0,[]),(8191,0,[])] ?_
 |refine dc 187 6 hf 7 [(0,8521215115265,[[],[448]]),(0,1236950581249,[[],[448]]),(2,1236950581249,[[],[448]]),(0,962072674305,[[],[448]]),(14,137438953473,[[],[448]]),(30,137438953473,[[],[448]]),(63,1,[[],[448]]),(0,17454747090944,[[448],[]]),(255,0,[[448],[]])] ?_
 |refine dc 187 8 hf 59 [(0,8184,[[],[4352]]),(1,8184,[[],[4352]]),(3,8184,[[],[4352]]),(0,7975,[[],[4352]]),(8,7975,[[],[4352]]),(0,7967,[[],[4352]]),(56,7943,[[],[4352]]),(120,7943,[[],[4352]]),(0,3327,[]),(256,3327,[[4352],[]]),(0,1023,[[],[4352]]),(1024,1023,[[],[4352]]),(3840,255,[[4352],[]]),(8191,0,[[4352],[]]),(16383,0,[]),(32767,32768,[]),(32767,212992,[[],[64]]),(65535,32768,[]),(196607,32768,[]),(458751,32768,[[64],[]])] ?_
 |refine dc 112 10 hf 43 [(0,2046,[]),(0,249,[]),(2,249,[]),(0,23,[]),(0,15,[]),(24,7,[]),(56,7,[]),(120,7,[]),(254,1,[]),(510,1,[]),(1022,1,[]),(2047,0,[[896],[]]),(4095,0,[])] ?_
 |refine dc 294 3 hf 26 [(0,0,[]),(1,0,[]),(3,0,[]),(7,0,[]),(15,0,[]),(31,0,[]),(63,0,[]),(127,0,[]),(255,0,[]),(511,48,[]),(1023,48,[]),(2047,48,[]),(4095,48,[]),(511,47,[]),(511,31,[]),(32767,0,[]),(65535,0,[]),(131071,0,[])] ?_
 |(refine Xn hr ?_;rintro rfl;with_reducible refine XK ?_)
 |exact Yr hr
 |((first|refine Xx (c:=true) hr rfl ?_|refine Xx (c:=false) hr rfl ?_|refine Xx hr ag ?_);intro hr)
 |(with_reducible refine Xu6 hr ?_ ?_<;>intro hK hr<;>try simp only[hK])
 |fail)
abbrev Qo0:=g23.1
abbrev Qqm:=g23.2.1
abbrev Qqn:=g23.2.2.1
abbrev QmW:=g23.2.2.2.1
abbrev Qq4:=g23.2.2.2.2.1
abbrev Qqo:=g23.2.2.2.2.2.1
abbrev Qgz:=g23.2.2.2.2.2.2.1
abbrev Qqp:=g23.2.2.2.2.2.2.2.1
abbrev Qkb:=g23.2.2.2.2.2.2.2.2
attribute [instance] Qo0 Qqm Qqn QmW Qq4 Qqo Qgz Qqp Qkb
instance QrF:∀N a0 a1,OK (Qha N a0 a1) 226 [.agg (e35 a0),vu a1] [] (λr=>.tup [.agg (e35 r.1),vi r.2.1,vi r.2.2.1,vi r.2.2.2]) λr=>[]:=by
 refineλN _ _=>rk Tryz.f226 ?_<;>(rintro _ hw r hr C _ rfl hwf hf;simp only[Tryz.f226,Option.get!];(rw[Qha]at hr);repeat' first
 |(refine El.el hr ?_;clear hr;intro hr)
 |(with_reducible intro h;refine Xx hr h ?_;clear hr;intro hr)
 |with_reducible intro _
 |simp only[go_sem,simprocAttr,XrL,List.set_set,YN]
 |(with_reducible first|apply Xi|apply Xh|apply Xs|apply Xq|apply Xr)
 |(with_reducible refine Xr5 hr ?_ ?_;(·first|(simp only[go_sem,simprocAttr];done)|(simp only[WR,Um,Ig,WO]<;>omega));intro p hp hn hd hx hr;(try have YN:=hd _ e74);(try simp only[go_sem,simprocAttr]at YN);(try have XrL:=hx _ e74);(try simp only[go_sem,simprocAttr]at XrL);(try simp only[WR,Um,Ig,WO]at hn))
 |(refine Xt ?_ ?_;.first|assumption|omega)
 |(with_reducible first|refine CallX.c ?_ _|refine OK.c hr hw ?_ (λy hr=>?_) _)
 |refine dc 226 12 hf 5 [(0,279223176896970752,[]),(0,274719577269600256,[[],[256]]),(0,13510798882111489,[[],[256]]),(4,13510798882111489,[[],[256]]),(12,13510798882111489,[[],[256]]),(28,13510798882111489,[[],[256]]),(1,279223176896970752,[[256],[]]),(67,270215977642229760,[]),(255,0,[]),(511,0,[])] ?_
 |(refine Xn hr ?_;rintro rfl;with_reducible refine XK ?_)
 |exact Yr hr
 |fail)
end Go.Sx
