import Derived.Test.YtgbmffljpneflaaGreatDoorBG17
set_option linter.all false
namespace Go.Sx
open Go.Proofs
set_option maxRecDepth 10000
set_option maxHeartbeats 100000000
abbrev QlL:=λN c (Q:(Ex Uh Unit)→Prop) n (st:St)=>∃d e,Qb6 N c n d=some e/\Q e/\((∃b a,st.n=65/\st.t 1=.ept 64 b 6 0 0/\st.t 2=.ept 128 a 3 0 0/\st.t 3=vi d/\st.s 64=some (b,.arr true 27 6 [e27 c] 0)/\st.s 128=some (a,.arr true 281 3 [[vi 0,vi 0,vu 0]] 0)))
abbrev QlM:=λN c (Q:Int→Prop) n (st:St)=>∃d e f,Qb7 N c n d e=some f/\Q f/\((∃b a,st.n=65/\st.t 1=.ept 64 b 6 0 0/\st.t 2=.ept 128 a 3 0 0/\st.t 6=vi d/\st.t 7=vi e/\st.s 64=some (b,.arr true 27 6 [e27 c] 0)/\st.s 128=some (a,.arr true 281 3 [[vi 0,vi 0,vu 0]] 0)))
abbrev Qm9:=λN e f c (Q:(List Int)→Prop) n (st:St)=>∃g d h,QeI N e f c n g d=some h/\Q h/\((∃a b,st.n=90/\st.s 2112=some (a,.arr false 39 1 (d.map e39) 0)/\st.t 2=.ept 128 b 6 0 0/\st.t 6=vu f.1/\st.t 8=.osl 2112 a 1 0 d.length/\st.t 44=s39 c.1/\st.t 45=vi c.1.length/\st.t 46=vi g/\st.s 128=some (b,.arr true 27 6 [e27 e] 0)))
abbrev QkL:=λN (Q:(Int × List UQ)→Prop) n (st:St)=>∃c d b e,QcW N n c d b=some e/\Q e/\((∃a,st.n=42/\st.s 512=some (a,.arr false 272 4 (b.map V1) 0)/\st.t 0=.osl 512 a 4 0 b.length/\st.t 1=.clo (.func 209) [] []/\st.t 5=vi c/\st.t 6=vi d))
abbrev QkM:=λN a b v (Q:(Int × Int × List Int × List Wv × Int × Int × Int)→Prop) n (st:St)=>∃c e g i k l m u w,QcY N a b v n c e g i k l m u=some w/\Q w/\((st.n=90/\st.t 0=.ept 1000000 0 16 0 0/\st.t 14=vi a.h.p.length/\st.t 15=vi v/\st.t 35=s39 b.1/\st.t 36=vi b.1.length/\st.t 37=vi c/\st.s 1000000=some (0,.arr true 371 16 [[vi e,vi g,s39 i,Yj k,vi l,vi m,s39 a.o,s3 a.t,s39 a.q,vi a.d,vi a.r.j,vi a.r.K,vi u,vi a.r.E,vi a.r.f,vi a.r.y]] 0)))
abbrev QkN:=λN a (Q:(Int × Int × List Int × List Wv × Int × Int × Int)→Prop) n (st:St)=>∃b c e g i k l m u,QdW N a n b c e g i k l m=some u/\Q u/\((st.n=90/\st.t 0=.ept 1000000 0 16 0 0/\st.t 14=vi a.h.p.length/\st.t 15=vi b/\st.s 1000000=some (0,.arr true 371 16 [[vi c,vi e,s39 g,Yj i,vi k,vi l,s39 a.o,s3 a.t,s39 a.q,vi a.d,vi a.r.j,vi a.r.K,vi m,vi a.r.E,vi a.r.f,vi a.r.y]] 0)))
def g34:(∀N a0,OK (Qhv N a0) 236 [.agg (e27 a0)] [] (λr=>.agg (Xp6 r)) λr=>[])/\(∀N a0 a1,OK (Qhj N a0 a1) 297 [.agg (e27 a0),vi a1] [] (λr=>.tup [vu r.1,.v (.bool r.2)]) λr=>[])/\(∀N a0,OK (QdU N a0) 130 [.agg (e27 a0)] [] (λr=>.tup [s39 r.1,vi r.2]) λr=>[])/\(∀N a0,OK (Qfp N a0) 339 [.ept 1000000 0 16 0 0] [.arr true 371 16 [[vi a0.h.c.W,vi a0.h.c.p,s39 a0.h.w,Yj a0.h.p,vi a0.h.s,vi a0.h.b,s39 a0.o,s3 a0.t,s39 a0.q,vi a0.d,vi a0.r.j,vi a0.r.K,vi a0.r.F,vi a0.r.E,vi a0.r.f,vi a0.r.y]] 0] (λr=>.tup []) λr=>[.arr true 371 16 [[vi r.h.c.W,vi r.h.c.p,s39 r.h.w,Yj r.h.p,vi r.h.s,vi r.h.b,s39 r.o,s3 r.t,s39 r.q,vi r.d,vi r.r.j,vi r.r.K,vi r.r.F,vi r.r.E,vi r.r.f,vi r.r.y]] 0]):=by
 refine⟨λN _=>rk Tryz.f236 ?_,λN _ _=>rk Tryz.f297 ?_,λN _=>rk Tryz.f130 ?_,λN _=>rk Tryz.f339 ?_⟩<;>(rintro _ hw r hr C _ rfl hwf hf;have hse:=@Za _ hw;simp only[Tryz.f236,Tryz.f297,Tryz.f130,Tryz.f339,Option.get!];(first|rw[Qhv]at hr|rw[Qhj]at hr|rw[QdU]at hr|rw[Qfp]at hr);repeat' first
 |(refine El.el hr ?_;clear hr;intro hr)
 |(with_reducible intro h;refine Xx hr h ?_;clear hr;intro hr)
 |with_reducible intro _
 |(refine Xn hr ?_;rintro rfl;have hr:=hk;clear hk)
 |simp only[go_sem,simprocAttr,E,Fq,Xz,Xk,Xbz,hse,Wl,Wn,Wz]
 |(with_reducible first|apply Xi|apply Xh|apply Xs|apply Xq|apply Xr)
 |((first|with_reducible refine Yo hr ag ?_ ?_|(with_reducible refine Ye hr ?_ ?_;rotate_left;intro p;rotate_right));(·simp only[go_sem,simprocAttr,hse,Wl,Wn,Wz]);intro hp hn hd hr;(try have Xz:=hd _ e39);(try simp only[go_sem,simprocAttr]at Xz);(try have Xk:=hd _ XU);(try simp only[go_sem,simprocAttr]at Xk);(try have Xbz:=hd _ V1);(try simp only[go_sem,simprocAttr]at Xbz))
 |(refine Xt ?_ ?_;.first|assumption|omega|(dsimp only at *;omega))
 |(refine CallX.inl (f:=208) 4400 (fn:=Tryz.f208) (rs:=[.tmp 4]) (nt:=42) 1000 ac (λx=>?_) _;simp only[Tryz.f208,Option.get!])
 |(with_reducible first|refine CallX.c ?_ _|refine OK.c hr hw ?_ (λy hr=>?_) _|refine IK hr hw ?_ (λy hr=>?_) _)
 |(with_reducible refine lp (QlL N _) hr N ?_ (λex hq hk=>⟨_,ex,hq,hk,?_⟩) _;clear hr;(try clear E);(try clear Fq);rintro n1 st ⟨v2,ex,hr,hk,⟨_,_,E⟩⟩<;>(obtain _|n1:=n1<;>rw[Qb6]at hr))
 |refine⟨_,WA _,_,_,hr,hk,?_⟩
 |(with_reducible refine lp (QlM N _) hr N ?_ (λex hq hk=>⟨_,_,ex,hq,hk,?_⟩) _;clear hr;(try clear E);(try clear Fq);rintro n2 st ⟨v6,v7,ex,hr,hk,⟨_,_,E⟩⟩<;>(obtain _|n2:=n2<;>rw[Qb7]at hr))
 |refine⟨_,WA _,_,_,_,hr,hk,?_⟩
 |(with_reducible refine lp (Qm9 N _ _ _) hr N ?_ (λex hq hk=>⟨_,_,ex,hq,hk,?_⟩) _;clear hr;(try clear E);(try clear Fq);rintro n1 st ⟨v5,v6,ex,hr,hk,⟨_,_,E⟩⟩<;>(obtain _|n1:=n1<;>rw[QeI]at hr))
 |(with_reducible refine lp (QkL N) hr N ?_ (λex hq hk=>⟨_,_,_,ex,hq,hk,?_⟩) _;clear hr;(try clear Fq);rintro n1 st ⟨v3,v4,v5,ex,hr,hk,⟨_,Fq⟩⟩<;>(obtain _|n1:=n1<;>rw[QcW]at hr))
 |refine⟨_,WA _,_,_,_,_,hr,hk,?_⟩
 |(with_reducible refine lp (QkM N _ _ _) hr N ?_ (λex hq hk=>⟨_,_,_,_,_,_,_,_,ex,hq,hk,?_⟩) _;clear hr;(try clear E);(try clear Fq);rintro n1 st ⟨v12,v13,v14,v15,v16,v17,v18,v19,ex,hr,hk,E⟩<;>(obtain _|n1:=n1<;>rw[QcY]at hr))
 |refine⟨_,WA _,_,_,_,_,_,_,_,_,_,hr,hk,?_⟩
 |(with_reducible refine lp (QkN N _) hr N ?_ (λex hq hk=>⟨_,_,_,_,_,_,_,_,ex,hq,hk,?_⟩) _;clear hr;(try clear E);(try clear Fq);rintro n2 st ⟨v1,v2,v3,v4,v5,v6,v7,v8,ex,hr,hk,E⟩<;>(obtain _|n2:=n2<;>rw[QdW]at hr))
 |refine dc 297 3 hf 10 [(0,1879048192,[]),(0,671088640,[]),(0,402653184,[]),(6,134217728,[]),(15,0,[]),(31,0,[]),(63,8589934592,[]),(63,4294967297,[]),(127,8589934592,[]),(511,0,[])] ?_
 |refine dc 339 12 hf 63 [(0,4093,[]),(0,450,[]),(2,450,[]),(6,450,[]),(14,450,[]),(0,446,[]),(0,126,[]),(64,126,[]),(254,2,[]),(510,2,[]),(1022,2050,[]),(1022,13314,[[],[1000000]]),(2047,2048,[]),(6143,2048,[]),(14335,2048,[[1000000],[]]),(32767,0,[])] ?_
 |(refine Xn hr ?_;rintro rfl;with_reducible refine XK ?_)
 |exact Yr hr
 |((first|refine Xx (c:=true) hr rfl ?_|refine Xx (c:=false) hr rfl ?_|refine Xx hr ag ?_);intro hr)
 |omega
 |fail)
abbrev Qpc:=g34.1
abbrev QqB:=g34.2.1
abbrev Qn2:=g34.2.2.1
abbrev Qn3:=g34.2.2.2
attribute [instance] Qpc QqB Qn2 Qn3
def g33:(∀N a0 a1 a2,OK (Qgg N a0 a1 a2) 218 [.agg (e27 a0),vu a1,vi a2] [] (λr=>.tup [vu r.1,vi r.2]) λr=>[])/\(∀N a0 a1 a2 a3,OK (QeC N a0 a1 a2 a3) 220 [.agg (e27 a0),vu a1,vi a2,vu a3] [] (λr=>.tup [.agg (e27 r.1),vi r.2]) λr=>[]):=by
 refine⟨λN _ _ _=>rk Tryz.f218 ?_,λN _ _ _ _=>rk Tryz.f220 ?_⟩<;>(rintro _ hw r hr C _ rfl hwf hf;simp only[Tryz.f218,Tryz.f220,Option.get!];(first|rw[Qgg]at hr|rw[QeC]at hr);repeat' first
 |(refine El.el hr ?_;clear hr;intro hr)
 |(with_reducible intro h;refine Xx hr h ?_;clear hr;intro hr)
 |with_reducible intro _
 |simp only[go_sem,simprocAttr]
 |(with_reducible first|apply Xi|apply Xh|apply Xs)
 |(refine Xt ?_ ?_;.first|assumption|omega)
 |(with_reducible first|refine CallX.c ?_ _|refine OK.c hr hw ?_ (λy hr=>?_) _)
 |(refine Xn hr ?_;rintro rfl;with_reducible refine XK ?_)
 |exact Yr hr
 |fail)
abbrev Qn4:=g33.1
abbrev QkO:=g33.2
attribute [instance] Qn4 QkO
end Go.Sx
