import Derived.Test.YtgbmffljpneflaaGreatDoorSG18
set_option linter.all false
namespace Go.Sx
open Go.Proofs
set_option maxRecDepth 10000
set_option maxHeartbeats 100000000
abbrev Qlz:=λN c (Q:(Ex Ud Unit)→Prop) n (st:St)=>∃d e,QbY N c n d=some e/\Q e/\((∃b a,st.n=65/\st.t 1=.ept 64 b 6 0 0/\st.t 2=.ept 128 a 3 0 0/\st.t 3=vi d/\st.s 64=some (b,.arr true 27 6 [e27 c] 0)/\st.s 128=some (a,.arr true 281 3 [[vi 0,vi 0,vu 0]] 0)))
abbrev QlA:=λN c (Q:Int→Prop) n (st:St)=>∃d e f,QbZ N c n d e=some f/\Q f/\((∃b a,st.n=65/\st.t 1=.ept 64 b 6 0 0/\st.t 2=.ept 128 a 3 0 0/\st.t 6=vi d/\st.t 7=vi e/\st.s 64=some (b,.arr true 27 6 [e27 c] 0)/\st.s 128=some (a,.arr true 281 3 [[vi 0,vi 0,vu 0]] 0)))
abbrev QmW:=λN e f c (Q:(List Int)→Prop) n (st:St)=>∃g d h,QeA N e f c n g d=some h/\Q h/\((∃a b,st.n=90/\st.s 2112=some (a,.arr false 39 1 (d.map e39) 0)/\st.t 2=.ept 128 b 6 0 0/\st.t 6=vu f.1/\st.t 8=.osl 2112 a 1 0 d.length/\st.t 44=s39 c.1/\st.t 45=vi c.1.length/\st.t 46=vi g/\st.s 128=some (b,.arr true 27 6 [e27 e] 0)))
abbrev Qkz:=λN (Q:(Int × List UN)→Prop) n (st:St)=>∃c d b e,QcI N n c d b=some e/\Q e/\((∃a,st.n=42/\st.s 512=some (a,.arr false 272 4 (b.map VQ) 0)/\st.t 0=.osl 512 a 4 0 b.length/\st.t 1=.clo (.func 209) [] []/\st.t 5=vi c/\st.t 6=vi d))
abbrev QkA:=λN a b v (Q:(Int × Int × List Int × List Wv × Int × Int × Int)→Prop) n (st:St)=>∃c e g i k l m u w,QcK N a b v n c e g i k l m u=some w/\Q w/\((st.n=90/\st.t 0=.ept 1000000 0 16 0 0/\st.t 14=vi a.h.p.length/\st.t 15=vi v/\st.t 35=s39 b.1/\st.t 36=vi b.1.length/\st.t 37=vi c/\st.s 1000000=some (0,.arr true 371 16 [[vi e,vi g,s39 i,Ya k,vi l,vi m,s39 a.o,s3 a.t,s39 a.q,vi a.d,vi a.r.j,vi a.r.K,vi u,vi a.r.E,vi a.r.f,vi a.r.y]] 0)))
abbrev QkB:=λN a (Q:(Int × Int × List Int × List Wv × Int × Int × Int)→Prop) n (st:St)=>∃b c e g i k l m u,QdM N a n b c e g i k l m=some u/\Q u/\((st.n=90/\st.t 0=.ept 1000000 0 16 0 0/\st.t 14=vi a.h.p.length/\st.t 15=vi b/\st.s 1000000=some (0,.arr true 371 16 [[vi c,vi e,s39 g,Ya i,vi k,vi l,s39 a.o,s3 a.t,s39 a.q,vi a.d,vi a.r.j,vi a.r.K,vi m,vi a.r.E,vi a.r.f,vi a.r.y]] 0)))
def g34:(∀N a0,OK (Qho N a0) 236 [.agg (e27 a0)] [] (λr=>.agg (Xo6 r)) λr=>[])/\(∀N a0 a1,OK (Qhc N a0 a1) 297 [.agg (e27 a0),vi a1] [] (λr=>.tup [vu r.1,.v (.bool r.2)]) λr=>[])/\(∀N a0,OK (QdK N a0) 130 [.agg (e27 a0)] [] (λr=>.tup [s39 r.1,vi r.2]) λr=>[])/\(∀N a0,OK (Qfh N a0) 339 [.ept 1000000 0 16 0 0] [.arr true 371 16 [[vi a0.h.c.W,vi a0.h.c.p,s39 a0.h.w,Ya a0.h.p,vi a0.h.s,vi a0.h.b,s39 a0.o,s3 a0.t,s39 a0.q,vi a0.d,vi a0.r.j,vi a0.r.K,vi a0.r.F,vi a0.r.E,vi a0.r.f,vi a0.r.y]] 0] (λr=>.tup []) λr=>[.arr true 371 16 [[vi r.h.c.W,vi r.h.c.p,s39 r.h.w,Ya r.h.p,vi r.h.s,vi r.h.b,s39 r.o,s3 r.t,s39 r.q,vi r.d,vi r.r.j,vi r.r.K,vi r.r.F,vi r.r.E,vi r.r.f,vi r.r.y]] 0]):=by
 refine⟨λN _=>rk Tryz.f236 ?_,λN _ _=>rk Tryz.f297 ?_,λN _=>rk Tryz.f130 ?_,λN _=>rk Tryz.f339 ?_⟩<;>(rintro _ hw r hr C _ rfl hwf hf;have hse:=@Zn _ hw;simp only[Tryz.f236,Tryz.f297,Tryz.f130,Tryz.f339,Option.get!];(first|rw[Qho]at hr|rw[Qhc]at hr|rw[QdK]at hr|rw[Qfh]at hr);repeat' first
 |(refine El.el hr ?_;clear hr;intro hr)
 |(with_reducible intro h;refine Xv hr h ?_;clear hr;intro hr)
 |with_reducible intro _
 |(refine Xm hr ?_;rintro rfl;have hr:=hk;clear hk)
 |simp only[go_sem,simprocAttr,E,Fq,Xw,Xk,Xbk,hse,Wj,Wl,Ww]
 |(with_reducible first|apply Xi|apply Xh|apply Xo|apply Xr|apply Xs)
 |((first|with_reducible refine Yn hr ag ?_ ?_|(with_reducible refine Yj hr ?_ ?_;rotate_left;intro p;rotate_right));(·simp only[go_sem,simprocAttr,hse,Wj,Wl,Ww]);intro hp hn hd hr;(try have Xw:=hd _ e39);(try simp only[go_sem,simprocAttr]at Xw);(try have Xk:=hd _ XW);(try simp only[go_sem,simprocAttr]at Xk);(try have Xbk:=hd _ VQ);(try simp only[go_sem,simprocAttr]at Xbk))
 |(refine Xp ?_ ?_;.first|assumption|omega|(dsimp only at *;omega))
 |(refine CallX.inl (f:=208) 4400 (fn:=Tryz.f208) (rs:=[.tmp 4]) (nt:=42) 1000 ac (λx=>?_) _;simp only[Tryz.f208,Option.get!])
 |(with_reducible first|refine CallX.c ?_ _|refine OK.c hr hw ?_ (λy hr=>?_) _|refine IK hr hw ?_ (λy hr=>?_) _)
 |(with_reducible refine lp (Qlz N _) hr N ?_ (λex hq hk=>⟨_,ex,hq,hk,?_⟩) _;clear hr;(try clear E);(try clear Fq);rintro n1 st ⟨v2,ex,hr,hk,⟨_,_,E⟩⟩<;>(obtain _|n1:=n1<;>rw[QbY]at hr))
 |refine⟨_,WA _,_,_,hr,hk,?_⟩
 |(with_reducible refine lp (QlA N _) hr N ?_ (λex hq hk=>⟨_,_,ex,hq,hk,?_⟩) _;clear hr;(try clear E);(try clear Fq);rintro n2 st ⟨v6,v7,ex,hr,hk,⟨_,_,E⟩⟩<;>(obtain _|n2:=n2<;>rw[QbZ]at hr))
 |refine⟨_,WA _,_,_,_,hr,hk,?_⟩
 |(with_reducible refine lp (QmW N _ _ _) hr N ?_ (λex hq hk=>⟨_,_,ex,hq,hk,?_⟩) _;clear hr;(try clear E);(try clear Fq);rintro n1 st ⟨v5,v6,ex,hr,hk,⟨_,_,E⟩⟩<;>(obtain _|n1:=n1<;>rw[QeA]at hr))
 |(with_reducible refine lp (Qkz N) hr N ?_ (λex hq hk=>⟨_,_,_,ex,hq,hk,?_⟩) _;clear hr;(try clear Fq);rintro n1 st ⟨v3,v4,v5,ex,hr,hk,⟨_,Fq⟩⟩<;>(obtain _|n1:=n1<;>rw[QcI]at hr))
 |refine⟨_,WA _,_,_,_,_,hr,hk,?_⟩
 |(with_reducible refine lp (QkA N _ _ _) hr N ?_ (λex hq hk=>⟨_,_,_,_,_,_,_,_,ex,hq,hk,?_⟩) _;clear hr;(try clear E);(try clear Fq);rintro n1 st ⟨v12,v13,v14,v15,v16,v17,v18,v19,ex,hr,hk,E⟩<;>(obtain _|n1:=n1<;>rw[QcK]at hr))
 |refine⟨_,WA _,_,_,_,_,_,_,_,_,_,hr,hk,?_⟩
 |(with_reducible refine lp (QkB N _) hr N ?_ (λex hq hk=>⟨_,_,_,_,_,_,_,_,ex,hq,hk,?_⟩) _;clear hr;(try clear E);(try clear Fq);rintro n2 st ⟨v1,v2,v3,v4,v5,v6,v7,v8,ex,hr,hk,E⟩<;>(obtain _|n2:=n2<;>rw[QdM]at hr))
 |refine dc 297 3 hf 10 [(0,1879048192,[]),(0,671088640,[]),(0,402653184,[]),(6,134217728,[]),(15,0,[]),(31,0,[]),(63,8589934592,[]),(63,4294967297,[]),(127,8589934592,[]),(511,0,[])] ?_
 |refine dc 339 12 hf 63 [(0,4093,[]),(0,450,[]),(2,450,[]),(6,450,[]),(14,450,[]),(0,446,[]),(0,126,[]),(64,126,[]),(254,2,[]),(510,2,[]),(1022,2050,[]),(1022,13314,[[],[1000000]]),(2047,2048,[]),(6143,2048,[]),(14335,2048,[[1000000],[]]),(32767,0,[])] ?_
 |(refine Xm hr ?_;rintro rfl;with_reducible refine XI ?_)
 |exact Ym hr
 |((first|refine Xv (c:=true) hr rfl ?_|refine Xv (c:=false) hr rfl ?_|refine Xv hr ag ?_);intro hr)
 |omega
 |fail)
abbrev QoZ:=g34.1
abbrev Qqm:=g34.2.1
abbrev QnP:=g34.2.2.1
abbrev QnQ:=g34.2.2.2
attribute [instance] QoZ Qqm QnP QnQ
def g33:(∀N a0 a1 a2,OK (Qga N a0 a1 a2) 218 [.agg (e27 a0),vu a1,vi a2] [] (λr=>.tup [vu r.1,vi r.2]) λr=>[])/\(∀N a0 a1 a2 a3,OK (Qeu N a0 a1 a2 a3) 220 [.agg (e27 a0),vu a1,vi a2,vu a3] [] (λr=>.tup [.agg (e27 r.1),vi r.2]) λr=>[]):=by
 refine⟨λN _ _ _=>rk Tryz.f218 ?_,λN _ _ _ _=>rk Tryz.f220 ?_⟩<;>(rintro _ hw r hr C _ rfl hwf hf;simp only[Tryz.f218,Tryz.f220,Option.get!];(first|rw[Qga]at hr|rw[Qeu]at hr);repeat' first
 |(refine El.el hr ?_;clear hr;intro hr)
 |(with_reducible intro h;refine Xv hr h ?_;clear hr;intro hr)
 |with_reducible intro _
 |simp only[go_sem,simprocAttr]
 |(with_reducible first|apply Xi|apply Xh|apply Xo)
 |(refine Xp ?_ ?_;.first|assumption|omega)
 |(with_reducible first|refine CallX.c ?_ _|refine OK.c hr hw ?_ (λy hr=>?_) _)
 |(refine Xm hr ?_;rintro rfl;with_reducible refine XI ?_)
 |exact Ym hr
 |fail)
abbrev QnR:=g33.1
abbrev QkC:=g33.2
attribute [instance] QnR QkC
end Go.Sx
