import Derived.Test.YtmpbhfnjjaocoaaGreatAG19
set_option linter.all false
namespace Go.Sx
open Go.Proofs
set_option maxRecDepth 10000
set_option maxHeartbeats 100000000
abbrev QkF:=λN a0 (Q:(Ex Uc Unit)→Prop) n (st:St)=>∃v2 ex,QbK N a0 n v2=some ex/\Q ex/\((∃w64 w128,st.n=65/\st.t 1=.ept 64 w64 6 0 0/\st.t 2=.ept 128 w128 3 0 0/\st.t 3=vi v2/\st.s 64=some (w64,.arr true 27 6 [e27 a0] 0)/\st.s 128=some (w128,.arr true 296 3 [[vi 0,vi 0,vu 0]] 0)))
abbrev QkG:=λN a0 (Q:Int→Prop) n (st:St)=>∃v6 v7 ex,QbL N a0 n v6 v7=some ex/\Q ex/\((∃w64 w128,st.n=65/\st.t 1=.ept 64 w64 6 0 0/\st.t 2=.ept 128 w128 3 0 0/\st.t 6=vi v6/\st.t 7=vi v7/\st.s 64=some (w64,.arr true 27 6 [e27 a0] 0)/\st.s 128=some (w128,.arr true 296 3 [[vi 0,vi 0,vu 0]] 0)))
abbrev QlY:=λN a0 y1 y4 (Q:(List Int)→Prop) n (st:St)=>∃v5 v6 ex,Qd2 N a0 y1 y4 n v5 v6=some ex/\Q ex/\((∃w2112 w128,st.n=90/\st.s 2112=some (w2112,.arr false 58 1 (v6.map e58) 0)/\st.t 2=.ept 128 w128 6 0 0/\st.t 6=vu y1.1/\st.t 8=.osl 2112 w2112 1 0 v6.length/\st.t 44=s58 y4.1/\st.t 45=vi y4.1.length/\st.t 46=vi v5/\st.s 128=some (w128,.arr true 27 6 [e27 a0] 0)))
abbrev QjF:=λN (Q:(Int × List UJ)→Prop) n (st:St)=>∃v3 v4 v5 ex,Qcm N n v3 v4 v5=some ex/\Q ex/\((∃w512,st.n=42/\st.s 512=some (w512,.arr false 281 4 (v5.map Vw) 0)/\st.t 0=.osl 512 w512 4 0 v5.length/\st.t 1=.clo (.func 201) [] []/\st.t 5=vi v3/\st.t 6=vi v4))
abbrev QjG:=λN a0 y10 v1 (Q:(Int × Int × List Int × List Wt × Int × Int × Int)→Prop) n (st:St)=>∃v12 v13 v14 v15 v16 v17 v18 v19 ex,Qcn N a0 y10 v1 n v12 v13 v14 v15 v16 v17 v18 v19=some ex/\Q ex/\((st.n=90/\st.t 0=.ept 1000000 0 16 0 0/\st.t 14=vi a0.h.p.length/\st.t 15=vi v1/\st.t 35=s58 y10.1/\st.t 36=vi y10.1.length/\st.t 37=vi v12/\st.s 1000000=some (0,.arr true 123 16 [[vi v13,vi v14,s58 v15,Yg v16,vi v17,vi v18,s58 a0.o,s3 a0.t,s58 a0.q,vi a0.d,vi a0.r.j,vi a0.r.K,vi v19,vi a0.r.E,vi a0.r.f,vi a0.r.y]] 0)))
abbrev QjH:=λN a0 (Q:(Int × Int × List Int × List Wt × Int × Int × Int)→Prop) n (st:St)=>∃v1 v2 v3 v4 v5 v6 v7 v8 ex,Qdc N a0 n v1 v2 v3 v4 v5 v6 v7 v8=some ex/\Q ex/\((st.n=90/\st.t 0=.ept 1000000 0 16 0 0/\st.t 14=vi a0.h.p.length/\st.t 15=vi v1/\st.s 1000000=some (0,.arr true 123 16 [[vi v2,vi v3,s58 v4,Yg v5,vi v6,vi v7,s58 a0.o,s3 a0.t,s58 a0.q,vi a0.d,vi a0.r.j,vi a0.r.K,vi v8,vi a0.r.E,vi a0.r.f,vi a0.r.y]] 0)))
def g32:(∀N a0,OK (QgJ N a0) 217 [.agg (e27 a0)] [] (λr=>.agg (XoX r)) λr=>[])/\(∀N a0 a1,OK (Qgw N a0 a1) 302 [.agg (e27 a0),vi a1] [] (λr=>.tup [vu r.1,.v (.bool r.2)]) λr=>[])/\(∀N a0,OK (QdO N a0) 118 [.agg (e27 a0)] [] (λr=>.tup [s58 r.1,vi r.2]) λr=>[])/\(∀N a0,OK (QeF N a0) 62 [.ept 1000000 0 16 0 0] [.arr true 123 16 [[vi a0.h.c.W,vi a0.h.c.p,s58 a0.h.w,Yg a0.h.p,vi a0.h.s,vi a0.h.b,s58 a0.o,s3 a0.t,s58 a0.q,vi a0.d,vi a0.r.j,vi a0.r.K,vi a0.r.F,vi a0.r.E,vi a0.r.f,vi a0.r.y]] 0] (λr=>.tup []) λr=>[.arr true 123 16 [[vi r.h.c.W,vi r.h.c.p,s58 r.h.w,Yg r.h.p,vi r.h.s,vi r.h.b,s58 r.o,s3 r.t,s58 r.q,vi r.d,vi r.r.j,vi r.r.K,vi r.r.F,vi r.r.E,vi r.r.f,vi r.r.y]] 0]):=by
 refine⟨λN _=>rk Tryz.f217 [.cell 2 296] [] 65 ?_,λN _ _=>rk Tryz.f302 [.tmp 4,.tmp 5] [] 90 ?_,λN _=>rk Tryz.f118 [.tmp 2,.tmp 3] [] 17 ?_,λN _=>rk Tryz.f62 [] [] 90 ?_⟩<;>(rintro _ hw r hr C _ rfl hwf hf;have hse:=@Zw _ hw;simp only[Tryz.f217,Tryz.f302,Tryz.f118,Tryz.f62,Option.get!];(first|rw[QgJ]at hr|rw[Qgw]at hr|rw[QdO]at hr|rw[QeF]at hr);repeat' first
 |(refine El.el hr ?_;clear hr;intro hr)
 |(with_reducible intro h;refine XB hr h ?_;clear hr;intro hr)
 |with_reducible intro _
 |(refine Xn hr ?_;rintro rfl;have hr:=hk;clear hk)
 |simp only[go_sem,simprocAttr,E,Fq,Xu,Xj,XaK,hse,Wj,Wl,WA]
 |(with_reducible first|apply Xi|apply Xh|apply Xs|apply Xq|apply Xr)
 |((first|with_reducible refine Yq hr ag ?_ ?_|(with_reducible refine Yn hr ?_ ?_;rotate_left;intro p;rotate_right));(·simp only[go_sem,simprocAttr,hse,Wj,Wl,WA]);intro hp hn hd hr;(try have Xu:=hd _ e58);(try simp only[go_sem,simprocAttr]at Xu);(try have Xj:=hd _ XS);(try simp only[go_sem,simprocAttr]at Xj);(try have XaK:=hd _ Vw);(try simp only[go_sem,simprocAttr]at XaK))
 |(refine Xt ?_ ?_;.first|assumption|omega|(dsimp only at *;omega))
 |(refine CallX.inl (f:=200) 4400 (fn:=Tryz.f200) (rs:=[.tmp 4]) (nt:=42) 1000 ac (λx=>?_) _;simp only[Tryz.f200,Option.get!])
 |(with_reducible first|refine CallX.c ?_ _|refine OK.c hr hw ?_ (λy hr=>?_) _|refine IM hr hw ?_ (λy hr=>?_) _)
 |(with_reducible refine lp (QkF N _) hr N ?_ (λex hq hk=>⟨_,ex,hq,hk,?_⟩) _;clear hr;(try clear E);(try clear Fq);rintro n1 st ⟨v2,ex,hr,hk,⟨_,_,E⟩⟩<;>(obtain _|n1:=n1<;>rw[QbK]at hr))
 |refine⟨_,Wz _,_,_,hr,hk,?_⟩
 |(with_reducible refine lp (QkG N _) hr N ?_ (λex hq hk=>⟨_,_,ex,hq,hk,?_⟩) _;clear hr;(try clear E);(try clear Fq);rintro n2 st ⟨v6,v7,ex,hr,hk,⟨_,_,E⟩⟩<;>(obtain _|n2:=n2<;>rw[QbL]at hr))
 |refine⟨_,Wz _,_,_,_,hr,hk,?_⟩
 |(with_reducible refine lp (QlY N _ _ _) hr N ?_ (λex hq hk=>⟨_,_,ex,hq,hk,?_⟩) _;clear hr;(try clear E);(try clear Fq);rintro n1 st ⟨v5,v6,ex,hr,hk,⟨_,_,E⟩⟩<;>(obtain _|n1:=n1<;>rw[Qd2]at hr))
 |(with_reducible refine lp (QjF N) hr N ?_ (λex hq hk=>⟨_,_,_,ex,hq,hk,?_⟩) _;clear hr;(try clear Fq);rintro n1 st ⟨v3,v4,v5,ex,hr,hk,⟨_,Fq⟩⟩<;>(obtain _|n1:=n1<;>rw[Qcm]at hr))
 |refine⟨_,Wz _,_,_,_,_,hr,hk,?_⟩
 |(with_reducible refine lp (QjG N _ _ _) hr N ?_ (λex hq hk=>⟨_,_,_,_,_,_,_,_,ex,hq,hk,?_⟩) _;clear hr;(try clear E);(try clear Fq);rintro n1 st ⟨v12,v13,v14,v15,v16,v17,v18,v19,ex,hr,hk,E⟩<;>(obtain _|n1:=n1<;>rw[Qcn]at hr))
 |refine⟨_,Wz _,_,_,_,_,_,_,_,_,_,hr,hk,?_⟩
 |(with_reducible refine lp (QjH N _) hr N ?_ (λex hq hk=>⟨_,_,_,_,_,_,_,_,ex,hq,hk,?_⟩) _;clear hr;(try clear E);(try clear Fq);rintro n2 st ⟨v1,v2,v3,v4,v5,v6,v7,v8,ex,hr,hk,E⟩<;>(obtain _|n2:=n2<;>rw[Qdc]at hr))
 |refine dc 302 3 hf 10 [(0,1879048192,[]),(0,671088640,[]),(0,402653184,[]),(6,134217728,[]),(15,0,[]),(31,0,[]),(63,8589934592,[]),(63,4294967297,[]),(127,8589934592,[]),(511,0,[])] ?_
 |refine dc 62 12 hf 63 [(0,4093,[]),(0,450,[]),(2,450,[]),(6,450,[]),(14,450,[]),(0,446,[]),(0,126,[]),(64,126,[]),(254,2,[]),(510,2,[]),(1022,2050,[]),(1022,13314,[[],[1000000]]),(2047,2048,[]),(6143,2048,[]),(14335,2048,[[1000000],[]]),(32767,0,[])] ?_
 |(refine Xn hr ?_;rintro rfl;with_reducible refine XP ?_)
 |exact Yw hr
 |((first|refine XB (c:=true) hr rfl ?_|refine XB (c:=false) hr rfl ?_|refine XB hr ag ?_);intro hr)
 |omega
 |fail)
abbrev QnT:=g32.1
abbrev Qpc:=g32.2.1
abbrev QmM:=g32.2.2.1
abbrev QmN:=g32.2.2.2
attribute [instance] QnT Qpc QmM QmN
end Go.Sx
