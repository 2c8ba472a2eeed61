import Derived.Test.YtlneiohchomcfaaGreatDoorSG7
set_option linter.all false
namespace Go.Sx
open Go.Proofs Tryz
set_option maxRecDepth 10000
set_option maxHeartbeats 100000000
abbrev Qjt:=λN g Q n (st:St)=>∃h i j k l v6 v7 v8 v9 v10 v11 d v13 e v15 f v17 v18,Iv (Qa8 N g n h i j k l v6 v7 v8 v9 v10 v11 d v13 e v15 f v17 v18) Q ((∃c a b,st.n=39/\st.s 2304=some (c,.arr false 49 1 (v18.map e49) 0)/\st.t 1=s49 g/\st.t 2=.ept 128 a 16 0 0/\st.t 4=.ept 256 b 16 0 0/\st.t 7=.osl 2304 c 1 0 v18.length/\st.t 8=vi h/\st.s 128=some (a,.arr true 147 16 [[vi i,vi j,s49 k,YB l,vi v6,vi v7,s49 v8,s3 v9,s49 v10,vi v11,vi d,vi v13,vi e,vi v15,vi f,vi v17]] 0)/\st.s 256=some (b,.arr true 147 16 [[vi 0,vi 0,.nsl,.nsl,vi 0,vi 0,.nsl,.nsl,.nsl,vi 0,vi 0,vi 0,vi 0,vi 0,vi 0,vi 0]] 0))\/(∃a b,(st.n=39/\st.t 1=s49 g/\st.t 2=.ept 128 a 16 0 0/\st.t 4=.ept 256 b 16 0 0/\st.t 7=.nsl/\st.t 8=vi h/\st.s 128=some (a,.arr true 147 16 [[vi i,vi j,s49 k,YB l,vi v6,vi v7,s49 v8,s3 v9,s49 v10,vi v11,vi d,vi v13,vi e,vi v15,vi f,vi v17]] 0)/\st.s 256=some (b,.arr true 147 16 [[vi 0,vi 0,.nsl,.nsl,vi 0,vi 0,.nsl,.nsl,.nsl,vi 0,vi 0,vi 0,vi 0,vi 0,vi 0,vi 0]] 0))/\v18=[]))
abbrev Qkr:=λN f g Q n (st:St)=>∃h i v6 v7 v8 v9 v10 v11 b v13 c v15 d v17 v18 v19 v20,Iv (Qbm N f g n h i v6 v7 v8 v9 v10 v11 b v13 c v15 d v17 v18 v19 v20) Q ((∃e a,st.n=90/\st.t 1=.ept 64 e 16 0 0/\st.t 2=.ept 128 a 16 0 0/\st.t 5=vu f/\st.t 6=s3 g/\st.t 7=vi h/\st.s 64=some (e,.arr true 147 16 [[vi i,vi v6,s49 v7,YB v8,vi v9,vi v10,s49 v11,s3 b,s49 v13,vi c,vi v15,vi d,vi v17,vi v18,vi v19,vi v20]] 0)/\st.s 128=some (a,.arr true 147 16 [[vi 0,vi 0,.nsl,.nsl,vi 0,vi 0,.nsl,.nsl,.nsl,vi 0,vi 0,vi 0,vi 0,vi 0,vi 0,vi 0]] 0)))
abbrev Qks:=λN a Q n (st:St)=>∃i k l,Iv (QaI N a n i k l) Q ((∃g e,st.n=84/\st.t 1=.ept 64 g 16 0 0/\st.t 2=.ept 128 e 16 0 0/\st.t 3=vi i/\st.s 64=some (g,.arr true 147 16 [[vi a.h.c.W,vi a.h.c.p,s49 k,YB a.h.p,vi a.h.s,vi a.h.b,s49 a.o,s3 a.t,s49 a.q,vi a.d,vi a.r.j,vi a.r.K,vi l,vi a.r.E,vi a.r.f,vi a.r.y]] 0)/\st.s 128=some (e,.arr true 147 16 [[vi 0,vi 0,.nsl,.nsl,vi 0,vi 0,.nsl,.nsl,.nsl,vi 0,vi 0,vi 0,vi 0,vi 0,vi 0,vi 0]] 0)))
abbrev Qid:=λN f Q n (st:St)=>∃g d e,Iv (Qc1 N f n g d e) Q ((∃a b c,st.n=56/\st.s 768=some (a,.arr false 4 1 (d.map e4) 0)/\st.s 896=some (b,.arr false 49 1 (e.map e49) 0)/\st.t 1=.ept 64 c 10 0 0/\st.t 3=.osl 768 a 1 0 d.length/\st.t 4=.osl 896 b 1 0 e.length/\st.t 5=vi g/\st.s 64=some (c,.arr true 42 10 [e42 f] 0)))
abbrev Qlj:=λN e b c f d Q n (st:St)=>∃v7,Iv (Qfy N e b c f d n v7) Q ((∃a,st.n=66/\st.t 8=.ept 512 a 4 0 0/\st.t 9=vi d/\st.t 54=.isl 139 4 (((e.drop (wI (b + 1)).toNat).take ((wI (b + d)).toNat - (wI (b + 1)).toNat)).map X0)/\st.t 55=vi (((min ((wI (b + d)).toNat - (wI (b + 1)).toNat) (e.length - (wI (b + 1)).toNat)):Nat):Int)/\st.t 56=vi v7/\st.s 512=some (a,.arr true 360 4 [[vi f,vi c.s,vi c.u,vi c.P]] 0)))
abbrev Qkt:=λN b Q n (st:St)=>∃d c,Iv (Qei N b n d c) Q ((∃a,st.n=25/\st.s 1408=some (a,.arr false 49 1 (c.map e49) 0)/\st.t 3=.osl 1408 a 1 0 c.length/\st.t 10=JU b.e/\st.t 11=vi b.e.length/\st.t 12=vi d)\/((st.n=25/\st.t 3=.nsl/\st.t 10=JU b.e/\st.t 11=vi b.e.length/\st.t 12=vi d)/\c=[]))
abbrev Qfp:=λN a c0 Q n (st:St)=>∃b,Iv (Qav N a c0 n b) Q ((st.n=19/\st.t 0=s49 a/\st.t 1=.clo (.func 132) [] [.ept 1000000 0 1 0 0]/\st.t 7=vi a.length/\st.t 8=vi b/\st.s 1000000=some (0,.arr true 25 1 [[s49 c0]] 0)))
abbrev Qku:=λN b Q n (st:St)=>∃d c,Iv (Qej N b n d c) Q ((∃a,st.n=25/\st.s 1408=some (a,.arr false 49 1 (c.map e49) 0)/\st.t 3=.osl 1408 a 1 0 c.length/\st.t 10=Xcy b.S/\st.t 11=vi b.S.length/\st.t 12=vi d)\/((st.n=25/\st.t 3=.nsl/\st.t 10=Xcy b.S/\st.t 11=vi b.S.length/\st.t 12=vi d)/\c=[]))
abbrev QhH:=λN a f Q n (st:St)=>∃i k g,Iv (QcG N a f n i k g) Q ((∃e,st.n=39/\st.s 2304=some (e,.arr false 49 1 (g.map e49) 0)/\st.t 0=.ept 1000000 0 16 0 0/\st.t 5=.osl 2304 e 1 0 g.length/\st.t 9=s49 f/\st.t 10=vi f.length/\st.t 11=vi i/\st.s 1000000=some (0,.arr true 374 16 [[vi a.h.c.W,vi a.h.c.p,s49 a.h.w,YB a.h.p,vi a.h.s,vi a.h.b,s49 a.o,s3 a.t,s49 a.q,vi a.d,vi a.r.j,vi a.r.K,vi a.r.F,vi a.r.E,vi k,vi a.r.y]] 0))\/((st.n=39/\st.t 0=.ept 1000000 0 16 0 0/\st.t 5=.nsl/\st.t 9=s49 f/\st.t 10=vi f.length/\st.t 11=vi i/\st.s 1000000=some (0,.arr true 374 16 [[vi a.h.c.W,vi a.h.c.p,s49 a.h.w,YB a.h.p,vi a.h.s,vi a.h.b,s49 a.o,s3 a.t,s49 a.q,vi a.d,vi a.r.j,vi a.r.K,vi a.r.F,vi a.r.E,vi k,vi a.r.y]] 0))/\g=[]))
def g22:(∀N(a0:Ww)(a1:List Int),O1 (Qdb N a0 a1) 88 [.agg (JG a0),s49 a1] (λr=>.tup [.agg (JG r.1),s49 r.2.1,vi r.2.2]))/\(∀N(a0:Ww),O1 (Qet N a0) 165 [.agg (JG a0)] (λr=>.tup [.agg (JG r.1),.v (.bool r.2.1),vi r.2.2]))/\(∀N(a0:Ww),O1 (Qev N a0) 92 [.agg (JG a0)] (λr=>.agg (JG r)))/\(∀N(a0:WM),O1 (QfW N a0) 101 [.agg (e42 a0)] (λr=>s4 r))/\(∀N(a0:WN)(a1:List Ws)(a2:Int),O1 (QgT N a0 a1 a2) 294 [.agg (e24 a0),YB a1,vi a2] (λr=>vi r))/\(∀N(a0:Wu),O1 (QdW N a0) 51 [.agg (e35 a0)] (λr=>s49 r))/\(∀N a0 c0,OK (Qbg N a0 c0) 217 [s49 a0,.clo (.func 132) [] [.ept 1000000 0 1 0 0]] [.arr true 25 1 [[s49 c0]] 0] (λr=>vi r) λr=>[.arr true 25 1 [[s49 c0]] 0])/\(∀N(a0:Wp),O1 (QfP N a0) 135 [.agg (e32 a0)] (λr=>s49 r))/\(∀N a0 a1,OK (QdP N a0 a1) 340 [.ept 1000000 0 16 0 0,s49 a1] [.arr true 374 16 [[vi a0.h.c.W,vi a0.h.c.p,s49 a0.h.w,YB a0.h.p,vi a0.h.s,vi a0.h.b,s49 a0.o,s3 a0.t,s49 a0.q,vi a0.d,vi a0.r.j,vi a0.r.K,vi a0.r.F,vi a0.r.E,vi a0.r.f,vi a0.r.y]] 0] (λr=>s49 r.1) λr=>[.arr true 374 16 [[vi r.2.h.c.W,vi r.2.h.c.p,s49 r.2.h.w,YB r.2.h.p,vi r.2.h.s,vi r.2.h.b,s49 r.2.o,s3 r.2.t,s49 r.2.q,vi r.2.d,vi r.2.r.j,vi r.2.r.K,vi r.2.r.F,vi r.2.r.E,vi r.2.r.f,vi r.2.r.y]] 0]):=by
 refine⟨λN _ _=>rk f88 ?_,λN _=>rk f165 ?_,λN _=>rk f92 ?_,λN _=>rk f101 ?_,λN _ _ _=>rk f294 ?_,λN _=>rk f51 ?_,λN _ _=>rk f217 ?_,λN _=>rk f135 ?_,λN _ _=>rk f340 ?_⟩<;>(rintro _ hw r hr C _ rfl hwf hf;have hse:=@ZZ _ hw;simp only[f88,f165,f92,f101,f294,f51,f217,f135,f340,Option.get!,Qdb,Qet,Qev,QfW,QgT,QdW,Qbg,QfP,QdP]at hr⊢;repeat' first
 |(refine El.el hr ?_;clear hr;intro hr)
 |(with_reducible intro h;refine XH hr h ?_;clear hr;intro hr)
 |with_reducible intro _
 |(refine Xq hr ?_;rintro rfl;have hr:=hk;clear hk)
 |simp only[go_sem,simprocAttr,E,hK,hl3,hl4,XB,Xm,X2,Ya,KW,hse,Wl,Wn,Wz]
 |(with_reducible first|apply Xi|apply Xh|apply Xt|apply Xx|apply Xy)
 |((first|with_reducible refine Yy hr ag ?_ ?_|(with_reducible refine Yt hr ?_ ?_;rotate_left;intro p;rotate_right));(·simp only[go_sem,simprocAttr,hse,Wl,Wn,Wz]);intro hp hn hd hr;(try have hl3:=hd _ e3;simp only[go_sem,simprocAttr]at hl3);(try have hl4:=hd _ e4;simp only[go_sem,simprocAttr]at hl4);(try have XB:=hd _ e49;simp only[go_sem,simprocAttr]at XB);(try have Xm:=hd _ X0;simp only[go_sem,simprocAttr]at Xm);(try have X2:=hd _ KN;simp only[go_sem,simprocAttr]at X2);(try have Ya:=hd _ Z6;simp only[go_sem,simprocAttr]at Ya);(try have KW:=hd _ Xce;simp only[go_sem,simprocAttr]at KW))
 |(refine Xu ?_ ?_;.first|assumption|omega)
 |(with_reducible first|refine CallX.c ?_ _|refine OK.c hr hw ?_ (λy hr=>?_) _|refine OK.d hr hw ?_ (λy hr=>?_) _)
 |(with_reducible refine lp (Qjt N _) hr N ?_ (λ_ p q=>⟨_,_,_,_,_,_,_,_,_,_,_,_,_,_,_,_,_,_,_,p,q,?_⟩) _;rintro n1 st ⟨_,_,_,_,_,_,_,_,_,_,_,_,_,_,_,_,_,_,_,hr,hk,(⟨_,_,_,E⟩|⟨_,_,E,z0⟩)⟩<;>(try subst z0)<;>(obtain _|n1:=n1<;>rw[Qa8]at hr))
 |refine⟨_,WD _,_,_,_,_,_,_,_,_,_,_,_,_,_,_,_,_,_,_,_,hr,hk,?_⟩
 |(with_reducible refine lp (Qkr N _ _) hr N ?_ (λ_ p q=>⟨_,_,_,_,_,_,_,_,_,_,_,_,_,_,_,_,_,_,p,q,?_⟩) _;rintro n1 st ⟨_,_,_,_,_,_,_,_,_,_,_,_,_,_,_,_,_,_,hr,hk,⟨_,_,E⟩⟩<;>(obtain _|n1:=n1<;>rw[Qbm]at hr))
 |refine⟨_,WD _,_,_,_,_,_,_,_,_,_,_,_,_,_,_,_,_,_,_,hr,hk,?_⟩
 |(with_reducible refine lp (Qks N _) hr N ?_ (λ_ p q=>⟨_,_,_,_,p,q,?_⟩) _;rintro n1 st ⟨_,_,_,_,hr,hk,⟨_,_,E⟩⟩<;>(obtain _|n1:=n1<;>rw[QaI]at hr))
 |refine⟨_,WD _,_,_,_,_,hr,hk,?_⟩
 |(with_reducible refine lp (Qid N _) hr N ?_ (λ_ p q=>⟨_,_,_,_,p,q,?_⟩) _;rintro n1 st ⟨_,_,_,_,hr,hk,⟨_,_,_,E⟩⟩<;>(obtain _|n1:=n1<;>rw[Qc1]at hr))
 |(with_reducible refine lp (Qlj N _ _ _ _ _) hr N ?_ (λ_ p q=>⟨_,_,p,q,?_⟩) _;rintro n1 st ⟨_,_,hr,hk,⟨_,E⟩⟩<;>(obtain _|n1:=n1<;>rw[Qfy]at hr))
 |refine⟨_,WD _,_,_,hr,hk,?_⟩
 |(with_reducible refine lp (Qkt N _) hr N ?_ (λ_ p q=>⟨_,_,_,p,q,?_⟩) _;rintro n1 st ⟨_,_,_,hr,hk,(⟨_,E⟩|⟨E,z0⟩)⟩<;>(try subst z0)<;>(obtain _|n1:=n1<;>rw[Qei]at hr))
 |refine⟨_,WD _,_,_,_,hr,hk,?_⟩
 |(with_reducible refine lp (Qfp N _ _) hr N ?_ (λ_ p q=>⟨_,_,p,q,?_⟩) _;rintro n1 st ⟨_,_,hr,hk,E⟩<;>(obtain _|n1:=n1<;>rw[Qav]at hr))
 |(with_reducible refine lp (Qku N _) hr N ?_ (λ_ p q=>⟨_,_,_,p,q,?_⟩) _;rintro n1 st ⟨_,_,_,hr,hk,(⟨_,E⟩|⟨E,z0⟩)⟩<;>(try subst z0)<;>(obtain _|n1:=n1<;>rw[Qej]at hr))
 |(with_reducible refine lp (QhH N _ _) hr N ?_ (λ_ p q=>⟨_,_,_,_,p,q,?_⟩) _;rintro n1 st ⟨_,_,_,_,hr,hk,(⟨_,E⟩|⟨E,z0⟩)⟩<;>(try subst z0)<;>(obtain _|n1:=n1<;>rw[QcG]at hr))
 |refine dq 88 5 hf [(0,[],[576]),(1,[],[576]),(2,[],[576]),(3,[],[576]),(4,[],[576]),(5,[],[576]),(6,[],[576]),(7,[],[576]),(8,[],[576]),(9,[],[576]),(10,[576],[]),(11,[576],[])] ?_
 |refine dq 88 8 hf [(0,[],[2240,2304]),(1,[],[2240]),(3,[2240],[]),(4,[2304],[]),(5,[128],[])] ?_
 |refine dq 92 6 hf [(0,[],[448]),(1,[],[448]),(2,[],[448]),(3,[],[448]),(4,[],[448]),(5,[],[448]),(6,[],[448]),(7,[448],[]),(8,[448],[])] ?_
 |refine dq 92 8 hf [(0,[],[4352]),(1,[],[4352]),(2,[],[4352]),(3,[],[4352]),(4,[],[4352]),(5,[],[4352]),(6,[],[4352]),(7,[],[4352]),(9,[4352],[]),(10,[],[4352]),(11,[],[4352]),(12,[4352],[]),(13,[4352],[]),(16,[],[64]),(19,[64],[])] ?_
 |refine dq 101 10 hf [(11,[896],[])] ?_
 |refine dp ?_
 |(refine Xq hr ?_;rintro rfl;with_reducible refine XQ ?_)
 |exact YE hr
 |((first|refine XH (c:=true) hr rfl ?_|refine XH (c:=false) hr rfl ?_|refine XH hr ag ?_);intro hr)
 |(with_reducible refine Xva hr ?_ ?_<;>intro hK hr<;>try simp only[hK]))
abbrev Qmb:=g22.1
abbrev Qnf:=g22.2.1
abbrev Qng:=g22.2.2.1
abbrev Qkv:=g22.2.2.2.1
abbrev QnV:=g22.2.2.2.2.1
abbrev Qnh:=g22.2.2.2.2.2.1
abbrev QfU:=g22.2.2.2.2.2.2.1
abbrev Qni:=g22.2.2.2.2.2.2.2.1
abbrev Qie:=g22.2.2.2.2.2.2.2.2
attribute [instance] Qmb Qnf Qng Qkv QnV Qnh QfU Qni Qie
end Go.Sx
