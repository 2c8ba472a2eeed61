import Derived.Test.YtcclgbgphjofaaaGreatHG13
set_option linter.all false
namespace Go.Sx
open Go.Proofs
set_option maxRecDepth 10000
set_option maxHeartbeats 100000000
abbrev Qic:=λN d e f g h (Q:(Ex Ut Unit)→Prop) n (st:St)=>∃i j,Qaw N d e f g h n i=some j/\Q j/\((∃c a b,st.n=89/\st.t 1=.ept 64 c 6 0 0/\st.t 2=.ept 128 a 3 0 0/\st.t 3=s55 e.1/\st.t 5=vi g/\st.t 6=.ept 384 b 3 0 0/\st.t 8=s55 f.1/\st.t 10=vi i/\st.s 64=some (c,.arr true 28 6 [e28 d] 0)/\st.s 128=some (a,.arr true 302 3 [[vi 0,vi 0,vu 0]] 0)/\st.s 384=some (b,.arr true 84 3 [e84 h.1] 0)))
abbrev Qid:=λN c d (Q:(Ex Ut Unit)→Prop) n (st:St)=>∃e f,Qbs N c d n e=some f/\Q f/\((∃b a,st.n=89/\st.t 1=.ept 64 b 6 0 0/\st.t 2=.ept 128 a 3 0 0/\st.t 3=s55 d.1/\st.t 5=vi e/\st.s 64=some (b,.arr true 28 6 [e28 c] 0)/\st.s 128=some (a,.arr true 302 3 [[vi 0,vi 0,vu 0]] 0)))
abbrev Qmy:=λN c (Q:(Ex (List U8 × Int) (List U8))→Prop) n (st:St)=>∃e d f,QfH N c n e d=some f/\Q f/\((∃a b,st.n=31/\st.s 1792=some (a,.arr false 261 4 (d.map Xam) 0)/\st.t 1=.ept 64 b 6 0 0/\st.t 4=.osl 1792 a 4 0 d.length/\st.t 13=vi c.p.length/\st.t 14=vi e/\st.s 64=some (b,.arr true 28 6 [e28 c] 0))\/(∃b,(st.n=31/\st.t 1=.ept 64 b 6 0 0/\st.t 4=.nsl/\st.t 13=vi c.p.length/\st.t 14=vi e/\st.s 64=some (b,.arr true 28 6 [e28 c] 0))/\d=[]))
abbrev QjM:=λN b (Q:(Ex Bool Unit)→Prop) n (st:St)=>∃c d,Qdx N b n c=some d/\Q d/\((∃a,st.n=64/\st.t 1=.ept 64 a 10 0 0/\st.t 34=s87 b.T/\st.t 35=vi b.T.length/\st.t 36=vi c/\st.s 64=some (a,.arr true 52 10 [e52 b] 0)))
abbrev QjN:=λN c d e (a:Nat) (Q:(Ex Unit (List Int))→Prop) n (st:St)=>∃f b g,QbY N c d e n f b=some g/\Q g/\((∃w156160,st.n=42/\st.s 156160=some (w156160,.arr false 55 1 (b.map e55) 0)/\st.t 0=s55 e.1/\st.t 1=.osl 156160 w156160 1 0 b.length/\st.t 2=s55 d/\st.t 8=vi f/\st.s 128=some (a,.arr true 28 6 [e28 c] 0))\/((st.n=42/\st.t 0=s55 e.1/\st.t 1=.nsl/\st.t 2=s55 d/\st.t 8=vi f/\st.s 128=some (a,.arr true 28 6 [e28 c] 0))/\b=[]))
abbrev QjO:=λN f g b e (c:Nat) (Q:(Ex Unit (List Int))→Prop) n (st:St)=>∃d a h,QbZ N f g b e n d a=some h/\Q h/\((∃w156160,st.n=42/\st.s 156160=some (w156160,.arr false 55 1 (a.map e55) 0)/\st.t 0=s55 g.1/\st.t 1=.osl 156160 w156160 1 0 a.length/\st.t 2=s55 b/\st.t 8=vi d/\st.s 128=some (c,.arr true 28 6 [e28 f] 0)))
abbrev QjP:=λN e f (Q:(Bool × List Int)→Prop) n (st:St)=>∃c d b g,Qdz N e f n c d b=some g/\Q g/\((∃w156160 a,st.n=52/\st.s 156160=some (w156160,.arr false 55 1 (b.map e55) 0)/\st.t 2=.ept 128 a 6 0 0/\st.t 6=s55 f.1/\st.t 8=.osl 156160 w156160 1 0 b.length/\st.t 9=.v (.bool c)/\st.t 10=vi d/\st.s 128=some (a,.arr true 28 6 [e28 e] 0))\/(∃a,(st.n=52/\st.t 2=.ept 128 a 6 0 0/\st.t 6=s55 f.1/\st.t 8=.nsl/\st.t 9=.v (.bool c)/\st.t 10=vi d/\st.s 128=some (a,.arr true 28 6 [e28 e] 0))/\b=[]))
def g26:(∀N a0,OK (Qdn N a0) 245 [.agg (e28 a0)] [] (λr=>.agg (Xqu r)) λr=>[])/\(∀N a0,OK (Qhh N a0) 174 [.agg (e28 a0)] [] (λr=>.tup [.fsl 261 4 (r.1.map Xam),vi r.2]) λr=>[])/\(∀N a0,OK (QeX N a0) 16 [.agg (e52 a0)] [] (λr=>.v (.bool r)) λr=>[])/\(∀N a0 a1,OK (Qgs N a0 a1) 8 [.agg (e28 a0),s55 a1] [] (λr=>.tup [s55 r.1,vi r.2]) λr=>[]):=by
 refine⟨λN _=>rk Tryz.f245 ?_,λN _=>rq Tryz.f174 [1792] ?_,λN _=>rk Tryz.f16 ?_,λN _ _=>rk Tryz.f8 ?_⟩<;>(rintro _ hw r hr C _ rfl hwf hf;simp only[Tryz.f245,Tryz.f174,Tryz.f16,Tryz.f8,Option.get!];(first|rw[Qdn]at hr|rw[Qhh]at hr|rw[QeX]at hr|rw[Qgs]at hr);repeat' first
 |(refine El.el hr ?_;intro hr)
 |(with_reducible intro h;refine XH hr h ?_;intro hr)
 |with_reducible intro _
 |(refine Xu hr ?_;rintro rfl;have hr:=hk;clear hk)
 |simp only[go_sem,simprocAttr,E,Fq,X2,XiT]
 |(with_reducible first|apply Xk|apply Xj|apply XA|apply XF|apply XG)
 |((first|with_reducible refine Y1 hr ag ?_ ?_|(with_reducible refine YN hr ?_ ?_;rotate_left;intro p;rotate_right));(·simp only[go_sem,simprocAttr]);intro hp hn hd hr;(try have X2:=hd _ e55);(try simp only[go_sem,simprocAttr]at X2);(try have XiT:=hd _ e87);(try simp only[go_sem,simprocAttr]at XiT))
 |(refine XB ?_ ?_;.first|assumption|omega|(dsimp only at *;omega))
 |(refine CallX.inl (f:=24) 2400 (fn:=Tryz.f24) (rs:=[.tmp 6,.tmp 7]) (nt:=42) 1000 ac (λx=>?_) _;simp only[Tryz.f24,Option.get!])
 |(with_reducible first|refine CallX.c ?_ _|refine OK.c hr hw ?_ (λy hr=>?_) _|refine OK.d hr hw ?_ (λy hr=>?_) _)
 |(with_reducible refine lp (Qic N _ _ _ _ _) hr N ?_ (λex hq hk=>⟨_,ex,hq,hk,?_⟩) _;clear hr;(try clear E);(try clear Fq);rintro n1 st ⟨v7,ex,hr,hk,⟨_,_,_,E⟩⟩<;>(obtain _|n1:=n1<;>rw[Qaw]at hr))
 |refine⟨_,WK _,_,_,hr,hk,?_⟩
 |(with_reducible refine lp (Qid N _ _) hr N ?_ (λex hq hk=>⟨_,ex,hq,hk,?_⟩) _;clear hr;(try clear E);(try clear Fq);rintro n2 st ⟨v2,ex,hr,hk,⟨_,_,E⟩⟩<;>(obtain _|n2:=n2<;>rw[Qbs]at hr))
 |(with_reducible refine lp (Qmy N _) hr N ?_ (λex hq hk=>⟨_,_,ex,hq,hk,?_⟩) _;clear hr;(try clear E);(try clear Fq);rintro n1 st ⟨v2,v3,ex,hr,hk,(⟨_,_,E⟩|⟨_,E,z0⟩)⟩<;>(try subst z0)<;>(obtain _|n1:=n1<;>rw[QfH]at hr))
 |refine⟨_,WK _,_,_,_,hr,hk,?_⟩
 |(with_reducible refine lp (QjM N _) hr N ?_ (λex hq hk=>⟨_,ex,hq,hk,?_⟩) _;clear hr;(try clear E);(try clear Fq);rintro n1 st ⟨v7,ex,hr,hk,⟨_,E⟩⟩<;>(obtain _|n1:=n1<;>rw[Qdx]at hr))
 |((refine LoopG.v (id:=128) (v:=?_) ?_ ?_ _;rotate_left;.first|rfl|(simp only[go_sem,simprocAttr,E,Fq];rfl));intro w128 h128;with_reducible refine lp (QjN N _ _ _ w128) hr N ?_ (λex hq hk=>⟨_,_,ex,hq,hk,?_⟩) _;(all_goals (subst h128));clear hr;(try clear Fq);rintro n1 st ⟨v3,v4,ex,hr,hk,(⟨_,Fq⟩|⟨Fq,z0⟩)⟩<;>(try subst z0)<;>(obtain _|n1:=n1<;>rw[QbY]at hr))
 |((refine LoopG.v (id:=128) (v:=?_) ?_ ?_ _;rotate_left;.first|rfl|(simp only[go_sem,simprocAttr,E,Fq];rfl));intro w128 h128;with_reducible refine lp (QjO N _ _ _ _ w128) hr N ?_ (λex hq hk=>⟨_,_,ex,hq,hk,?_⟩) _;(all_goals (subst h128));clear hr;(try clear Fq);rintro n2 st ⟨v20,v21,ex,hr,hk,⟨_,Fq⟩⟩<;>(obtain _|n2:=n2<;>rw[QbZ]at hr))
 |(with_reducible refine lp (QjP N _ _) hr N ?_ (λex hq hk=>⟨_,_,_,ex,hq,hk,?_⟩) _;clear hr;(try clear E);(try clear Fq);rintro n3 st ⟨v15,v16,v17,ex,hr,hk,(⟨_,_,E⟩|⟨_,E,z0⟩)⟩<;>(try subst z0)<;>(obtain _|n3:=n3<;>rw[Qdz]at hr))
 |refine⟨_,WK _,_,_,_,_,hr,hk,?_⟩
 |refine dc 245 5 hf 6 [(0,62914561,[[],[384]]),(0,10485761,[[],[384]]),(0,6291457,[[],[384]]),(6,2097153,[[],[384]]),(14,2097153,[[],[384]]),(31,1,[[],[384]]),(63,1,[[],[384]]),(127,268435457,[[],[384]]),(127,134217729,[[],[384]]),(0,535822336,[[384],[]]),(767,268435456,[[384],[]]),(2047,0,[])] ?_
 |refine dc 245 6 hf 8 [(0,8053063680,[]),(0,1342177280,[]),(0,805306368,[]),(6,268435456,[]),(14,268435456,[]),(31,0,[]),(63,0,[]),(127,34359738368,[]),(127,17179869185,[]),(255,34359738368,[]),(1023,0,[])] ?_
 |refine dc 16 9 hf 45 [(0,16382,[[],[3648]]),(0,4089,[]),(2,4089,[]),(0,1735,[]),(8,1735,[]),(24,1735,[]),(0,1599,[]),(64,1599,[]),(248,1543,[]),(0,511,[]),(512,511,[]),(2040,7,[]),(4094,1,[[3648],[]]),(8190,1,[[3648],[]]),(16383,0,[]),(32767,0,[]),(65535,0,[]),(131071,0,[]),(262143,0,[]),(524287,0,[])] ?_
 |refine dbm 8 10 hf 8 8 [(0,272730423296,[]),(0,271656681472,[]),(0,132070244352,[]),(0,24696061952,[]),(0,16106127360,[]),(24,7516192768,[]),(56,7516192768,[]),(124,3221225472,[]),(255,0,[]),(511,0,[]),(1023,1099511627776,[]),(1023,549755813889,[]),(2047,1099511627776,[]),(8191,0,[])] rfl rfl ac rfl rfl ?_ _
 |(refine Xu hr ?_;rintro rfl;with_reducible refine X4 ?_)
 |exact Za hr
 |exact Yb hr
 |(apply Yc;assumption)
 |((first|refine XH (c:=true) hr rfl ?_|refine XH (c:=false) hr rfl ?_|refine XH hr ag ?_);intro hr)
 |fail)
abbrev QjQ:=g26.1
abbrev Qn8:=g26.2.1
abbrev Qmz:=g26.2.2.1
abbrev QmA:=g26.2.2.2
attribute [instance] QjQ Qn8 Qmz QmA
def g25:(∀N a0 a1,OK (Qds N a0 a1) 209 [.agg (e28 a0),vu a1] [] (λr=>.v (.bool r)) λr=>[])/\(∀N a0 a1,OK (QfY N a0 a1) 237 [.agg (e28 a0),vi a1] [] (λr=>.tup [s55 r.1,vi r.2]) λr=>[])/\(∀N a0 a1,OK (Qgv N a0 a1) 54 [.agg (e28 a0),vu a1] [] (λr=>.tup [vu r.1,vu r.2.1,vi r.2.2]) λr=>[])/\(∀N a0 a1,OK (QeB N a0 a1) 56 [.agg (e28 a0),vu a1] [] (λr=>.tup [s55 r.1,vi r.2]) λr=>[]):=by
 refine⟨λN _ _=>rk Tryz.f209 ?_,λN _ _=>rk Tryz.f237 ?_,λN _ _=>rk Tryz.f54 ?_,λN _ _=>rk Tryz.f56 ?_⟩<;>(rintro _ hw r hr C _ rfl hwf hf;simp only[Tryz.f209,Tryz.f237,Tryz.f54,Tryz.f56,Option.get!];(first|rw[Qds]at hr|rw[QfY]at hr|rw[Qgv]at hr|rw[QeB]at hr);repeat' first
 |(refine El.el hr ?_;intro hr)
 |(with_reducible intro h;refine XH hr h ?_;intro hr)
 |with_reducible intro _
 |simp only[go_sem,simprocAttr]
 |(with_reducible first|apply Xk|apply Xj|apply XA|apply XF|apply XG)
 |(refine XB ?_ ?_;.first|assumption|omega)
 |(with_reducible first|refine CallX.c ?_ _|refine OK.c hr hw ?_ (λy hr=>?_) _)
 |refine dc 54 4 hf 4 [(0,2064384,[]),(1,2064384,[]),(0,942081,[]),(4,942081,[]),(0,122881,[]),(16,122881,[]),(48,122881,[]),(124,24577,[]),(3,2064384,[]),(511,0,[]),(1023,0,[])] ?_
 |(refine Xu hr ?_;rintro rfl;with_reducible refine X4 ?_)
 |exact Za hr
 |exact Yb hr
 |(apply Yc;assumption)
 |fail)
abbrev QjR:=g25.1
abbrev QnZ:=g25.2.1
abbrev QkQ:=g25.2.2.1
abbrev QkR:=g25.2.2.2
attribute [instance] QjR QnZ QkQ QkR
end Go.Sx
