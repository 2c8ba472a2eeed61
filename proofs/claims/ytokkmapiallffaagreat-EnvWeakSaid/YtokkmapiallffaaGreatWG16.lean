import Derived.Test.YtokkmapiallffaaGreatWG13
set_option linter.all false
namespace Go.Sx
open Go.Proofs Tryz
set_option maxRecDepth 10000
set_option maxHeartbeats 100000000
abbrev Qh1:=λN m d q r o u v Q n (st:St)=>∃v10 v11,Iv (QaX N m d q r o u v n v10 v11) Q ((∃a k l f g h j,st.n=127/\st.s 3328=some (a,.arr false 52 1 ((d.2.1.take (m.R.length:Int).toNat).map e52) 0)/\st.s 7872=some (k,.arr false 93 2 (v11.map e93) 0)/\st.t 1=.ept 64 l 13 0 0/\st.t 2=.ept 128 f 13 0 0/\st.t 3=.ept 192 g 6 0 0/\st.t 6=s52 d.2.1/\st.t 8=.ept 512 h 6 0 0/\st.t 10=.ept 640 j 13 0 0/\st.t 11=vi m.R.length/\st.t 12=vi q.length/\st.t 13=vi r.length/\st.t 14=vi v10/\st.s 64=some (l,.arr true 38 13 [e38 m] 0)/\st.s 128=some (f,.arr true 38 13 [[vi 0,vi 0,.nsl,.nsl,vi 0,vi 0,.nsl,.nsl,.nsl,.nsl,.nsl,.nsl,.nsl]] 0)/\st.s 192=some (g,.arr true 47 6 [[vi 0,vi 0,vi 0,vi 0,vi 0,vi 0]] 0)/\st.s 512=some (h,.arr true 47 6 [e47 d.2.2.2.1] 0)/\st.s 640=some (j,.arr true 38 13 [[vi d.1.c.W,vi d.1.c.p,s52 d.1.w,Yz d.1.p,vi d.1.s,vi d.1.b,Xcv o.1.S,Xcu o.1.x,s3 o.1.i,s96 u.1.e,s96 v.1.e,.osl 7872 k 2 0 v11.length,.osl 3328 a 1 0 (min ((m.R.length:Int).toNat) d.2.1.length)]] 0))\/(∃a l f g h j,(st.n=127/\st.s 3328=some (a,.arr false 52 1 ((d.2.1.take (m.R.length:Int).toNat).map e52) 0)/\st.t 1=.ept 64 l 13 0 0/\st.t 2=.ept 128 f 13 0 0/\st.t 3=.ept 192 g 6 0 0/\st.t 6=s52 d.2.1/\st.t 8=.ept 512 h 6 0 0/\st.t 10=.ept 640 j 13 0 0/\st.t 11=vi m.R.length/\st.t 12=vi q.length/\st.t 13=vi r.length/\st.t 14=vi v10/\st.s 64=some (l,.arr true 38 13 [e38 m] 0)/\st.s 128=some (f,.arr true 38 13 [[vi 0,vi 0,.nsl,.nsl,vi 0,vi 0,.nsl,.nsl,.nsl,.nsl,.nsl,.nsl,.nsl]] 0)/\st.s 192=some (g,.arr true 47 6 [[vi 0,vi 0,vi 0,vi 0,vi 0,vi 0]] 0)/\st.s 512=some (h,.arr true 47 6 [e47 d.2.2.2.1] 0)/\st.s 640=some (j,.arr true 38 13 [[vi d.1.c.W,vi d.1.c.p,s52 d.1.w,Yz d.1.p,vi d.1.s,vi d.1.b,Xcv o.1.S,Xcu o.1.x,s3 o.1.i,s96 u.1.e,s96 v.1.e,.nsl,.osl 3328 a 1 0 (min ((m.R.length:Int).toNat) d.2.1.length)]] 0))/\v11=[]))
abbrev Qk8:=λN a b Q n (st:St)=>∃c,Iv (Qew N a b n c) Q ((st.n=41/\st.t 5=s3 b.1/\st.t 26=Yz a.p/\st.t 27=vi a.p.length/\st.t 28=vi c))
abbrev QhJ:=λN f i h j Q n (st:St)=>∃v6 v7,Iv (Qb4 N f i h j n v6 v7) Q ((∃d a g e,st.n=61/\st.s 1728=some (d,.arr false 52 1 (h.map e52) 0)/\st.s 1920=some (a,.arr false 122 4 (v7.map XX) 0)/\st.t 1=.ept 64 g 6 0 0/\st.t 2=.ept 128 e 16 0 0/\st.t 4=s52 i.1/\st.t 34=.osl 1920 a 4 0 v7.length/\st.t 35=vi j.length/\st.t 36=vi v6/\st.s 64=some (g,.arr true 28 6 [[vi f.c.W,vi f.c.p,.osl 1728 d 1 0 h.length,.osl 1920 a 4 0 v7.length,vi f.s,vi f.b]] 0)/\st.s 128=some (e,.arr true 142 16 [[vi 0,vi 0,.nsl,.nsl,vi 0,vi 0,.nsl,.nsl,.nsl,vi 0,vi 0,vi 0,vi 0,vi 0,vi 0,vi 0]] 0)))
def g40:(∀N(a0:Um),O1 (Qbx N a0) 56 [.agg (e38 a0)] (λr=>.tup [.agg (e38 r.1),.agg (e47 r.2.1),vi r.2.2]))/\(∀N(a0:Wh)(a1:List UE),O1 (Qg3 N a0 a1) 45 [.agg (e28 a0),s93 a1] (λr=>.v (.bool r)))/\(∀N(a0:Wh),O1 (Qeq N a0) 63 [.agg (e28 a0)] (λr=>.tup [.agg (Xgj r.1),vi r.2])):=by
 refine⟨λN _=>rk f56 ?_,λN _ _=>rk f45 ?_,λN _=>rk f63 ?_⟩<;>(rintro _ hw r hr C _ rfl hwf hf;have hse:=@Z3 _ hw;simp only[f56,f45,f63,Option.get!,Qbx,Qg3,Qeq]at hr⊢;repeat' first
 |(refine El.el hr ?_;clear hr;intro hr)
 |(with_reducible intro h;refine XJ hr h ?_;clear hr;intro hr)
 |with_reducible intro _
 |(refine Xp hr ?_;rintro rfl;have hr:=hk;clear hk)
 |simp only[go_sem,simprocAttr,E,hl3,XA,KC,Xk,hse,Wl,Wo,WD]
 |(with_reducible first|apply Xj|apply Xi|apply Xw|apply Xs|apply Xt)
 |((first|with_reducible refine Yy hr ah ?_ ?_|(with_reducible refine Yr hr ?_ ?_;rotate_left;intro p;rotate_right));(·simp only[go_sem,simprocAttr,hse,Wl,Wo,WD]);intro hp hn hd hr;(try have hl3:=hd _ e3;simp only[go_sem,simprocAttr]at hl3);(try have XA:=hd _ e52;simp only[go_sem,simprocAttr]at XA);(try have KC:=hd _ e93;simp only[go_sem,simprocAttr]at KC);(try have Xk:=hd _ XX;simp only[go_sem,simprocAttr]at Xk))
 |(refine Xx ?_ ?_;.first|assumption|omega)
 |(with_reducible first|refine CallX.c ?_ _|refine OK.c hr hw ?_ (λy hr=>?_) _|refine OK.d hr hw ?_ (λy hr=>?_) _)
 |(with_reducible refine lp (Qh1 N _ _ _ _ _ _ _) hr N ?_ (λ_ p q=>⟨_,_,_,p,q,?_⟩) _;rintro n1 st ⟨_,_,_,hr,hk,(⟨_,_,_,_,_,_,_,E⟩|⟨_,_,_,_,_,_,E,z0⟩)⟩<;>(try subst z0)<;>(obtain _|n1:=n1<;>rw[QaX]at hr))
 |refine⟨_,Wz _,_,_,_,hr,hk,?_⟩
 |(with_reducible refine lp (Qk8 N _ _) hr N ?_ (λ_ p q=>⟨_,_,p,q,?_⟩) _;rintro n1 st ⟨_,_,hr,hk,E⟩<;>(obtain _|n1:=n1<;>rw[Qew]at hr))
 |refine⟨_,Wz _,_,_,hr,hk,?_⟩
 |(with_reducible refine lp (QhJ N _ _ _ _) hr N ?_ (λ_ p q=>⟨_,_,_,p,q,?_⟩) _;rintro n1 st ⟨_,_,_,hr,hk,⟨_,_,_,_,E⟩⟩<;>(obtain _|n1:=n1<;>rw[Qb4]at hr))
 |refine dq 56 3 hf [(0,[],[320,512,1728]),(1,[],[320,512,1728]),(2,[],[320,512]),(3,[],[320,512]),(4,[],[320,512]),(5,[],[320,512]),(6,[1728],[320,512]),(7,[1728],[320,512]),(8,[],[320,512]),(9,[],[320,512]),(10,[],[320,512]),(11,[],[320,512]),(12,[],[320,512]),(13,[],[320,512]),(14,[320],[512,1728]),(15,[512],[320,1728]),(16,[320],[]),(19,[512],[])] ?_
 |refine dq 56 7 hf [(0,[],[3200]),(1,[],[3200]),(2,[],[3200]),(6,[],[3200]),(9,[3200],[])] ?_
 |refine dq 56 9 hf [(11,[],[640]),(13,[640],[])] ?_
 |refine dq 56 10 hf [(15,[],[640]),(17,[640],[])] ?_
 |refine dq 56 15 hf [(0,[],[7808]),(1,[],[7808]),(19,[7808],[]),(20,[7872],[]),(22,[640],[])] ?_
 |refine dq 56 16 hf [(1,[],[128]),(2,[128],[]),(3,[192],[])] ?_
 |refine dq 63 8 hf [(2,[1728],[]),(3,[],[1728]),(4,[],[1728]),(5,[1920],[]),(6,[],[1920]),(7,[64],[]),(9,[64],[])] ?_
 |refine dp ?_
 |(refine Xp hr ?_;rintro rfl;with_reducible refine XT ?_)
 |exact YH hr
 |((first|refine XJ (c:=true) hr rfl ?_|refine XJ (c:=false) hr rfl ?_|refine XJ hr ah ?_);intro hr))
abbrev Qkr:=g40.1
abbrev QnE:=g40.2.1
abbrev Qjq:=g40.2.2
attribute [instance] Qkr QnE Qjq
def g39:(∀N(a0:Um)(a1:Int),O1 (QaY N a0 a1) 198 [.agg (e38 a0),vu a1] (λr=>.tup [vu r.1,vi r.2]))/\(∀N(a0:Wh)(a1:List Int),O1 (QdO N a0 a1) 49 [.agg (e28 a0),s52 a1] (λr=>.v (.bool r))):=by
 refine⟨λN _ _=>rk f198 ?_,λN _ _=>rk f49 ?_⟩<;>(rintro _ hw r hr C _ rfl hwf hf;simp only[f198,f49,Option.get!,QaY,QdO]at hr⊢;repeat' first
 |(refine El.el hr ?_;clear hr;intro hr)
 |(with_reducible intro h;refine XJ hr h ?_;clear hr;intro hr)
 |with_reducible intro _
 |simp only[go_sem,simprocAttr]
 |(with_reducible first|apply Xj|apply Xi|apply Xw)
 |(refine Xx ?_ ?_;.first|assumption|omega)
 |(with_reducible first|refine CallX.c ?_ _|refine OK.c hr hw ?_ (λy hr=>?_) _)
 |(refine Xp hr ?_;rintro rfl;with_reducible refine XT ?_)
 |exact YH hr)
abbrev Qks:=g39.1
abbrev Qk9:=g39.2
attribute [instance] Qks Qk9
end Go.Sx
