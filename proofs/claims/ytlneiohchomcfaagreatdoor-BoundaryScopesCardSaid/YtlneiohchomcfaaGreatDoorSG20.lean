import Derived.Test.YtlneiohchomcfaaGreatDoorSG17
set_option linter.all false
namespace Go.Sx
open Go.Proofs Tryz
set_option maxRecDepth 10000
set_option maxHeartbeats 100000000
abbrev Qij:=λN m d q r o u v Q n (st:St)=>∃v10 v11,Iv (QaZ N m d q r o u v n v10 v11) Q ((∃a k l f g h j,st.n=127/\st.s 3328=some (a,.arr false 49 1 ((d.2.1.take (m.R.length:Int).toNat).map e49) 0)/\st.s 7872=some (k,.arr false 101 2 (v11.map VD) 0)/\st.t 1=.ept 64 l 13 0 0/\st.t 2=.ept 128 f 13 0 0/\st.t 3=.ept 192 g 6 0 0/\st.t 6=s49 d.2.1/\st.t 8=.ept 512 h 6 0 0/\st.t 10=.ept 640 j 13 0 0/\st.t 11=vi m.R.length/\st.t 12=vi q.length/\st.t 13=vi r.length/\st.t 14=vi v10/\st.s 64=some (l,.arr true 38 13 [e38 m] 0)/\st.s 128=some (f,.arr true 38 13 [[vi 0,vi 0,.nsl,.nsl,vi 0,vi 0,.nsl,.nsl,.nsl,.nsl,.nsl,.nsl,.nsl]] 0)/\st.s 192=some (g,.arr true 60 6 [[vi 0,vi 0,vi 0,vi 0,vi 0,vi 0]] 0)/\st.s 512=some (h,.arr true 60 6 [e60 d.2.2.2.1] 0)/\st.s 640=some (j,.arr true 38 13 [[vi d.1.c.W,vi d.1.c.p,s49 d.1.w,YB d.1.p,vi d.1.s,vi d.1.b,Xcy o.1.S,Xew o.1.x,s3 o.1.i,JU u.1.e,JU v.1.e,.osl 7872 k 2 0 v11.length,.osl 3328 a 1 0 (min ((m.R.length:Int).toNat) d.2.1.length)]] 0))\/(∃a l f g h j,(st.n=127/\st.s 3328=some (a,.arr false 49 1 ((d.2.1.take (m.R.length:Int).toNat).map e49) 0)/\st.t 1=.ept 64 l 13 0 0/\st.t 2=.ept 128 f 13 0 0/\st.t 3=.ept 192 g 6 0 0/\st.t 6=s49 d.2.1/\st.t 8=.ept 512 h 6 0 0/\st.t 10=.ept 640 j 13 0 0/\st.t 11=vi m.R.length/\st.t 12=vi q.length/\st.t 13=vi r.length/\st.t 14=vi v10/\st.s 64=some (l,.arr true 38 13 [e38 m] 0)/\st.s 128=some (f,.arr true 38 13 [[vi 0,vi 0,.nsl,.nsl,vi 0,vi 0,.nsl,.nsl,.nsl,.nsl,.nsl,.nsl,.nsl]] 0)/\st.s 192=some (g,.arr true 60 6 [[vi 0,vi 0,vi 0,vi 0,vi 0,vi 0]] 0)/\st.s 512=some (h,.arr true 60 6 [e60 d.2.2.2.1] 0)/\st.s 640=some (j,.arr true 38 13 [[vi d.1.c.W,vi d.1.c.p,s49 d.1.w,YB d.1.p,vi d.1.s,vi d.1.b,Xcy o.1.S,Xew o.1.x,s3 o.1.i,JU u.1.e,JU v.1.e,.nsl,.osl 3328 a 1 0 (min ((m.R.length:Int).toNat) d.2.1.length)]] 0))/\v11=[]))
abbrev Qlu:=λN a b Q n (st:St)=>∃c,Iv (QeN N a b n c) Q ((st.n=41/\st.t 5=s3 b.1/\st.t 26=YB a.p/\st.t 27=vi a.p.length/\st.t 28=vi c))
abbrev Qh1:=λN f i h j Q n (st:St)=>∃v6 v7,Iv (Qcf N f i h j n v6 v7) Q ((∃d a g e,st.n=61/\st.s 1728=some (d,.arr false 49 1 (h.map e49) 0)/\st.s 1920=some (a,.arr false 139 4 (v7.map X0) 0)/\st.t 1=.ept 64 g 6 0 0/\st.t 2=.ept 128 e 16 0 0/\st.t 4=s49 i.1/\st.t 34=.osl 1920 a 4 0 v7.length/\st.t 35=vi j.length/\st.t 36=vi v6/\st.s 64=some (g,.arr true 28 6 [[vi f.c.W,vi f.c.p,.osl 1728 d 1 0 h.length,.osl 1920 a 4 0 v7.length,vi f.s,vi f.b]] 0)/\st.s 128=some (e,.arr true 374 16 [[vi 0,vi 0,.nsl,.nsl,vi 0,vi 0,.nsl,.nsl,.nsl,vi 0,vi 0,vi 0,vi 0,vi 0,vi 0,vi 0]] 0)))
def g40:(∀N(a0:W3),O1 (QbG N a0) 12 [.agg (e38 a0)] (λr=>.tup [.agg (e38 r.1),.agg (e60 r.2.1),vi r.2.2]))/\(∀N(a0:Wk)(a1:List UE),O1 (Qhl N a0 a1) 47 [.agg (e28 a0),VE a1] (λr=>.v (.bool r)))/\(∀N(a0:Wk),O1 (QeJ N a0) 336 [.agg (e28 a0)] (λr=>.tup [.agg (Xgn r.1),vi r.2])):=by
 refine⟨λN _=>rk f12 ?_,λN _ _=>rk f47 ?_,λN _=>rk f336 ?_⟩<;>(rintro _ hw r hr C _ rfl hwf hf;have hse:=@ZZ _ hw;simp only[f12,f47,f336,Option.get!,QbG,Qhl,QeJ]at hr⊢;repeat' first
 |(refine El.el hr ?_;clear hr;intro hr)
 |(with_reducible intro h;refine XH hr h ?_;clear hr;intro hr)
 |with_reducible intro _
 |(refine Xq hr ?_;rintro rfl;have hr:=hk;clear hk)
 |simp only[go_sem,simprocAttr,E,hl3,XB,Zj,Xm,hse,Wl,Wn,Wz]
 |(with_reducible first|apply Xi|apply Xh|apply Xt|apply Xx|apply Xy)
 |((first|with_reducible refine Yy hr ag ?_ ?_|(with_reducible refine Yt hr ?_ ?_;rotate_left;intro p;rotate_right));(·simp only[go_sem,simprocAttr,hse,Wl,Wn,Wz]);intro hp hn hd hr;(try have hl3:=hd _ e3;simp only[go_sem,simprocAttr]at hl3);(try have XB:=hd _ e49;simp only[go_sem,simprocAttr]at XB);(try have Zj:=hd _ VD;simp only[go_sem,simprocAttr]at Zj);(try have Xm:=hd _ X0;simp only[go_sem,simprocAttr]at Xm))
 |(refine Xu ?_ ?_;.first|assumption|omega)
 |(with_reducible first|refine CallX.c ?_ _|refine OK.c hr hw ?_ (λy hr=>?_) _|refine OK.d hr hw ?_ (λy hr=>?_) _)
 |(with_reducible refine lp (Qij N _ _ _ _ _ _ _) hr N ?_ (λ_ p q=>⟨_,_,_,p,q,?_⟩) _;rintro n1 st ⟨_,_,_,hr,hk,(⟨_,_,_,_,_,_,_,E⟩|⟨_,_,_,_,_,_,E,z0⟩)⟩<;>(try subst z0)<;>(obtain _|n1:=n1<;>rw[QaZ]at hr))
 |refine⟨_,WD _,_,_,_,hr,hk,?_⟩
 |(with_reducible refine lp (Qlu N _ _) hr N ?_ (λ_ p q=>⟨_,_,p,q,?_⟩) _;rintro n1 st ⟨_,_,hr,hk,E⟩<;>(obtain _|n1:=n1<;>rw[QeN]at hr))
 |refine⟨_,WD _,_,_,hr,hk,?_⟩
 |(with_reducible refine lp (Qh1 N _ _ _ _) hr N ?_ (λ_ p q=>⟨_,_,_,p,q,?_⟩) _;rintro n1 st ⟨_,_,_,hr,hk,⟨_,_,_,_,E⟩⟩<;>(obtain _|n1:=n1<;>rw[Qcf]at hr))
 |refine dq 12 3 hf [(0,[],[320,512,1728]),(1,[],[320,512,1728]),(2,[],[320,512]),(3,[],[320,512]),(4,[],[320,512]),(5,[],[320,512]),(6,[1728],[320,512]),(7,[1728],[320,512]),(8,[],[320,512]),(9,[],[320,512]),(10,[],[320,512]),(11,[],[320,512]),(12,[],[320,512]),(13,[],[320,512]),(14,[320],[512,1728]),(15,[512],[320,1728]),(16,[320],[]),(19,[512],[])] ?_
 |refine dq 12 7 hf [(0,[],[3200]),(1,[],[3200]),(2,[],[3200]),(6,[],[3200]),(9,[3200],[])] ?_
 |refine dq 12 9 hf [(11,[],[640]),(13,[640],[])] ?_
 |refine dq 12 10 hf [(15,[],[640]),(17,[640],[])] ?_
 |refine dq 12 15 hf [(0,[],[7808]),(1,[],[7808]),(19,[7808],[]),(20,[7872],[]),(22,[640],[])] ?_
 |refine dq 12 16 hf [(1,[],[128]),(2,[128],[]),(3,[192],[])] ?_
 |refine dq 336 8 hf [(2,[1728],[]),(3,[],[1728]),(4,[],[1728]),(5,[1920],[]),(6,[],[1920]),(7,[64],[]),(9,[64],[])] ?_
 |refine dp ?_
 |(refine Xq hr ?_;rintro rfl;with_reducible refine XQ ?_)
 |exact YE hr
 |((first|refine XH (c:=true) hr rfl ?_|refine XH (c:=false) hr rfl ?_|refine XH hr ag ?_);intro hr))
abbrev QkK:=g40.1
abbrev Qn5:=g40.2.1
abbrev QjI:=g40.2.2
attribute [instance] QkK Qn5 QjI
def g39:(∀N(a0:W3)(a1:Int),O1 (Qar N a0 a1) 185 [.agg (e38 a0),vu a1] (λr=>.tup [vu r.1,vi r.2]))/\(∀N(a0:Wk)(a1:List Int),O1 (Qd9 N a0 a1) 52 [.agg (e28 a0),s49 a1] (λr=>.v (.bool r))):=by
 refine⟨λN _ _=>rk f185 ?_,λN _ _=>rk f52 ?_⟩<;>(rintro _ hw r hr C _ rfl hwf hf;simp only[f185,f52,Option.get!,Qar,Qd9]at hr⊢;repeat' first
 |(refine El.el hr ?_;clear hr;intro hr)
 |(with_reducible intro h;refine XH hr h ?_;clear hr;intro hr)
 |with_reducible intro _
 |simp only[go_sem,simprocAttr]
 |(with_reducible first|apply Xi|apply Xh|apply Xt)
 |(refine Xu ?_ ?_;.first|assumption|omega)
 |(with_reducible first|refine CallX.c ?_ _|refine OK.c hr hw ?_ (λy hr=>?_) _)
 |(refine Xq hr ?_;rintro rfl;with_reducible refine XQ ?_)
 |exact YE hr)
abbrev QkL:=g39.1
abbrev Qlv:=g39.2
attribute [instance] QkL Qlv
end Go.Sx
