import Derived.Test.YtokkmapiallffaaGreatWG17
set_option linter.all false
namespace Go.Sx
open Go.Proofs Tryz
set_option maxRecDepth 10000
set_option maxHeartbeats 100000000
def g42:(∀N(a0:Um)(a1:Int)(a2:Int)(a3:Int),O1 (QdH N a0 a1 a2 a3) 116 [.agg (e38 a0),vi a1,vu a2,vu a3] (λr=>.tup [.agg (e38 r.1),vu r.2.1,vi r.2.2]))/\(∀N(a0:Um)(a1:Int)(a2:Int)(a3:Bool),O1 (Qc0 N a0 a1 a2 a3) 196 [.agg (e38 a0),vu a1,vu a2,.v (.bool a3)] (λr=>.tup [vu r.1,vi r.2.1,vi r.2.2]))/\(∀N(a0:Um)(a1:Int)(a2:Int)(a3:Int),O1 (QcD N a0 a1 a2 a3) 118 [.agg (e38 a0),vi a1,vu a2,vu a3] (λr=>.tup [.agg (e38 r.1),vu r.2.1,vi r.2.2]))/\(∀N(a0:Um)(a1:Int)(a2:Int),O1 (Qdk N a0 a1 a2) 119 [.agg (e38 a0),vi a1,vu a2] (λr=>.tup [.agg (e38 r.1),vu r.2.1,vi r.2.2]))/\(∀N(a0:Um)(a1:Int)(a2:Int),O1 (QeQ N a0 a1 a2) 122 [.agg (e38 a0),vi a1,vu a2] (λr=>.tup [.agg (e38 r.1),vu r.2.1,vi r.2.2])):=by
 refine⟨λN _ _ _ _=>rk f116 ?_,λN _ _ _ _=>rk f196 ?_,λN _ _ _ _=>rk f118 ?_,λN _ _ _=>rk f119 ?_,λN _ _ _=>rk f122 ?_⟩<;>(rintro _ hw r hr C _ rfl hwf hf;simp only[f116,f196,f118,f119,f122,Option.get!,QdH,Qc0,QcD,Qdk,QeQ]at hr⊢;repeat' first
 |(refine El.el hr ?_;clear hr;intro hr)
 |(with_reducible intro h;refine XJ hr h ?_;clear hr;intro hr)
 |with_reducible intro _
 |simp only[go_sem,simprocAttr]
 |(with_reducible first|apply Xj|apply Xi|apply Xw|apply Xs|apply Xt)
 |(refine Xx ?_ ?_;.first|assumption|omega)
 |(with_reducible first|refine CallX.c ?_ _|refine OK.c hr hw ?_ (λy hr=>?_) _)
 |refine dq 118 9 hf [(1,[],[512]),(2,[],[512]),(3,[],[512]),(4,[512],[])] ?_
 |refine dq 118 10 hf [(1,[],[512]),(2,[],[512]),(3,[],[512]),(4,[512],[])] ?_
 |(refine Xp hr ?_;rintro rfl;with_reducible refine XT ?_)
 |exact YH hr)
abbrev Qlc:=g42.1
abbrev Ql8:=g42.2.1
abbrev Ql9:=g42.2.2.1
abbrev Qkt:=g42.2.2.2.1
abbrev Qm7:=g42.2.2.2.2
attribute [instance] Qlc Ql8 Ql9 Qkt Qm7
abbrev Qjr:=λN f r u v m o q Q n (st:St)=>∃y v15,Iv (Qer N f r u v m o q n y v15) Q ((∃a d g h j k l,st.n=110/\st.s 2560=some (a,.arr false 93 2 (v15.map e93) 0)/\st.s 2561=some (d,.arr false 52 1 ((((r.R.take 0) ++ u.1) ++ (r.R.drop u.1.length)).map e52) 0)/\st.t 2=.ept 128 g 13 0 0/\st.t 3=.ept 192 h 6 0 0/\st.t 8=.ept 512 j 6 0 0/\st.t 10=.ept 640 k 13 0 0/\st.t 12=.ept 768 l 3 0 0/\st.t 89=s52 m.2/\st.t 90=vi m.2.length/\st.t 91=vi y/\st.s 128=some (g,.arr true 38 13 [[vi 0,vi 0,.nsl,.nsl,vi 0,vi 0,.nsl,.nsl,.nsl,.nsl,.nsl,.nsl,.nsl]] 0)/\st.s 192=some (h,.arr true 47 6 [[vi 0,vi 0,vi 0,vi 0,vi 0,vi 0]] 0)/\st.s 512=some (j,.arr true 47 6 [e47 f.2.2.2.1] 0)/\st.s 640=some (k,.arr true 38 13 [[vi f.1.c.W,vi f.1.c.p,s52 f.1.w,Yz f.1.p,vi f.1.s,vi f.1.b,Xcv v.1.S,Xcu v.1.x,s3 v.1.i,s96 o.1.e,s96 q.1.e,.osl 2560 a 2 0 v15.length,.osl 2561 d 1 0 (((min 0 r.R.length) + u.1.length) + (r.R.length - u.1.length))]] 0)/\st.s 768=some (l,.arr true 86 3 [[vi v.2,vi o.2,vi q.2]] 0)))
instance Qo6:∀N(a0:Um),O1 (Qe5 N a0) 6 [.agg (e38 a0)] (λr=>.tup [.agg (e38 r.1),.agg (e47 r.2.1),vi r.2.2]):=by
 refineλN _=>rk f6 ?_<;>(rintro _ hw r hr C _ rfl hwf hf;have hse:=@Z3 _ hw;simp only[f6,Option.get!];(rw[Qe5]at hr);repeat' first
 |(refine El.el hr ?_;clear hr;intro hr)
 |(with_reducible intro h;refine XJ hr h ?_;clear hr;intro hr)
 |with_reducible intro _
 |(refine Xp hr ?_;rintro rfl;have hr:=hk;clear hk)
 |simp only[go_sem,simprocAttr,E,XA,KC,hse,Wl,Wo,WD]
 |(with_reducible first|apply Xj|apply Xi|apply Xw|apply Xs|apply Xt)
 |((first|with_reducible refine Yy hr ah ?_ ?_|(with_reducible refine Yr hr ?_ ?_;rotate_left;intro p;rotate_right));(·simp only[go_sem,simprocAttr,hse,Wl,Wo,WD]);intro hp hn hd hr;(try have XA:=hd _ e52;simp only[go_sem,simprocAttr]at XA);(try have KC:=hd _ e93;simp only[go_sem,simprocAttr]at KC))
 |(refine Xx ?_ ?_;.first|assumption|omega)
 |(with_reducible refine Xes hr ?_ ?_;(·simp only[go_sem]);intro p hp hn hd hr;(try have XA:=hd _ e52;simp only[go_sem,simprocAttr]at XA);(try have KC:=hd _ e93;simp only[go_sem,simprocAttr]at KC))
 |(with_reducible first|refine CallX.c ?_ _|refine OK.c hr hw ?_ (λy hr=>?_) _|refine OK.d hr hw ?_ (λy hr=>?_) _)
 |(with_reducible refine lp (Qjr N _ _ _ _ _ _ _) hr N ?_ (λ_ p q=>⟨_,_,_,p,q,?_⟩) _;rintro n1 st ⟨_,_,_,hr,hk,⟨_,_,_,_,_,_,_,E⟩⟩<;>(obtain _|n1:=n1<;>rw[Qer]at hr))
 |refine⟨_,Wz _,_,_,_,hr,hk,?_⟩
 |refine dq 6 3 hf [(0,[],[320,384,512]),(1,[],[320,384,512]),(2,[],[320,384,512]),(3,[],[320,384,512]),(4,[],[320,384,512]),(5,[],[320,384,512]),(6,[],[320,384,512]),(7,[],[320,384,512]),(8,[],[320,384,512]),(9,[],[320,384,512]),(10,[],[320,384,512]),(11,[],[320,384,512]),(12,[],[320,384,512]),(13,[],[320,384,512]),(14,[320],[384,512]),(15,[384],[320,512]),(16,[512],[320,384]),(17,[320],[]),(18,[384],[]),(20,[512],[])] ?_
 |refine dq 6 9 hf [(0,[],[384]),(1,[],[384]),(6,[384],[]),(7,[2561],[])] ?_
 |refine dq 6 11 hf [(0,[],[384]),(1,[],[384]),(7,[384],[]),(11,[],[640]),(13,[640],[]),(15,[768],[])] ?_
 |refine dq 6 12 hf [(0,[],[384]),(1,[],[384]),(7,[384],[]),(11,[],[640]),(13,[640],[]),(15,[768],[])] ?_
 |refine dq 6 21 hf [(1,[],[128]),(2,[128],[]),(3,[192],[])] ?_
 |(refine Xp hr ?_;rintro rfl;with_reducible refine XT ?_)
 |exact YH hr
 |((first|refine XJ (c:=true) hr rfl ?_|refine XJ (c:=false) hr rfl ?_|refine XJ hr ah ?_);intro hr)
 |rw[Uf ai]
 |omega
 |rw[Uf (by simp only[WM,Ug,Wo];omega)])
def g44:(∀N(a0:Um)(a1:Int)(a2:Int)(a3:Int)(a4:Int),O1 (Qc2 N a0 a1 a2 a3 a4) 117 [.agg (e38 a0),vi a1,vu a2,vu a3,vu a4] (λr=>.tup [.agg (e38 r.1),vu r.2.1,vi r.2.2]))/\(∀N(a0:Um)(a1:Wx),O1 (QhK N a0 a1) 12 [.agg (e38 a0),.agg (e59 a1)] (λr=>.tup [.agg (e38 r.1),vu r.2.1,vi r.2.2])):=by
 refine⟨λN _ _ _ _ _=>rk f117 ?_,λN _ _=>rk f12 ?_⟩<;>(rintro _ hw r hr C _ rfl hwf hf;simp only[f117,f12,Option.get!,Qc2,QhK]at hr⊢;repeat' first
 |(refine El.el hr ?_;clear hr;intro hr)
 |(with_reducible intro h;refine XJ hr h ?_;clear hr;intro hr)
 |with_reducible intro _
 |simp only[go_sem,simprocAttr]
 |(with_reducible first|apply Xj|apply Xi|apply Xw)
 |(refine Xx ?_ ?_;.first|assumption|omega)
 |(with_reducible first|refine CallX.c ?_ _|refine OK.c hr hw ?_ (λy hr=>?_) _)
 |(refine Xp hr ?_;rintro rfl;with_reducible refine XT ?_)
 |exact YH hr)
abbrev Qma:=g44.1
abbrev QnG:=g44.2
attribute [instance] Qma QnG
def g45:(∀N(a0:Um)(a1:Int)(a2:Int)(a3:Int)(a4:Int),O1 (Qag N a0 a1 a2 a3 a4) 58 [.agg (e38 a0),vi a1,vu a2,vu a3,vu a4] (λr=>.tup [.agg (e38 r.1),vu r.2.1,vi r.2.2]))/\(∀N,O1 (Qgq N) 10 [] (λr=>.v (.bool r))):=by
 refine⟨λN _ _ _ _ _=>rk f58 ?_,λN=>rk f10 ?_⟩<;>(rintro _ hw r hr C _ rfl hwf hf;simp only[f58,f10,Option.get!,Qag,Qgq]at hr⊢;repeat' first
 |(refine El.el hr ?_;clear hr;intro hr)
 |(with_reducible intro h;refine XJ hr h ?_;clear hr;intro hr)
 |with_reducible intro _
 |simp only[go_sem,simprocAttr]
 |(with_reducible first|apply Xj|apply Xi|apply Xw)
 |(refine Xx ?_ ?_;.first|assumption|omega)
 |(with_reducible first|refine CallX.c ?_ _|refine OK.c hr hw ?_ (λy hr=>?_) _)
 |(refine Xp hr ?_;rintro rfl;with_reducible refine XT ?_)
 |exact YH hr)
abbrev Qm8:=g45.1
abbrev Qmb:=g45.2
attribute [instance] Qm8 Qmb
instance QoL:∀N(a0:Io)(a1:Ou),O1 (QbQ N a0 a1) 20 [.agg (e44 a0),.agg (e80 a1)] (λr=>.tup [.agg (e44 r.1),vu r.2.1,vi r.2.2]):=by
 refineλN _ _=>rk f20 ?_<;>(rintro _ hw r hr C _ rfl hwf hf;simp only[f20,Option.get!];(rw[QbQ]at hr);repeat' first
 |(refine El.el hr ?_;clear hr;intro hr)
 |(with_reducible intro h;refine XJ hr h ?_;clear hr;intro hr)
 |with_reducible intro _
 |simp only[go_sem,simprocAttr]
 |(with_reducible first|apply Xj|apply Xi|apply Xw)
 |(refine Xx ?_ ?_;.first|assumption|omega)
 |(with_reducible first|refine CallX.c ?_ _|refine OK.c hr hw ?_ (λy hr=>?_) _)
 |(refine Xp hr ?_;rintro rfl;with_reducible refine XT ?_)
 |exact YH hr)
abbrev Qld:=λN p Q n (st:St)=>∃q r u v v6 v7 v8 v9 v10 v11 d v13 e v15 f v17 v18 v19 v20 g h i j k l m o,Iv (QfZ N p n q r u v v6 v7 v8 v9 v10 v11 d v13 e v15 f v17 v18 v19 v20 g h i j k l m o) Q ((∃a b c,st.n=33/\st.t 1=vi p/\st.t 4=.ept 256 a 24 0 0/\st.t 5=.ept 640 c 2 0 0/\st.t 6=.ept 384 b 24 0 0/\st.t 7=vi q/\st.s 256=some (a,.arr true 44 24 [[vi 0,vi 0,.nsl,.nsl,vi 0,vi 0,.nsl,.nsl,.nsl,.nsl,.nsl,.nsl,.nsl,vi 0,vi 0,.nsl,.nsl,.nsl,.nsl,.nsl,.nsl,.nsl,.nsl,.nsl]] 0)/\st.s 384=some (b,.arr true 44 24 [[vi v,vi v6,s52 v7,Yz v8,vi v9,vi v10,Xcv v11,Xcu d,s3 v13,s96 e,s96 v15,s93 f,s52 v17,vi v18,vi v19,XtP v20,Xcv g,Xcu h,s3 i,s96 j,s96 k,XtQ l,s52 m,s52 o]] 0)/\st.s 640=some (c,.arr true 62 2 [[s3 r,vi u]] 0)))
instance Qpr:∀N(a0:List Int)(a1:Int),O1 (Qhe N a0 a1) 5 [s3 a0,vi a1] (λr=>.agg (e44 r)):=by
 refineλN _ _=>rk f5 ?_<;>(rintro _ hw r hr C _ rfl hwf hf;have hse:=@Z3 _ hw;simp only[f5,Option.get!];(rw[Qhe]at hr);repeat' first
 |(refine El.el hr ?_;clear hr;intro hr)
 |(with_reducible intro h;refine XJ hr h ?_;clear hr;intro hr)
 |with_reducible intro _
 |(refine Xp hr ?_;rintro rfl;have hr:=hk;clear hk)
 |simp only[go_sem,simprocAttr,E,hse]
 |(with_reducible first|apply Xj|apply Xi|apply Xw|apply Xs|apply Xt)
 |(refine Xx ?_ ?_;.first|assumption|omega)
 |(with_reducible first|refine CallX.c ?_ _|refine OK.c hr hw ?_ (λy hr=>?_) _|refine OK.d hr hw ?_ (λy hr=>?_) _)
 |(with_reducible refine lp (Qld N _) hr N ?_ (λ_ p q=>⟨_,_,_,_,_,_,_,_,_,_,_,_,_,_,_,_,_,_,_,_,_,_,_,_,_,_,_,_,p,q,?_⟩) _;rintro n1 st ⟨_,_,_,_,_,_,_,_,_,_,_,_,_,_,_,_,_,_,_,_,_,_,_,_,_,_,_,_,hr,hk,⟨_,_,_,E⟩⟩<;>(obtain _|n1:=n1<;>rw[QfZ]at hr))
 |refine⟨_,Wz _,_,_,_,_,_,_,_,_,_,_,_,_,_,_,_,_,_,_,_,_,_,_,_,_,_,_,_,_,hr,hk,?_⟩
 |refine dq 5 6 hf [(0,[],[640]),(3,[640],[]),(7,[],[384]),(8,[],[384]),(9,[384],[])] ?_
 |(refine Xp hr ?_;rintro rfl;with_reducible refine XT ?_)
 |exact YH hr
 |((first|refine XJ (c:=true) hr rfl ?_|refine XJ (c:=false) hr rfl ?_|refine XJ hr ah ?_);intro hr))
abbrev Qh3:=λN f d e Q n (st:St)=>∃g,Iv (QdB N f d e n g) Q ((∃a b c,st.n=56/\st.s 1344=some (a,.arr false 52 1 (d.map e52) 0)/\st.s 1536=some (b,.arr false 52 1 (e.map e52) 0)/\st.t 3=.ept 192 c 13 0 0/\st.t 7=.osl 1344 a 1 0 d.length/\st.t 8=.osl 1536 b 1 0 e.length/\st.t 9=vi g/\st.s 192=some (c,.arr true 38 13 [e38 f.N] 0)))
instance Qor:∀N(a0:List Int),O1 (QfJ N a0) 3 [s3 a0] (λr=>.v (.bool r)):=by
 refineλN _=>rk f3 ?_<;>(rintro _ hw r hr C _ rfl hwf hf;have hse:=@Z3 _ hw;simp only[f3,Option.get!];(rw[QfJ]at hr);repeat' first
 |(refine El.el hr ?_;clear hr;intro hr)
 |(with_reducible intro h;refine XJ hr h ?_;clear hr;intro hr)
 |with_reducible intro _
 |(refine Xp hr ?_;rintro rfl;have hr:=hk;clear hk)
 |simp only[go_sem,simprocAttr,E,XA,hse]
 |(with_reducible first|apply Xj|apply Xi|apply Xw|apply Xs|apply Xt)
 |((first|with_reducible refine Yy hr ah ?_ ?_|(with_reducible refine Yr hr ?_ ?_;rotate_left;intro p;rotate_right));(·simp only[go_sem,simprocAttr,hse]);intro hp hn hd hr;(try have XA:=hd _ e52;simp only[go_sem,simprocAttr]at XA))
 |(refine Xx ?_ ?_;.first|assumption|omega)
 |(with_reducible first|refine CallX.c ?_ _|refine OK.c hr hw ?_ (λy hr=>?_) _|refine OK.d hr hw ?_ (λy hr=>?_) _)
 |(with_reducible refine lp (Qh3 N _ _ _) hr N ?_ (λ_ p q=>⟨_,_,p,q,?_⟩) _;rintro n1 st ⟨_,_,hr,hk,⟨_,_,_,E⟩⟩<;>(obtain _|n1:=n1<;>rw[QdB]at hr))
 |refine⟨_,Wz _,_,_,hr,hk,?_⟩
 |refine dq 3 3 hf [(2,[1344],[]),(3,[],[1344]),(4,[],[1344]),(5,[1536],[])] ?_
 |refine dp ?_
 |(refine Xp hr ?_;rintro rfl;with_reducible refine XT ?_)
 |exact YH hr
 |((first|refine XJ (c:=true) hr rfl ?_|refine XJ (c:=false) hr rfl ?_|refine XJ hr ah ?_);intro hr))
end Go.Sx
