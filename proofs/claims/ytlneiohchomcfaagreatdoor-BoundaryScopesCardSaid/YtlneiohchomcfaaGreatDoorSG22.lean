import Derived.Test.YtlneiohchomcfaaGreatDoorSG21
set_option linter.all false
namespace Go.Sx
open Go.Proofs Tryz
set_option maxRecDepth 10000
set_option maxHeartbeats 100000000
def g43:(∀N(a0:W3)(a1:Int)(a2:Int)(a3:Int),O1 (Qci N a0 a1 a2 a3) 103 [.agg (e38 a0),vi a1,vu a2,vu a3] (λr=>.tup [.agg (e38 r.1),vu r.2.1,vi r.2.2]))/\(∀N(a0:W3)(a1:Int)(a2:Int)(a3:Bool),O1 (Qbw N a0 a1 a2 a3) 183 [.agg (e38 a0),vu a1,vu a2,.v (.bool a3)] (λr=>.tup [vu r.1,vi r.2.1,vi r.2.2]))/\(∀N(a0:W3)(a1:Int)(a2:Int)(a3:Int),O1 (QcP N a0 a1 a2 a3) 105 [.agg (e38 a0),vi a1,vu a2,vu a3] (λr=>.tup [.agg (e38 r.1),vu r.2.1,vi r.2.2]))/\(∀N(a0:W3)(a1:Int)(a2:Int),O1 (Qdy N a0 a1 a2) 106 [.agg (e38 a0),vi a1,vu a2] (λr=>.tup [.agg (e38 r.1),vu r.2.1,vi r.2.2]))/\(∀N(a0:W3)(a1:Int)(a2:Int),O1 (Qe9 N a0 a1 a2) 109 [.agg (e38 a0),vi a1,vu a2] (λr=>.tup [.agg (e38 r.1),vu r.2.1,vi r.2.2]))/\(∀N(a0:W3)(a1:Int),O1 (Qct N a0 a1) 148 [.agg (e38 a0),vu a1] (λr=>.tup [vu r.1,vi r.2])):=by
 refine⟨λN _ _ _ _=>rk f103 ?_,λN _ _ _ _=>rk f183 ?_,λN _ _ _ _=>rk f105 ?_,λN _ _ _=>rk f106 ?_,λN _ _ _=>rk f109 ?_,λN _ _=>rk f148 ?_⟩<;>(rintro _ hw r hr C _ rfl hwf hf;simp only[f103,f183,f105,f106,f109,f148,Option.get!,Qci,Qbw,QcP,Qdy,Qe9,Qct]at hr⊢;repeat' first
 |(refine El.el hr ?_;clear hr;intro hr)
 |(with_reducible intro h;refine XH hr h ?_;clear hr;intro hr)
 |with_reducible intro _
 |simp only[go_sem,simprocAttr]
 |(with_reducible first|apply Xi|apply Xh|apply Xt|apply Xx|apply Xy)
 |(refine Xu ?_ ?_;.first|assumption|omega)
 |(with_reducible first|refine CallX.c ?_ _|refine OK.c hr hw ?_ (λy hr=>?_) _)
 |refine dq 105 9 hf [(1,[],[512]),(2,[],[512]),(3,[],[512]),(4,[512],[])] ?_
 |refine dq 105 10 hf [(1,[],[512]),(2,[],[512]),(3,[],[512]),(4,[512],[])] ?_
 |(refine Xq hr ?_;rintro rfl;with_reducible refine XQ ?_)
 |exact YE hr)
abbrev Qly:=g43.1
abbrev Qmv:=g43.2.1
abbrev Qmw:=g43.2.2.1
abbrev QkM:=g43.2.2.2.1
abbrev Qnw:=g43.2.2.2.2.1
abbrev Qmx:=g43.2.2.2.2.2
attribute [instance] Qly Qmv Qmw QkM Qnw Qmx
abbrev QjJ:=λN f r u v m o q Q n (st:St)=>∃y v15,Iv (QeK N f r u v m o q n y v15) Q ((∃a d g h j k l,st.n=110/\st.s 2560=some (a,.arr false 101 2 (v15.map VD) 0)/\st.s 2561=some (d,.arr false 49 1 ((((r.R.take 0) ++ u.1) ++ (r.R.drop u.1.length)).map e49) 0)/\st.t 2=.ept 128 g 13 0 0/\st.t 3=.ept 192 h 6 0 0/\st.t 8=.ept 512 j 6 0 0/\st.t 10=.ept 640 k 13 0 0/\st.t 12=.ept 768 l 3 0 0/\st.t 89=s49 m.2/\st.t 90=vi m.2.length/\st.t 91=vi y/\st.s 128=some (g,.arr true 38 13 [[vi 0,vi 0,.nsl,.nsl,vi 0,vi 0,.nsl,.nsl,.nsl,.nsl,.nsl,.nsl,.nsl]] 0)/\st.s 192=some (h,.arr true 60 6 [[vi 0,vi 0,vi 0,vi 0,vi 0,vi 0]] 0)/\st.s 512=some (j,.arr true 60 6 [e60 f.2.2.2.1] 0)/\st.s 640=some (k,.arr true 38 13 [[vi f.1.c.W,vi f.1.c.p,s49 f.1.w,YB f.1.p,vi f.1.s,vi f.1.b,Xcy v.1.S,Xew v.1.x,s3 v.1.i,JU o.1.e,JU q.1.e,.osl 2560 a 2 0 v15.length,.osl 2561 d 1 0 (((min 0 r.R.length) + u.1.length) + (r.R.length - u.1.length))]] 0)/\st.s 768=some (l,.arr true 345 3 [[vi v.2,vi o.2,vi q.2]] 0)))
instance Qpw:∀N(a0:W3),O1 (QgI N a0) 276 [.agg (e38 a0)] (λr=>.tup [.agg (e38 r.1),.agg (e60 r.2.1),vi r.2.2]):=by
 refineλN _=>rk f276 ?_<;>(rintro _ hw r hr C _ rfl hwf hf;have hse:=@ZZ _ hw;simp only[f276,Option.get!];(rw[QgI]at hr);repeat' first
 |(refine El.el hr ?_;clear hr;intro hr)
 |(with_reducible intro h;refine XH hr h ?_;clear hr;intro hr)
 |with_reducible intro _
 |(refine Xq hr ?_;rintro rfl;have hr:=hk;clear hk)
 |simp only[go_sem,simprocAttr,E,XB,Zj,hse,Wl,Wn,Wz]
 |(with_reducible first|apply Xi|apply Xh|apply Xt|apply Xx|apply Xy)
 |((first|with_reducible refine Yy hr ag ?_ ?_|(with_reducible refine Yt hr ?_ ?_;rotate_left;intro p;rotate_right));(·simp only[go_sem,simprocAttr,hse,Wl,Wn,Wz]);intro hp hn hd hr;(try have XB:=hd _ e49;simp only[go_sem,simprocAttr]at XB);(try have Zj:=hd _ VD;simp only[go_sem,simprocAttr]at Zj))
 |(refine Xu ?_ ?_;.first|assumption|omega)
 |(with_reducible refine XcX hr ?_ ?_;(·simp only[go_sem]);intro p hp hn hd hr;(try have XB:=hd _ e49;simp only[go_sem,simprocAttr]at XB);(try have Zj:=hd _ VD;simp only[go_sem,simprocAttr]at Zj))
 |(with_reducible first|refine CallX.c ?_ _|refine OK.c hr hw ?_ (λy hr=>?_) _|refine OK.d hr hw ?_ (λy hr=>?_) _)
 |(with_reducible refine lp (QjJ N _ _ _ _ _ _ _) hr N ?_ (λ_ p q=>⟨_,_,_,p,q,?_⟩) _;rintro n1 st ⟨_,_,_,hr,hk,⟨_,_,_,_,_,_,_,E⟩⟩<;>(obtain _|n1:=n1<;>rw[QeK]at hr))
 |refine⟨_,WD _,_,_,_,hr,hk,?_⟩
 |refine dq 276 3 hf [(0,[],[320,384,512]),(1,[],[320,384,512]),(2,[],[320,384,512]),(3,[],[320,384,512]),(4,[],[320,384,512]),(5,[],[320,384,512]),(6,[],[320,384,512]),(7,[],[320,384,512]),(8,[],[320,384,512]),(9,[],[320,384,512]),(10,[],[320,384,512]),(11,[],[320,384,512]),(12,[],[320,384,512]),(13,[],[320,384,512]),(14,[320],[384,512]),(15,[384],[320,512]),(16,[512],[320,384]),(17,[320],[]),(18,[384],[]),(20,[512],[])] ?_
 |refine dq 276 9 hf [(0,[],[384]),(1,[],[384]),(6,[384],[]),(7,[2561],[])] ?_
 |refine dq 276 11 hf [(0,[],[384]),(1,[],[384]),(7,[384],[]),(11,[],[640]),(13,[640],[]),(15,[768],[])] ?_
 |refine dq 276 12 hf [(0,[],[384]),(1,[],[384]),(7,[384],[]),(11,[],[640]),(13,[640],[]),(15,[768],[])] ?_
 |refine dq 276 21 hf [(1,[],[128]),(2,[128],[]),(3,[192],[])] ?_
 |(refine Xq hr ?_;rintro rfl;with_reducible refine XQ ?_)
 |exact YE hr
 |((first|refine XH (c:=true) hr rfl ?_|refine XH (c:=false) hr rfl ?_|refine XH hr ag ?_);intro hr)
 |rw[Ul ah]
 |omega
 |rw[Ul (by simp only[WJ,Um,Wn];omega)])
def g42:(∀N(a0:W3)(a1:Int)(a2:Int)(a3:Int)(a4:Int),O1 (QgO N a0 a1 a2 a3 a4) 9 [.agg (e38 a0),vi a1,vu a2,vu a3,vu a4] (λr=>.tup [.agg (e38 r.1),vu r.2.1,vi r.2.2]))/\(∀N(a0:W3)(a2:Int)(a3:Int)(a4:Int),O1 (Qdt N a0 a2 a3 a4) 9 [.agg (e38 a0),vi 17,vu a2,vu a3,vu a4] (λr=>.tup [.agg (e38 r.1),vu r.2.1,vi r.2.2])):=by
 refine⟨λN _ _ _ _ _=>rk f9 ?_,λN _ _ _ _=>rk f9 ?_⟩<;>(rintro _ hw r hr C _ rfl hwf hf;have hse:=@ZZ _ hw;simp only[f9,f9,Option.get!,QgO,Qdt]at hr⊢;repeat' first
 |(refine El.el hr ?_;clear hr;intro hr)
 |(with_reducible intro h;refine XH hr h ?_;clear hr;intro hr)
 |with_reducible intro _
 |simp only[go_sem,simprocAttr,hse]
 |(with_reducible first|apply Xi|apply Xh|apply Xt|apply Xx|apply Xy)
 |(refine Xu ?_ ?_;.first|assumption|omega)
 |(refine CallX.inl (f:=23) 16000 (fn:=f23) (rs:=[.cell 2 85]) (nt:=44) 1000 ac (λx=>?_) _;simp only[f23,Option.get!])
 |(refine CallX.inl (f:=76) 13600 (fn:=f76) (rs:=[.tmp 2,.tmp 3]) (nt:=33) 1000 ac (λx=>?_) _;simp only[f76,Option.get!])
 |(with_reducible first|refine CallX.c ?_ _|refine OK.c hr hw ?_ (λy hr=>?_) _|refine OK.d hr hw ?_ (λy hr=>?_) _)
 |refine dqi 13600 76 3 ⟨⟩ [(0,[],[870656]),(1,[],[870656]),(2,[],[870656]),(3,[],[870656]),(4,[],[870656]),(5,[],[870656]),(6,[],[870656]),(7,[],[870656]),(8,[],[870656]),(9,[],[870656]),(10,[],[870656]),(11,[],[870656]),(12,[],[870656]),(13,[],[870656]),(14,[870656],[]),(15,[870656],[])] ?_
 |(refine Xq hr ?_;rintro rfl;with_reducible refine XQ ?_)
 |exact YE hr
 |((first|refine XH (c:=true) hr rfl ?_|refine XH (c:=false) hr rfl ?_|refine XH hr ag ?_);intro hr))
abbrev Qil:=g42.1
abbrev Qh2:=g42.2
attribute [instance] Qil Qh2
def g45:(∀N(a0:W3)(a2:Int)(a3:Int)(a4:Int),O1 (QfS N a0 a2 a3 a4) 9 [.agg (e38 a0),vi 4,vu a2,vu a3,vu a4] (λr=>.tup [.agg (e38 r.1),vu r.2.1,vi r.2.2]))/\(∀N(a0:W3)(a2:Int)(a3:Int)(a4:Int),O1 (QdR N a0 a2 a3 a4) 9 [.agg (e38 a0),vi 6,vu a2,vu a3,vu a4] (λr=>.tup [.agg (e38 r.1),vu r.2.1,vi r.2.2]))/\(∀N(a0:W3)(a2:Int)(a3:Int)(a4:Int),O1 (QdS N a0 a2 a3 a4) 9 [.agg (e38 a0),vi 7,vu a2,vu a3,vu a4] (λr=>.tup [.agg (e38 r.1),vu r.2.1,vi r.2.2]))/\(∀N(a0:W3)(a2:Int)(a3:Int)(a4:Int),O1 (Qdu N a0 a2 a3 a4) 9 [.agg (e38 a0),vi 18,vu a2,vu a3,vu a4] (λr=>.tup [.agg (e38 r.1),vu r.2.1,vi r.2.2])):=by
 refine⟨λN _ _ _ _=>rk f9 ?_,λN _ _ _ _=>rk f9 ?_,λN _ _ _ _=>rk f9 ?_,λN _ _ _ _=>rk f9 ?_⟩<;>(rintro _ hw r hr C _ rfl hwf hf;have hse:=@ZZ _ hw;simp only[f9,f9,f9,f9,Option.get!,QfS,QdR,QdS,Qdu]at hr⊢;repeat' first
 |(refine El.el hr ?_;clear hr;intro hr)
 |(with_reducible intro h;refine XH hr h ?_;clear hr;intro hr)
 |with_reducible intro _
 |simp only[go_sem,simprocAttr,hse]
 |(with_reducible first|apply Xi|apply Xh|apply Xt|apply Xx|apply Xy)
 |(refine Xu ?_ ?_;.first|assumption|omega)
 |(refine CallX.inl (f:=23) 16000 (fn:=f23) (rs:=[.cell 2 85]) (nt:=44) 1000 ac (λx=>?_) _;simp only[f23,Option.get!])
 |(refine CallX.inl (f:=63) 9200 (fn:=f63) (rs:=[.tmp 2,.tmp 3]) (nt:=17) 1000 ac (λx=>?_) _;simp only[f63,Option.get!])
 |(refine CallX.inl (f:=65) 8000 (fn:=f65) (rs:=[.tmp 2,.tmp 3]) (nt:=8) 1000 ac (λx=>?_) _;simp only[f65,Option.get!])
 |(refine CallX.inl (f:=66) 15600 (fn:=f66) (rs:=[.tmp 2,.tmp 3]) (nt:=26) 1000 ac (λx=>?_) _;simp only[f66,Option.get!])
 |(refine CallX.inl (f:=77) 13200 (fn:=f77) (rs:=[.tmp 2,.tmp 3]) (nt:=44) 1000 ac (λx=>?_) _;simp only[f77,Option.get!])
 |(refine CallX.inl (f:=143) 8400 (fn:=f143) (rs:=[.cell 2 107,.tmp 3,.tmp 4]) (nt:=34) 1000 ac (λx=>?_) _;simp only[f143,Option.get!])
 |(refine CallX.inl (f:=144) 14000 (fn:=f144) (rs:=[.tmp 4,.tmp 5]) (nt:=29) 1000 ac (λx=>?_) _;simp only[f144,Option.get!])
 |(refine CallX.inl (f:=145) 6400 (fn:=f145) (rs:=[.tmp 4,.tmp 5,.tmp 6]) (nt:=45) 1000 ac (λx=>?_) _;simp only[f145,Option.get!])
 |(refine CallX.inl (f:=146) 16400 (fn:=f146) (rs:=[.tmp 8,.tmp 9]) (nt:=32) 1000 ac (λx=>?_) _;simp only[f146,Option.get!])
 |(refine CallX.inl (f:=147) 10000 (fn:=f147) (rs:=[.tmp 4,.tmp 5]) (nt:=38) 1000 ac (λx=>?_) _;simp only[f147,Option.get!])
 |(refine CallX.inl (f:=155) 12800 (fn:=f155) (rs:=[.tmp 4,.tmp 5]) (nt:=25) 1000 ac (λx=>?_) _;simp only[f155,Option.get!])
 |(with_reducible first|refine CallX.c ?_ _|refine OK.c hr hw ?_ (λy hr=>?_) _|refine OK.d hr hw ?_ (λy hr=>?_) _)
 |refine dp ?_
 |(refine Xq hr ?_;rintro rfl;with_reducible refine XQ ?_)
 |exact YE hr
 |((first|refine XH (c:=true) hr rfl ?_|refine XH (c:=false) hr rfl ?_|refine XH hr ag ?_);intro hr))
abbrev Qim:=g45.1
abbrev Qin:=g45.2.1
abbrev Qio:=g45.2.2.1
abbrev Qh3:=g45.2.2.2
attribute [instance] Qim Qin Qio Qh3
def g46:(∀N(a0:W3)(a1:Int)(a2:Int)(a3:Int)(a4:Int),O1 (Qbx N a0 a1 a2 a3 a4) 104 [.agg (e38 a0),vi a1,vu a2,vu a3,vu a4] (λr=>.tup [.agg (e38 r.1),vu r.2.1,vi r.2.2]))/\(∀N(a0:W3)(a1:Wv),O1 (Qhn N a0 a1) 223 [.agg (e38 a0),.agg (Z7 a1)] (λr=>.tup [.agg (e38 r.1),vu r.2.1,vi r.2.2])):=by
 refine⟨λN _ _ _ _ _=>rk f104 ?_,λN _ _=>rk f223 ?_⟩<;>(rintro _ hw r hr C _ rfl hwf hf;simp only[f104,f223,Option.get!,Qbx,Qhn]at hr⊢;repeat' first
 |(refine El.el hr ?_;clear hr;intro hr)
 |(with_reducible intro h;refine XH hr h ?_;clear hr;intro hr)
 |with_reducible intro _
 |simp only[go_sem,simprocAttr]
 |(with_reducible first|apply Xi|apply Xh|apply Xt)
 |(refine Xu ?_ ?_;.first|assumption|omega)
 |(with_reducible first|refine CallX.c ?_ _|refine OK.c hr hw ?_ (λy hr=>?_) _)
 |(refine Xq hr ?_;rintro rfl;with_reducible refine XQ ?_)
 |exact YE hr)
abbrev Qmy:=g46.1
abbrev Qn7:=g46.2
attribute [instance] Qmy Qn7
instance QpR:∀N(a0:W3)(a1:Int)(a2:Int)(a3:Int)(a4:Int),O1 (Qac N a0 a1 a2 a3 a4) 44 [.agg (e38 a0),vi a1,vu a2,vu a3,vu a4] (λr=>.tup [.agg (e38 r.1),vu r.2.1,vi r.2.2]):=by
 refineλN _ _ _ _ _=>rk f44 ?_<;>(rintro _ hw r hr C _ rfl hwf hf;simp only[f44,Option.get!];(rw[Qac]at hr);repeat' first
 |(refine El.el hr ?_;clear hr;intro hr)
 |(with_reducible intro h;refine XH hr h ?_;clear hr;intro hr)
 |with_reducible intro _
 |simp only[go_sem,simprocAttr]
 |(with_reducible first|apply Xi|apply Xh|apply Xt)
 |(refine Xu ?_ ?_;.first|assumption|omega)
 |(with_reducible first|refine CallX.c ?_ _|refine OK.c hr hw ?_ (λy hr=>?_) _)
 |(refine Xq hr ?_;rintro rfl;with_reducible refine XQ ?_)
 |exact YE hr)
instance Qol:∀N(a0:W3)(a2:Int)(a3:Int)(a4:Int),O1 (QdQ N a0 a2 a3 a4) 9 [.agg (e38 a0),vi 3,vu a2,vu a3,vu a4] (λr=>.tup [.agg (e38 r.1),vu r.2.1,vi r.2.2]):=by
 refineλN _ _ _ _=>rk f9 ?_<;>(rintro _ hw r hr C _ rfl hwf hf;have hse:=@ZZ _ hw;simp only[f9,Option.get!];(rw[QdQ]at hr);repeat' first
 |(refine El.el hr ?_;clear hr;intro hr)
 |(with_reducible intro h;refine XH hr h ?_;clear hr;intro hr)
 |with_reducible intro _
 |simp only[go_sem,simprocAttr,hse]
 |(with_reducible first|apply Xi|apply Xh|apply Xt|apply Xx|apply Xy)
 |(refine Xu ?_ ?_;.first|assumption|omega)
 |(refine CallX.inl (f:=23) 16000 (fn:=f23) (rs:=[.cell 2 85]) (nt:=44) 1000 ac (λx=>?_) _;simp only[f23,Option.get!])
 |(refine CallX.inl (f:=62) 12400 (fn:=f62) (rs:=[.tmp 2,.tmp 3]) (nt:=8) 1000 ac (λx=>?_) _;simp only[f62,Option.get!])
 |(refine CallX.inl (f:=142) 6800 (fn:=f142) (rs:=[.tmp 4,.tmp 5]) (nt:=104) 1000 ac (λx=>?_) _;simp only[f142,Option.get!])
 |(refine CallX.inl (f:=147) 10000 (fn:=f147) (rs:=[.tmp 4,.tmp 5]) (nt:=38) 1000 ac (λx=>?_) _;simp only[f147,Option.get!])
 |(with_reducible first|refine CallX.c ?_ _|refine OK.c hr hw ?_ (λy hr=>?_) _|refine OK.d hr hw ?_ (λy hr=>?_) _)
 |refine dqi 6800 142 13 ⟨⟩ [(0,[],[435968]),(1,[],[435968]),(2,[],[435968]),(3,[],[435968]),(4,[],[435968]),(5,[1920,1921],[435968]),(6,[],[435968]),(7,[],[435968]),(8,[],[435968]),(9,[],[435968]),(10,[435968],[1920,1921]),(11,[435968],[])] ?_
 |refine dp ?_
 |(refine Xq hr ?_;rintro rfl;with_reducible refine XQ ?_)
 |exact YE hr
 |((first|refine XH (c:=true) hr rfl ?_|refine XH (c:=false) hr rfl ?_|refine XH hr ag ?_);intro hr))
end Go.Sx
