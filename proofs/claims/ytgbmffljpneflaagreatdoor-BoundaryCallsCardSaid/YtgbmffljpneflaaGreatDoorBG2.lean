import Derived.Test.YtgbmffljpneflaaGreatDoorBG0
import Derived.Test.YtgbmffljpneflaaGreatDoorBG1
set_option linter.all false
namespace Go.Sx
open Go.Proofs
set_option maxRecDepth 10000
set_option maxHeartbeats 100000000
abbrev Qlj:=λN b (Q:(Ex Bool Unit)→Prop) n (st:St)=>∃c d,Qea N b n c=some d/\Q d/\((∃a,st.n=174/\st.t 1=.ept 64 a 3 0 0/\st.t 3=vi c/\st.s 64=some (a,.arr true 32 3 [e32 b] 0)))
abbrev Qlk:=λN b (Q:(Ex Bool Unit)→Prop) n (st:St)=>∃c d e,Qaw N b n c d=some e/\Q e/\((∃a,st.n=174/\st.t 1=.ept 64 a 3 0 0/\st.t 4=vi c/\st.t 5=vi d/\st.s 64=some (a,.arr true 32 3 [e32 b] 0)))
abbrev Qll:=λN d (Q:(Ex Bool Unit)→Prop) n (st:St)=>∃a b e,Qaq N d n a b=some e/\Q e/\((∃c,st.n=174/\st.t 1=.ept 64 c 3 0 0/\st.t 7=vi a/\st.t 8=vi b/\st.s 64=some (c,.arr true 32 3 [e32 d] 0)))
abbrev Qlm:=λN c (Q:(Ex Bool Unit)→Prop) n (st:St)=>∃a d,QdA N c n a=some d/\Q d/\((∃b,st.n=174/\st.t 1=.ept 64 b 3 0 0/\st.t 10=vi a/\st.s 64=some (b,.arr true 32 3 [e32 c] 0)))
abbrev Qln:=λN c d (Q:(List Int)→Prop) n (st:St)=>∃e b f,Qb9 N c d n e b=some f/\Q f/\((∃a,st.n=41/\st.s 1408=some (a,.arr false 39 1 (b.map e39) 0)/\st.t 2=s39 c/\st.t 8=vi d.1/\st.t 10=.osl 1408 a 1 0 b.length/\st.t 11=vi e))
abbrev Qny:=λN c d (Q:(Ex (Ws × Int × Int × Int) Unit)→Prop) n (st:St)=>∃f g,Qb2 N c d n f=some g/\Q g/\((∃a b,st.n=69/\st.s 896=some (a,.arr false 74 3 (c.e.map e74) 0)/\st.t 1=vu d/\st.t 4=.ept 256 b 1 0 0/\st.t 8=.osl 896 a 3 0 c.e.length/\st.t 9=vi f/\st.s 256=some (b,.arr true 35 1 [[.nsl]] 0)))
abbrev Qlo:=λN b a (Q:(Ex (List Int × Int) Unit)→Prop) n (st:St)=>∃c d e,QaD N b a n c d=some e/\Q e/\((st.n=49/\st.t 0=vu b/\st.t 1=s3 a/\st.t 6=vi c/\st.t 12=s3 a/\st.t 13=vi a.length/\st.t 14=vi d))
abbrev Qlp:=λN b (Q:(Int × List Int)→Prop) n (st:St)=>∃d e c f,QaE N b n d e c=some f/\Q f/\((∃a,st.n=49/\st.s 2624=some (a,.arr false 39 1 (c.map e39) 0)/\st.t 0=vu d/\st.t 9=.osl 2624 a 1 0 c.length/\st.t 29=s3 b/\st.t 30=vi b.length/\st.t 31=vi e)\/((st.n=49/\st.t 0=vu d/\st.t 9=.nsl/\st.t 29=s3 b/\st.t 30=vi b.length/\st.t 31=vi e)/\c=[]))
abbrev QeX:=λN a (Q:(Ex Int Unit)→Prop) n (st:St)=>∃b c,Qaj N a n b=some c/\Q c/\((st.n=19/\st.t 0=XkZ a/\st.t 1=.clo (.func 209) [] []/\st.t 7=vi a.length/\st.t 8=vi b))
abbrev Qje:=λN a (Q:Int→Prop) n (st:St)=>∃b c d,QbZ N a n b c=some d/\Q d/\((st.n=22/\st.t 5=vi b/\st.t 10=s72 a/\st.t 11=vi a.length/\st.t 12=vi c))
abbrev Qft:=λN a (Q:(Ex Int Unit)→Prop) n (st:St)=>∃b c,Qal N a n b=some c/\Q c/\((st.n=19/\st.t 0=s74 a/\st.t 1=.clo (.func 128) [] []/\st.t 7=vi a.length/\st.t 8=vi b))
abbrev Qmt:=λN b a (Q:(Ex Int Unit)→Prop) n (st:St)=>∃c d,QeM N b a n c=some d/\Q d/\((st.n=23/\st.t 1=vi b/\st.t 10=Xn0 a/\st.t 11=vi a.length/\st.t 12=vi c))
abbrev Qmu:=λN c d (Q:(Ex Bool Unit)→Prop) n (st:St)=>∃e f,QeQ N c d n e=some f/\Q f/\((∃a b,st.n=60/\st.t 2=.ept 128 a 6 0 0/\st.t 3=.ept 192 b 6 0 0/\st.t 5=vi e/\st.s 128=some (a,.arr true 27 6 [e27 c] 0)/\st.s 192=some (b,.arr true 27 6 [e27 d] 0)))
def g9:(∀N a0,OK (Qct N a0) 78 [.agg (e32 a0)] [] (λr=>.v (.bool r)) λr=>[])/\(∀N a0 a1 a2,OK (Qcv N a0 a1 a2) 244 [s39 a0,vu a1,s39 a2] [] (λr=>.tup [s39 r.1,vi r.2]) λr=>[])/\(∀N a0 a1,OK (QcV N a0 a1) 95 [.agg (e35 a0),vu a1] [] (λr=>.tup [.agg (e35 r.1),vi r.2.1,vi r.2.2.1,vi r.2.2.2]) λr=>[])/\(∀N a0 a1,OK (QdL N a0 a1) 277 [vu a0,s3 a1] [] (λr=>.tup [s39 r.1,vi r.2]) λr=>[])/\(∀N a0,OK (QaC N a0) 263 [XkZ a0,.clo (.func 209) [] []] [] (λr=>vi r) λr=>[])/\(∀N a0 a1,OK (QdZ N a0 a1) 126 [.agg (XnV a0),vi a1] [] (λr=>vi r) λr=>[])/\(∀N a0,OK (QaW N a0) 205 [s74 a0,.clo (.func 128) [] []] [] (λr=>vi r) λr=>[])/\(∀N a0 a1,OK (Qer N a0 a1) 350 [Yj a0,vi a1] [] (λr=>vi r) λr=>[])/\(∀N a0 a1,OK (Qh7 N a0 a1) 32 [.agg (e27 a0),.agg (e27 a1)] [] (λr=>.v (.bool r)) λr=>[]):=by
 refine⟨λN _=>rk Tryz.f78 ?_,λN _ _ _=>rk Tryz.f244 ?_,λN _ _=>rk Tryz.f95 ?_,λN _ _=>rk Tryz.f277 ?_,λN _=>rk Tryz.f263 ?_,λN _ _=>rk Tryz.f126 ?_,λN _=>rk Tryz.f205 ?_,λN _ _=>rk Tryz.f350 ?_,λN _ _=>rk Tryz.f32 ?_⟩<;>(rintro _ hw r hr C _ rfl hwf hf;have hse:=@Za _ hw;simp only[Tryz.f78,Tryz.f244,Tryz.f95,Tryz.f277,Tryz.f263,Tryz.f126,Tryz.f205,Tryz.f350,Tryz.f32,Option.get!];(first|rw[Qct]at hr|rw[Qcv]at hr|rw[QcV]at hr|rw[QdL]at hr|rw[QaC]at hr|rw[QdZ]at hr|rw[QaW]at hr|rw[Qer]at hr|rw[Qh7]at hr);repeat' first
 |(refine El.el hr ?_;clear hr;intro hr)
 |(with_reducible intro h;refine Xx hr h ?_;clear hr;intro hr)
 |with_reducible intro _
 |(refine Xn hr ?_;rintro rfl;have hr:=hk;clear hk)
 |simp only[go_sem,simprocAttr,E,hl3,Xz,YL,YN,Kj,Xbz,Xay,hse]
 |(with_reducible first|apply Xi|apply Xh|apply Xs|apply Xq|apply Xr)
 |((first|with_reducible refine Yo hr ag ?_ ?_|(with_reducible refine Ye hr ?_ ?_;rotate_left;intro p;rotate_right));(·simp only[go_sem,simprocAttr,hse]);intro hp hn hd hr;(try have hl3:=hd _ e3);(try simp only[go_sem,simprocAttr]at hl3);(try have Xz:=hd _ e39);(try simp only[go_sem,simprocAttr]at Xz);(try have YL:=hd _ e72);(try simp only[go_sem,simprocAttr]at YL);(try have YN:=hd _ e74);(try simp only[go_sem,simprocAttr]at YN);(try have Kj:=hd _ e78);(try simp only[go_sem,simprocAttr]at Kj);(try have Xbz:=hd _ V1);(try simp only[go_sem,simprocAttr]at Xbz);(try have Xay:=hd _ XiK);(try simp only[go_sem,simprocAttr]at Xay))
 |(refine Xt ?_ ?_;.first|assumption|omega)
 |(with_reducible first|refine CallX.c ?_ _|refine OK.c hr hw ?_ (λy hr=>?_) _|refine IK hr hw ?_ (λy hr=>?_) _)
 |(with_reducible refine lp (Qlj N _) hr N ?_ (λex hq hk=>⟨_,ex,hq,hk,?_⟩) _;clear hr;(try clear E);rintro n1 st ⟨v1,ex,hr,hk,⟨_,E⟩⟩<;>(obtain _|n1:=n1<;>rw[Qea]at hr))
 |refine⟨_,WA _,_,_,hr,hk,?_⟩
 |(with_reducible refine lp (Qlk N _) hr N ?_ (λex hq hk=>⟨_,_,ex,hq,hk,?_⟩) _;clear hr;(try clear E);rintro n2 st ⟨v5,v6,ex,hr,hk,⟨_,E⟩⟩<;>(obtain _|n2:=n2<;>rw[Qaw]at hr))
 |refine⟨_,WA _,_,_,_,hr,hk,?_⟩
 |(with_reducible refine lp (Qll N _) hr N ?_ (λex hq hk=>⟨_,_,ex,hq,hk,?_⟩) _;clear hr;(try clear E);rintro n3 st ⟨v10,v11,ex,hr,hk,⟨_,E⟩⟩<;>(obtain _|n3:=n3<;>rw[Qaq]at hr))
 |(with_reducible refine lp (Qlm N _) hr N ?_ (λex hq hk=>⟨_,ex,hq,hk,?_⟩) _;clear hr;(try clear E);rintro n4 st ⟨v14,ex,hr,hk,⟨_,E⟩⟩<;>(obtain _|n4:=n4<;>rw[QdA]at hr))
 |(with_reducible refine lp (Qln N _ _) hr N ?_ (λex hq hk=>⟨_,_,ex,hq,hk,?_⟩) _;clear hr;(try clear E);rintro n1 st ⟨v2,v3,ex,hr,hk,⟨_,E⟩⟩<;>(obtain _|n1:=n1<;>rw[Qb9]at hr))
 |(with_reducible refine lp (Qny N _ _) hr N ?_ (λex hq hk=>⟨_,ex,hq,hk,?_⟩) _;clear hr;(try clear E);rintro n1 st ⟨v2,ex,hr,hk,⟨_,_,E⟩⟩<;>(obtain _|n1:=n1<;>rw[Qb2]at hr))
 |(with_reducible refine lp (Qlo N _ _) hr N ?_ (λex hq hk=>⟨_,_,ex,hq,hk,?_⟩) _;clear hr;(try clear E);rintro n1 st ⟨v1,v2,ex,hr,hk,E⟩<;>(obtain _|n1:=n1<;>rw[QaD]at hr))
 |(with_reducible refine lp (Qlp N _) hr N ?_ (λex hq hk=>⟨_,_,_,ex,hq,hk,?_⟩) _;clear hr;(try clear E);rintro n2 st ⟨v5,v6,v7,ex,hr,hk,(⟨_,E⟩|⟨E,z0⟩)⟩<;>(try subst z0)<;>(obtain _|n2:=n2<;>rw[QaE]at hr))
 |refine⟨_,WA _,_,_,_,_,hr,hk,?_⟩
 |(with_reducible refine lp (QeX N _) hr N ?_ (λex hq hk=>⟨_,ex,hq,hk,?_⟩) _;clear hr;(try clear E);rintro n1 st ⟨v1,ex,hr,hk,E⟩<;>(obtain _|n1:=n1<;>rw[Qaj]at hr))
 |(with_reducible refine lp (Qje N _) hr N ?_ (λex hq hk=>⟨_,_,ex,hq,hk,?_⟩) _;clear hr;(try clear E);rintro n1 st ⟨v2,v3,ex,hr,hk,E⟩<;>(obtain _|n1:=n1<;>rw[QbZ]at hr))
 |(with_reducible refine lp (Qft N _) hr N ?_ (λex hq hk=>⟨_,ex,hq,hk,?_⟩) _;clear hr;(try clear E);rintro n1 st ⟨v1,ex,hr,hk,E⟩<;>(obtain _|n1:=n1<;>rw[Qal]at hr))
 |(with_reducible refine lp (Qmt N _ _) hr N ?_ (λex hq hk=>⟨_,ex,hq,hk,?_⟩) _;clear hr;(try clear E);rintro n1 st ⟨v2,ex,hr,hk,E⟩<;>(obtain _|n1:=n1<;>rw[QeM]at hr))
 |(with_reducible refine lp (Qmu N _ _) hr N ?_ (λex hq hk=>⟨_,ex,hq,hk,?_⟩) _;clear hr;(try clear E);rintro n1 st ⟨v2,ex,hr,hk,⟨_,_,E⟩⟩<;>(obtain _|n1:=n1<;>rw[QeQ]at hr))
 |refine dc 78 27 hf 156 [(0,130046,[]),(0,129929,[]),(2,129929,[]),(0,129927,[]),(14,129921,[]),(30,129921,[]),(62,129921,[]),(0,129407,[]),(0,129279,[]),(384,129151,[]),(1023,129024,[]),(0,10239,[]),(2048,10239,[]),(0,8191,[]),(14336,2047,[]),(30720,2047,[]),(63488,2047,[]),(131071,0,[])] ?_
 |refine dc 95 9 hf 5 [(0,4433230883192832,[]),(1,4433230883192832,[]),(0,4415638697148416,[[],[256]]),(0,404620279021569,[[],[256]]),(0,263882790666241,[[],[256]]),(24,123145302310913,[[],[256]]),(56,123145302310913,[[],[256]]),(120,123145302310913,[[],[256]]),(3,4433230883192832,[[256],[]]),(263,4362862139015168,[]),(1023,0,[]),(2047,0,[])] ?_
 |refine dc 32 6 hf 49 [(0,996,[]),(1,996,[]),(0,995,[]),(7,992,[]),(15,992,[]),(0,159,[]),(32,159,[]),(0,127,[]),(224,31,[]),(480,31,[]),(1023,0,[])] ?_
 |(refine Xn hr ?_;rintro rfl;with_reducible refine XK ?_)
 |exact Yr hr
 |((first|refine Xx (c:=true) hr rfl ?_|refine Xx (c:=false) hr rfl ?_|refine Xx hr ag ?_);intro hr)
 |fail)
abbrev Qoy:=g9.1
abbrev Qoz:=g9.2.1
abbrev QqM:=g9.2.2.1
abbrev QoA:=g9.2.2.2.1
abbrev Qfj:=g9.2.2.2.2.1
abbrev QjD:=g9.2.2.2.2.2.1
abbrev QfS:=g9.2.2.2.2.2.2.1
abbrev QpR:=g9.2.2.2.2.2.2.2.1
abbrev QpS:=g9.2.2.2.2.2.2.2.2
attribute [instance] Qoy Qoz QqM QoA Qfj QjD QfS QpR QpS
def g7:(∀N a0,OK (Qf7 N a0) 37 [.ept 1000000 0 2 0 0] [.arr true 49 2 [[s3 a0.L,vi a0.at_]] 0] (λr=>.agg (e23 r.1)) λr=>[.arr true 49 2 [[s3 r.2.L,vi r.2.at_]] 0])/\(∀N a0,OK (Qd8 N a0) 239 [.agg (e23 a0)] [] (λr=>vi r) λr=>[])/\(∀N a0 a1,OK (Qdl N a0 a1) 238 [.agg (e23 a0),vu a1] [] (λr=>.tup [vi r.1,vi r.2.1,vi r.2.2]) λr=>[])/\(∀N a0 a1,OK (Qcs N a0 a1) 168 [.agg (ZS a0),vi a1] [] (λr=>.v (.bool r)) λr=>[])/\(∀N a0 a1 a2,OK (QbR N a0 a1 a2) 285 [Yj a0,vi a1,vi a2] [] (λr=>.tup [.fsl 114 4 (r.1.map XU),vi r.2]) λr=>[])/\(∀N a0 a1 a2,OK (Qeu N a0 a1 a2) 171 [.agg (e35 a0),vi a1,vi a2] [] (λr=>.tup [vu r.1,vi r.2]) λr=>[])/\(∀N a0,OK (QfL N a0) 301 [.agg (e23 a0)] [] (λr=>vi r) λr=>[])/\(∀N a0 a1,OK (Qcc N a0 a1) 202 [.agg (e23 a0),vu a1] [] (λr=>.tup [vi r.1,vi r.2.1,vi r.2.2]) λr=>[])/\(∀N a0 a1 a2,OK (Qh0 N a0 a1 a2) 325 [s39 a0,vu a1,vi a2] [] (λr=>.tup [.fsl 39 1 (r.1.map e39),vi r.2]) λr=>[])/\(∀N a0,OK (QgQ N a0) 52 [.agg (e27 a0)] [] (λr=>.agg (e27 r)) λr=>[])/\(∀N a0,OK (QdN N a0) 225 [.agg (e32 a0)] [] (λr=>.agg [.fsl 72 3 (r.S.map e72),.fsl 78 3 (r.x.map e78),.fsl 3 1 (r.i.map e3)]) λr=>[])/\(∀N a0 a1 a2,OK (Qfg N a0 a1 a2) 274 [.agg (e27 a0),s39 a1,vi a2] [] (λr=>.tup [.agg (e27 r.1),vi r.2]) λr=>[])/\(∀N a0 a1,OK (Qbm N a0 a1) 368 [s3 a0,vi a1] [] (λr=>.v (.bool r)) λr=>[]):=by
 refine⟨λN _=>rk Tryz.f37 ?_,λN _=>rk Tryz.f239 ?_,λN _ _=>rk Tryz.f238 ?_,λN _ _=>rk Tryz.f168 ?_,λN _ _ _=>rq Tryz.f285 [1216] ?_,λN _ _ _=>rk Tryz.f171 ?_,λN _=>rk Tryz.f301 ?_,λN _ _=>rk Tryz.f202 ?_,λN _ _ _=>rq Tryz.f325 [1728] ?_,λN _=>rk Tryz.f52 ?_,λN _=>rq Tryz.f225 [320,512,704] ?_,λN _ _ _=>rk Tryz.f274 ?_,λN _ _=>rk Tryz.f368 ?_⟩<;>(rintro _ hw r hr C _ rfl hwf hf;have hse:=@Za _ hw;simp only[Tryz.f37,Tryz.f239,Tryz.f238,Tryz.f168,Tryz.f285,Tryz.f171,Tryz.f301,Tryz.f202,Tryz.f325,Tryz.f52,Tryz.f225,Tryz.f274,Tryz.f368,Option.get!];(first|rw[Qf7]at hr|rw[Qd8]at hr|rw[Qdl]at hr|rw[Qcs]at hr|rw[QbR]at hr|rw[Qeu]at hr|rw[QfL]at hr|rw[Qcc]at hr|rw[Qh0]at hr|rw[QgQ]at hr|rw[QdN]at hr|rw[Qfg]at hr|rw[Qbm]at hr);repeat' first
 |(refine El.el hr ?_;clear hr;intro hr)
 |(with_reducible intro h;refine Xx hr h ?_;clear hr;intro hr)
 |with_reducible intro _
 |simp only[go_sem,simprocAttr,hl3,YN,hse,Wl,Wn,Wz]
 |(with_reducible first|apply Xi|apply Xh|apply Xs|apply Xq|apply Xr)
 |((first|with_reducible refine Yo hr ag ?_ ?_|(with_reducible refine Ye hr ?_ ?_;rotate_left;intro p;rotate_right));(·simp only[go_sem,simprocAttr,hse,Wl,Wn,Wz]);intro hp hn hd hr;(try have hl3:=hd _ e3);(try simp only[go_sem,simprocAttr]at hl3);(try have YN:=hd _ e74);(try simp only[go_sem,simprocAttr]at YN))
 |(refine Xt ?_ ?_;.first|assumption|omega)
 |(with_reducible first|refine CallX.c ?_ _|refine OK.c hr hw ?_ (λy hr=>?_) _|refine IK hr hw ?_ (λy hr=>?_) _)
 |refine dc 37 1 hf 3 [(0,998,[[192],[512,1000000]]),(0,97,[[],[192,512]]),(2,97,[[1000000],[192,512]]),(7,992,[[],[512,1000000]]),(15,992,[[],[512,1000000]]),(0,223,[[512],[192,1000000]]),(0,63,[[],[192,512,1000000]]),(70,57,[[1000000],[192,512]]),(230,25,[[],[192]]),(486,25,[[],[192]]),(1023,0,[]),(2047,0,[[128],[]])] ?_
 |refine dc 238 6 hf 4 [(0,2063597568,[]),(0,2021654528,[]),(2,2021654528,[]),(7,2013265920,[]),(0,931135489,[]),(0,260046849,[]),(32,260046849,[]),(112,125829121,[]),(15,2013265920,[]),(511,0,[]),(1023,0,[])] ?_
 |refine dc 202 6 hf 4 [(0,8254390272,[]),(0,8086618112,[]),(2,8086618112,[]),(7,8053063680,[]),(0,3724541953,[]),(0,1040187393,[]),(32,1040187393,[]),(112,503316481,[]),(15,8053063680,[]),(511,0,[]),(1023,0,[])] ?_
 |refine dc 52 1 hf 3 [(0,24,[]),(1,24,[]),(3,24,[[320],[]]),(0,7,[[],[320]]),(8,7,[[],[320]]),(31,64,[[512],[]]),(31,32,[[],[512]]),(127,0,[[64],[]]),(255,0,[]),(511,0,[[64],[]])] ?_
 |refine dc 225 1 hf 3 [(0,216,[]),(1,216,[]),(3,216,[[320],[]]),(0,199,[[],[320]]),(8,199,[[],[320]]),(31,192,[[512],[]]),(0,63,[[],[320,512]]),(64,63,[[],[320,512]]),(255,0,[[704],[]]),(511,0,[]),(1023,0,[[128],[]])] ?_
 |(refine Xn hr ?_;rintro rfl;with_reducible refine XK ?_)
 |exact Yr hr
 |fail)
abbrev Qlq:=g7.1
abbrev Qj4:=g7.2.1
abbrev Qro:=g7.2.2.1
abbrev Qmv:=g7.2.2.2.1
abbrev QoB:=g7.2.2.2.2.1
abbrev QqN:=g7.2.2.2.2.2.1
abbrev QkC:=g7.2.2.2.2.2.2.1
abbrev Qrt:=g7.2.2.2.2.2.2.2.1
abbrev QpT:=g7.2.2.2.2.2.2.2.2.1
abbrev QoC:=g7.2.2.2.2.2.2.2.2.2.1
abbrev QoD:=g7.2.2.2.2.2.2.2.2.2.2.1
abbrev Qlr:=g7.2.2.2.2.2.2.2.2.2.2.2.1
abbrev QiG:=g7.2.2.2.2.2.2.2.2.2.2.2.2
attribute [instance] Qlq Qj4 Qro Qmv QoB QqN QkC Qrt QpT QoC QoD Qlr QiG
end Go.Sx
