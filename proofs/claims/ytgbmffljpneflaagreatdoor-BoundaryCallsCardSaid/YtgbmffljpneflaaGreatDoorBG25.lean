import Derived.Test.YtgbmffljpneflaaGreatDoorBG23
import Derived.Test.YtgbmffljpneflaaGreatDoorBG24
set_option linter.all false
namespace Go.Sx
open Go.Proofs
set_option maxRecDepth 10000
set_option maxHeartbeats 100000000
def g44:(∀N a0 a1 a2 a3,OK (Qcm N a0 a1 a2 a3) 25 [.agg (e38 a0),vi a1,vu a2,vu a3] [] (λr=>.tup [.agg (e38 r.1),vu r.2.1,vi r.2.2]) λr=>[])/\(∀N a0 a1 a2 a3,OK (Qcw N a0 a1 a2 a3) 89 [.agg (e38 a0),vu a1,vu a2,.v (.bool a3)] [] (λr=>.tup [vu r.1,vi r.2.1,vi r.2.2]) λr=>[])/\(∀N a0 a1 a2 a3,OK (Qcy N a0 a1 a2 a3) 27 [.agg (e38 a0),vi a1,vu a2,vu a3] [] (λr=>.tup [.agg (e38 r.1),vu r.2.1,vi r.2.2]) λr=>[])/\(∀N a0 a1 a2,OK (Qcz N a0 a1 a2) 28 [.agg (e38 a0),vi a1,vu a2] [] (λr=>.tup [.agg (e38 r.1),vu r.2.1,vi r.2.2]) λr=>[])/\(∀N a0 a1 a2,OK (Qe1 N a0 a1 a2) 31 [.agg (e38 a0),vi a1,vu a2] [] (λr=>.tup [.agg (e38 r.1),vu r.2.1,vi r.2.2]) λr=>[])/\(∀N a0 a1,OK (Qav N a0 a1) 148 [.agg (e38 a0),vu a1] [] (λr=>.tup [vu r.1,vi r.2]) λr=>[]):=by
 refine⟨λN _ _ _ _=>rk Tryz.f25 ?_,λN _ _ _ _=>rk Tryz.f89 ?_,λN _ _ _ _=>rk Tryz.f27 ?_,λN _ _ _=>rk Tryz.f28 ?_,λN _ _ _=>rk Tryz.f31 ?_,λN _ _=>rk Tryz.f148 ?_⟩<;>(rintro _ hw r hr C _ rfl hwf hf;simp only[Tryz.f25,Tryz.f89,Tryz.f27,Tryz.f28,Tryz.f31,Tryz.f148,Option.get!];(first|rw[Qcm]at hr|rw[Qcw]at hr|rw[Qcy]at hr|rw[Qcz]at hr|rw[Qe1]at hr|rw[Qav]at hr);repeat' first
 |(refine El.el hr ?_;clear hr;intro hr)
 |(with_reducible intro h;refine Xx hr h ?_;clear hr;intro hr)
 |with_reducible intro _
 |simp only[go_sem,simprocAttr]
 |(with_reducible first|apply Xi|apply Xh|apply Xs|apply Xq|apply Xr)
 |(refine Xt ?_ ?_;.first|assumption|omega)
 |(with_reducible first|refine CallX.c ?_ _|refine OK.c hr hw ?_ (λy hr=>?_) _)
 |refine dc 27 9 hf 46 [(0,14,[]),(0,1,[[],[512]]),(2,1,[[],[512]]),(6,1,[[],[512]]),(1,14,[[512],[]]),(31,0,[]),(63,0,[])] ?_
 |refine dc 27 10 hf 50 [(0,14,[]),(0,1,[[],[512]]),(2,1,[[],[512]]),(6,1,[[],[512]]),(1,14,[[512],[]]),(31,0,[]),(63,0,[])] ?_
 |(refine Xn hr ?_;rintro rfl;with_reducible refine XK ?_)
 |exact Yr hr
 |fail)
abbrev Qoa:=g44.1
abbrev Qpm:=g44.2.1
abbrev Qpn:=g44.2.2.1
abbrev Qnf:=g44.2.2.2.1
abbrev QqE:=g44.2.2.2.2.1
abbrev Qpo:=g44.2.2.2.2.2
attribute [instance] Qoa Qpm Qpn Qnf QqE Qpo
abbrev QlV:=λN f u v y m o q (Q:(List Ux)→Prop) n (st:St)=>∃z r A,Qfi N f u v y m o q n z r=some A/\Q A/\((∃a d g h j k l,st.n=110/\st.s 2560=some (a,.arr false 76 2 (r.map e76) 0)/\st.s 2561=some (d,.arr false 39 1 ((((u.R.take 0) ++ v.1) ++ (u.R.drop v.1.length)).map e39) 0)/\st.t 2=.ept 128 g 13 0 0/\st.t 3=.ept 192 h 6 0 0/\st.t 8=.ept 512 j 6 0 0/\st.t 10=.ept 640 k 13 0 0/\st.t 12=.ept 768 l 3 0 0/\st.t 89=s39 m.2/\st.t 90=vi m.2.length/\st.t 91=vi z/\st.s 128=some (g,.arr true 38 13 [[vi 0,vi 0,.nsl,.nsl,vi 0,vi 0,.nsl,.nsl,.nsl,.nsl,.nsl,.nsl,.nsl]] 0)/\st.s 192=some (h,.arr true 104 6 [[vi 0,vi 0,vi 0,vi 0,vi 0,vi 0]] 0)/\st.s 512=some (j,.arr true 104 6 [XhC f.2.2.2.1] 0)/\st.s 640=some (k,.arr true 38 13 [[vi f.1.c.W,vi f.1.c.p,s39 f.1.w,Yj f.1.p,vi f.1.s,vi f.1.b,s72 y.1.S,s78 y.1.x,s3 y.1.i,s74 o.1.e,s74 q.1.e,.osl 2560 a 2 0 r.length,.osl 2561 d 1 0 (((min 0 u.R.length) + v.1.length) + (u.R.length - v.1.length))]] 0)/\st.s 768=some (l,.arr true 342 3 [[vi y.2,vi o.2,vi q.2]] 0)))
instance QrB:∀N a0,OK (QhB N a0) 269 [.agg (e38 a0)] [] (λr=>.tup [.agg (e38 r.1),.agg (XhC r.2.1),vi r.2.2]) λr=>[]:=by
 refineλN _=>rk Tryz.f269 ?_<;>(rintro _ hw r hr C _ rfl hwf hf;have hse:=@Za _ hw;simp only[Tryz.f269,Option.get!];(rw[QhB]at hr);repeat' first
 |(refine El.el hr ?_;clear hr;intro hr)
 |(with_reducible intro h;refine Xx hr h ?_;clear hr;intro hr)
 |with_reducible intro _
 |(refine Xn hr ?_;rintro rfl;have hr:=hk;clear hk)
 |simp only[go_sem,simprocAttr,E,Xz,ZM,hse,Wl,Wn,Wz]
 |(with_reducible first|apply Xi|apply Xh|apply Xs|apply Xq|apply Xr)
 |((first|with_reducible refine Yo hr ag ?_ ?_|(with_reducible refine Ye hr ?_ ?_;rotate_left;intro p;rotate_right));(·simp only[go_sem,simprocAttr,hse,Wl,Wn,Wz]);intro hp hn hd hr;(try have Xz:=hd _ e39);(try simp only[go_sem,simprocAttr]at Xz);(try have ZM:=hd _ e76);(try simp only[go_sem,simprocAttr]at ZM))
 |(refine Xt ?_ ?_;.first|assumption|omega)
 |(with_reducible refine XcK hr ?_ ?_;(·simp only[go_sem]);intro p hp hn hd hr;(try have Xz:=hd _ e39);(try simp only[go_sem,simprocAttr]at Xz);(try have ZM:=hd _ e76);(try simp only[go_sem,simprocAttr]at ZM))
 |(with_reducible first|refine CallX.c ?_ _|refine OK.c hr hw ?_ (λy hr=>?_) _|refine IK hr hw ?_ (λy hr=>?_) _)
 |(with_reducible refine lp (QlV N _ _ _ _ _ _ _) hr N ?_ (λex hq hk=>⟨_,_,ex,hq,hk,?_⟩) _;clear hr;(try clear E);rintro n1 st ⟨v14,v15,ex,hr,hk,⟨_,_,_,_,_,_,_,E⟩⟩<;>(obtain _|n1:=n1<;>rw[Qfi]at hr))
 |refine⟨_,WA _,_,_,_,hr,hk,?_⟩
 |refine dc 269 3 hf 5 [(0,8126475,[[],[320,384,512]]),(1,8126475,[[],[320,384,512]]),(0,3342347,[[],[320,384,512]]),(4,3342347,[[],[320,384,512]]),(0,983051,[[],[320,384,512]]),(16,983051,[[],[320,384,512]]),(60,196619,[[],[320,384,512]]),(127,11,[[],[320,384,512]]),(255,11,[[],[320,384,512]]),(511,503316491,[[],[320,384,512]]),(511,486539275,[[],[320,384,512]]),(511,452984843,[[],[320,384,512]]),(511,385875983,[[],[320,384,512]]),(511,251658255,[[],[320,384,512]]),(0,536838154,[[320],[384,512]]),(0,536838153,[[384],[320,512]]),(0,536838147,[[512],[320,384]]),(115711,503316480,[[320],[]]),(247807,469762048,[[384],[]]),(511999,402653184,[]),(1040383,268435456,[[512],[]]),(2097151,0,[])] ?_
 |refine dc 269 9 hf 44 [(0,124,[[],[384]]),(1,124,[[],[384]]),(0,59,[]),(0,7,[]),(8,7,[]),(24,7,[]),(60,3,[[384],[]]),(127,0,[[2561],[]])] ?_
 |refine dc 269 11 hf 53 [(0,252,[[],[384]]),(1,252,[[],[384]]),(0,123,[]),(0,7,[]),(8,7,[]),(24,7,[]),(56,7,[]),(124,3,[[384],[]]),(255,0,[]),(511,0,[]),(1023,1024,[]),(1023,2560,[[],[640]]),(2047,1024,[]),(6143,1024,[[640],[]]),(16383,0,[]),(32767,0,[[768],[]])] ?_
 |refine dc 269 12 hf 67 [(0,252,[[],[384]]),(1,252,[[],[384]]),(0,123,[]),(0,7,[]),(8,7,[]),(24,7,[]),(56,7,[]),(124,3,[[384],[]]),(255,0,[]),(511,0,[]),(1023,1024,[]),(1023,2560,[[],[640]]),(2047,1024,[]),(6143,1024,[[640],[]]),(16383,0,[]),(32767,0,[[768],[]])] ?_
 |refine dc 269 21 hf 108 [(0,2,[]),(0,1,[[],[128]]),(1,2,[[128],[]]),(7,0,[[192],[]]),(15,0,[])] ?_
 |(refine Xn hr ?_;rintro rfl;with_reducible refine XK ?_)
 |exact Yr hr
 |((first|refine Xx (c:=true) hr rfl ?_|refine Xx (c:=false) hr rfl ?_|refine Xx hr ag ?_);intro hr)
 |rw[Uu ah]
 |omega
 |rw[Uu (by simp only[WR,W4,Wn];omega)]
 |fail)
def g43:(∀N a0 a1 a2 a3 a4,OK (Qfo N a0 a1 a2 a3 a4) 9 [.agg (e38 a0),vi a1,vu a2,vu a3,vu a4] [] (λr=>.tup [.agg (e38 r.1),vu r.2.1,vi r.2.2]) λr=>[])/\(∀N a0 a2 a3 a4,OK (QcR N a0 a2 a3 a4) 9 [.agg (e38 a0),vi 17,vu a2,vu a3,vu a4] [] (λr=>.tup [.agg (e38 r.1),vu r.2.1,vi r.2.2]) λr=>[]):=by
 refine⟨λN _ _ _ _ _=>rk Tryz.f9 ?_,λN _ _ _ _=>rk Tryz.f9 ?_⟩<;>(rintro _ hw r hr C _ rfl hwf hf;have hse:=@Za _ hw;simp only[Tryz.f9,Tryz.f9,Option.get!];(first|rw[Qfo]at hr|rw[QcR]at hr);repeat' first
 |(refine El.el hr ?_;clear hr;intro hr)
 |(with_reducible intro h;refine Xx hr h ?_;clear hr;intro hr)
 |with_reducible intro _
 |simp only[go_sem,simprocAttr,hse]
 |(with_reducible first|apply Xi|apply Xh|apply Xs|apply Xq|apply Xr)
 |(refine Xt ?_ ?_;.first|assumption|omega)
 |(refine CallX.inl (f:=22) 16000 (fn:=Tryz.f22) (rs:=[.cell 2 88]) (nt:=44) 1000 ac (λx=>?_) _;simp only[Tryz.f22,Option.get!])
 |(refine CallX.inl (f:=73) 13600 (fn:=Tryz.f73) (rs:=[.tmp 2,.tmp 3]) (nt:=33) 1000 ac (λx=>?_) _;simp only[Tryz.f73,Option.get!])
 |(with_reducible first|refine CallX.c ?_ _|refine OK.c hr hw ?_ (λy hr=>?_) _|refine IK hr hw ?_ (λy hr=>?_) _)
 |refine db 73 3 ⟨⟩ 4 [(0,253953,[[],[870656]]),(1,253953,[[],[870656]]),(3,253953,[[],[870656]]),(7,253953,[[],[870656]]),(15,253953,[[],[870656]]),(0,7937,[[],[870656]]),(32,7937,[[],[870656]]),(96,7937,[[],[870656]]),(224,7937,[[],[870656]]),(480,7937,[[],[870656]]),(1023,1,[[],[870656]]),(2047,1,[[],[870656]]),(4095,1048577,[[],[870656]]),(4095,524289,[[],[870656]]),(0,2097024,[[870656],[]]),(24575,1048576,[[870656],[]]),(65535,0,[])] rfl rfl ac ?_ _
 |(refine Xn hr ?_;rintro rfl;with_reducible refine XK ?_)
 |exact Yr hr
 |((first|refine Xx (c:=true) hr rfl ?_|refine Xx (c:=false) hr rfl ?_|refine Xx hr ag ?_);intro hr)
 |fail)
abbrev Qki:=g43.1
abbrev QjL:=g43.2
attribute [instance] Qki QjL
end Go.Sx
