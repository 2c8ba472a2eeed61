import Derived.Test.YtgbmffljpneflaaGreatDoorSG0
import Derived.Test.YtgbmffljpneflaaGreatDoorSG1
import Derived.Test.YtgbmffljpneflaaGreatDoorSG2
set_option linter.all false
namespace Go.Sx
open Go.Proofs
set_option maxRecDepth 10000
set_option maxHeartbeats 100000000
def g8:(∀N a0,OK (QhD N a0) 105 [.agg (e23 a0)] [] (λr=>.tup [.agg (e27 r.1),vi r.2]) λr=>[])/\(∀N a0,OK (QcZ N a0) 166 [.agg (ZM a0)] [] (λr=>vi r) λr=>[])/\(∀N a0,OK (QcM N a0) 253 [.agg (ZM a0)] [] (λr=>.tup [vu r.1,vi r.2]) λr=>[])/\(∀N a0 a1 a2,OK (QdC N a0 a1 a2) 320 [s39 a0,vu a1,vi a2] [] (λr=>.tup [s39 r.1,vi r.2]) λr=>[])/\(∀N a0,OK (QgH N a0) 282 [.agg (e23 a0)] [] (λr=>vi r) λr=>[])/\(∀N a0 a1,OK (QhR N a0 a1) 199 [.agg (e43 a0),vu a1] [] (λr=>vi r) λr=>[])/\(∀N a0,OK (QdI N a0) 265 [.agg (ZM a0)] [] (λr=>.v (.bool r)) λr=>[])/\(∀N a0 a1 a2,OK (QdJ N a0 a1 a2) 303 [.agg (e23 a0),vi a1,vi a2] [] (λr=>.tup [vu r.1,vi r.2]) λr=>[])/\(∀N a0 a1,OK (Qah N a0 a1) 47 [s39 a0,vu a1] [] (λr=>.v (.bool r)) λr=>[])/\(∀N a0,OK (Qff N a0) 54 [.agg (e35 a0)] [] (λr=>.agg (e35 r)) λr=>[])/\(∀N a0,OK (Qiu N a0) 349 [.agg (e23 a0)] [] (λr=>vi r) λr=>[])/\(∀N a0 a1,OK (Qb8 N a0 a1) 313 [vu a0,vi a1] [] (λr=>.v (.bool r)) λr=>[])/\(∀N a0,OK (Qfk N a0) 275 [.agg (Xh9 a0)] [] (λr=>.v (.bool r)) λr=>[]):=by
 refine⟨λN _=>rk Tryz.f105 ?_,λN _=>rk Tryz.f166 ?_,λN _=>rk Tryz.f253 ?_,λN _ _ _=>rk Tryz.f320 ?_,λN _=>rk Tryz.f282 ?_,λN _ _=>rk Tryz.f199 ?_,λN _=>rk Tryz.f265 ?_,λN _ _ _=>rk Tryz.f303 ?_,λN _ _=>rk Tryz.f47 ?_,λN _=>rk Tryz.f54 ?_,λN _=>rk Tryz.f349 ?_,λN _ _=>rk Tryz.f313 ?_,λN _=>rk Tryz.f275 ?_⟩<;>(rintro _ hw r hr C _ rfl hwf hf;have hgw:=hw.1;have hse:=@Zn _ hw;simp only[Tryz.f105,Tryz.f166,Tryz.f253,Tryz.f320,Tryz.f282,Tryz.f199,Tryz.f265,Tryz.f303,Tryz.f47,Tryz.f54,Tryz.f349,Tryz.f313,Tryz.f275,Option.get!];(first|rw[QhD]at hr|rw[QcZ]at hr|rw[QcM]at hr|rw[QdC]at hr|rw[QgH]at hr|rw[QhR]at hr|rw[QdI]at hr|rw[QdJ]at hr|rw[Qah]at hr|rw[Qff]at hr|rw[Qiu]at hr|rw[Qb8]at hr|rw[Qfk]at hr);repeat' first
 |(refine El.el hr ?_;clear hr;intro hr)
 |(with_reducible intro h;refine Xv hr h ?_;clear hr;intro hr)
 |with_reducible intro _
 |simp only[go_sem,simprocAttr,hgw,hse,Wj,Wl,Ww]
 |(with_reducible first|apply Xi|apply Xh|apply Xo|apply Xr|apply Xs)
 |(refine Xp ?_ ?_;.first|assumption|omega)
 |(with_reducible refine Xcp hr ?_ ?_;(·simp only[go_sem]);intro p hp hn hd hr;;(try simp only[WT]at hn))
 |(with_reducible first|refine CallX.c ?_ _|refine OK.c hr hw ?_ (λy hr=>?_) _|refine IK hr hw ?_ (λy hr=>?_) _)
 |refine dc 105 3 hf 8 [(0,1022,[[],[896,1088]]),(0,921,[[],[1088]]),(2,921,[[],[1088]]),(0,903,[[],[1088]]),(8,903,[[],[1088]]),(30,897,[[],[1088]]),(62,897,[[896],[1088]]),(0,127,[[],[896]]),(128,127,[[],[896]]),(384,127,[[1088],[896]]),(1023,0,[]),(2047,0,[[128],[]]),(4095,0,[])] ?_
 |refine dc 265 4 hf 28 [(0,0,[]),(1,0,[]),(3,0,[]),(7,0,[]),(15,56,[]),(31,56,[]),(63,56,[]),(15,7,[]),(143,7,[]),(399,7,[]),(1023,0,[]),(2047,0,[]),(4095,0,[])] ?_
 |refine dc 275 3 hf 21 [(0,56,[]),(1,56,[]),(3,56,[]),(0,7,[]),(8,7,[]),(24,7,[]),(63,0,[]),(127,0,[]),(255,14336,[]),(511,14336,[]),(1023,14336,[]),(255,1792,[]),(2303,1792,[]),(6399,1792,[]),(16383,0,[]),(32767,0,[]),(65535,0,[])] ?_
 |(refine Xm hr ?_;rintro rfl;with_reducible refine XI ?_)
 |exact Ym hr
 |fail)
abbrev QqB:=g8.1
abbrev QpD:=g8.2.1
abbrev Qnm:=g8.2.2.1
abbrev QpE:=g8.2.2.2.1
abbrev Qos:=g8.2.2.2.2.1
abbrev Qnn:=g8.2.2.2.2.2.1
abbrev Qno:=g8.2.2.2.2.2.2.1
abbrev Qnp:=g8.2.2.2.2.2.2.2.1
abbrev QhL:=g8.2.2.2.2.2.2.2.2.1
abbrev Qnq:=g8.2.2.2.2.2.2.2.2.2.1
abbrev QpF:=g8.2.2.2.2.2.2.2.2.2.2.1
abbrev QqC:=g8.2.2.2.2.2.2.2.2.2.2.2.1
abbrev Qnr:=g8.2.2.2.2.2.2.2.2.2.2.2.2
attribute [instance] QqB QpD Qnm QpE Qos Qnn Qno Qnp QhL Qnq QpF QqC Qnr
abbrev Qlb:=λN b (Q:(Ex Bool Unit)→Prop) n (st:St)=>∃c d,Qd1 N b n c=some d/\Q d/\((∃a,st.n=174/\st.t 1=.ept 64 a 3 0 0/\st.t 3=vi c/\st.s 64=some (a,.arr true 32 3 [e32 b] 0)))
abbrev Qlc:=λN b (Q:(Ex Bool Unit)→Prop) n (st:St)=>∃c d e,Qaw N b n c d=some e/\Q e/\((∃a,st.n=174/\st.t 1=.ept 64 a 3 0 0/\st.t 4=vi c/\st.t 5=vi d/\st.s 64=some (a,.arr true 32 3 [e32 b] 0)))
abbrev Qld:=λN d (Q:(Ex Bool Unit)→Prop) n (st:St)=>∃a b e,Qap N d n a b=some e/\Q e/\((∃c,st.n=174/\st.t 1=.ept 64 c 3 0 0/\st.t 7=vi a/\st.t 8=vi b/\st.s 64=some (c,.arr true 32 3 [e32 d] 0)))
abbrev Qle:=λN c (Q:(Ex Bool Unit)→Prop) n (st:St)=>∃a d,Qdn N c n a=some d/\Q d/\((∃b,st.n=174/\st.t 1=.ept 64 b 3 0 0/\st.t 10=vi a/\st.s 64=some (b,.arr true 32 3 [e32 c] 0)))
abbrev Qlf:=λN c d (Q:(List Int)→Prop) n (st:St)=>∃e b f,Qb1 N c d n e b=some f/\Q f/\((∃a,st.n=41/\st.s 1408=some (a,.arr false 39 1 (b.map e39) 0)/\st.t 2=s39 c/\st.t 8=vi d.1/\st.t 10=.osl 1408 a 1 0 b.length/\st.t 11=vi e))
abbrev Qns:=λN c d (Q:(Ex (Wr × Int × Int × Int) Unit)→Prop) n (st:St)=>∃f g,QbU N c d n f=some g/\Q g/\((∃a b,st.n=69/\st.s 896=some (a,.arr false 74 3 (c.e.map e74) 0)/\st.t 1=vu d/\st.t 4=.ept 256 b 1 0 0/\st.t 8=.osl 896 a 3 0 c.e.length/\st.t 9=vi f/\st.s 256=some (b,.arr true 35 1 [[.nsl]] 0)))
abbrev Qgc:=λN a (Q:(Ex Int Unit)→Prop) n (st:St)=>∃b c,QaG N a n b=some c/\Q c/\((st.n=19/\st.t 0=s39 a/\st.t 1=.clo (.func 327) [] []/\st.t 7=vi a.length/\st.t 8=vi b))
abbrev QfV:=λN a b (Q:(Ex Int Unit)→Prop) n (st:St)=>∃c d,Qax N a b n c=some d/\Q d/\((st.n=19/\st.t 0=s76 a/\st.t 1=.clo (.func 260) [] [.ept 1000000 0 1 0 0]/\st.t 7=vi a.length/\st.t 8=vi c/\st.s 1000000=some (0,.arr true 39 1 [[vu b]] 0)))
abbrev Qg5:=λN a (Q:(Ex Int Unit)→Prop) n (st:St)=>∃b c,QaP N a n b=some c/\Q c/\((st.n=19/\st.t 0=s3 a/\st.t 1=.clo (.func 123) [] []/\st.t 7=vi a.length/\st.t 8=vi b))
abbrev QhB:=λN a (Q:Int→Prop) n (st:St)=>∃b c d,QaY N a n b c=some d/\Q d/\((st.n=36/\st.t 0=s24 a/\st.t 3=vi b/\st.t 9=s24 a/\st.t 10=vi a.length/\st.t 11=vi c))
abbrev QhC:=λN b (Q:(List Int)→Prop) n (st:St)=>∃d c e,QaZ N b n d c=some e/\Q e/\((∃a,st.n=36/\st.s 1536=some (a,.arr false 39 1 (c.map e39) 0)/\st.t 6=.osl 1536 a 1 0 c.length/\st.t 25=s24 b/\st.t 26=vi b.length/\st.t 27=vi d))
abbrev Qnt:=λN c (Q:(List Wv)→Prop) n (st:St)=>∃d b e,Qfi N c n d b=some e/\Q e/\((∃a,st.n=59/\st.s 1856=some (a,.arr false 114 4 (b.map XW) 0)/\st.t 6=vi c.k/\st.t 7=.osl 1856 a 4 0 b.length/\st.t 8=vi d))
def g9:(∀N a0,OK (Qcg N a0) 78 [.agg (e32 a0)] [] (λr=>.v (.bool r)) λr=>[])/\(∀N a0 a1 a2,OK (Qci N a0 a1 a2) 244 [s39 a0,vu a1,s39 a2] [] (λr=>.tup [s39 r.1,vi r.2]) λr=>[])/\(∀N a0 a1,OK (QcH N a0 a1) 95 [.agg (e35 a0),vu a1] [] (λr=>.tup [.agg (e35 r.1),vi r.2.1,vi r.2.2.1,vi r.2.2.2]) λr=>[])/\(∀N a0,OK (Qbn N a0) 210 [s39 a0,.clo (.func 327) [] []] [] (λr=>vi r) λr=>[])/\(∀N a0 c0,OK (Qa9 N a0 c0) 259 [s76 a0,.clo (.func 260) [] [.ept 1000000 0 1 0 0]] [.arr true 39 1 [[vu c0]] 0] (λr=>vi r) λr=>[.arr true 39 1 [[vu c0]] 0])/\(∀N a0,OK (QbW N a0) 203 [s3 a0,.clo (.func 123) [] []] [] (λr=>vi r) λr=>[])/\(∀N a0,OK (QaU N a0) 134 [s24 a0] [] (λr=>s39 r) λr=>[])/\(∀N a0 a1,OK (QiV N a0 a1) 358 [Ya a0,vi a1] [] (λr=>.tup [Ya r.1,vi r.2]) λr=>[]):=by
 refine⟨λN _=>rk Tryz.f78 ?_,λN _ _ _=>rk Tryz.f244 ?_,λN _ _=>rk Tryz.f95 ?_,λN _=>rk Tryz.f210 ?_,λN _ _=>rk Tryz.f259 ?_,λN _=>rk Tryz.f203 ?_,λN _=>rk Tryz.f134 ?_,λN _ _=>rk Tryz.f358 ?_⟩<;>(rintro _ hw r hr C _ rfl hwf hf;have hse:=@Zn _ hw;simp only[Tryz.f78,Tryz.f244,Tryz.f95,Tryz.f210,Tryz.f259,Tryz.f203,Tryz.f134,Tryz.f358,Option.get!];(first|rw[Qcg]at hr|rw[Qci]at hr|rw[QcH]at hr|rw[Qbn]at hr|rw[Qa9]at hr|rw[QbW]at hr|rw[QaU]at hr|rw[QiV]at hr);repeat' first
 |(refine El.el hr ?_;clear hr;intro hr)
 |(with_reducible intro h;refine Xv hr h ?_;clear hr;intro hr)
 |with_reducible intro _
 |(refine Xm hr ?_;rintro rfl;have hr:=hk;clear hk)
 |simp only[go_sem,simprocAttr,E,hl3,Xo8,Xw,Yw,YJ,ZH,Kf,Xk,hm3,Xsd,Yv,Vh,Vi,Xse,Xsf,XU,hse]
 |(with_reducible first|apply Xi|apply Xh|apply Xo|apply Xr|apply Xs)
 |((first|with_reducible refine Yn hr ag ?_ ?_|(with_reducible refine Yj hr ?_ ?_;rotate_left;intro p;rotate_right));(·simp only[go_sem,simprocAttr,hse]);intro hp hn hd hr;(try have hm3:=hl3);(try have hl3:=hd _ e3);(try simp only[go_sem,simprocAttr]at hl3);(try have Xsd:=Xo8);(try have Xo8:=hd _ e24);(try simp only[go_sem,simprocAttr]at Xo8);(try have Yv:=Xw);(try have Xw:=hd _ e39);(try simp only[go_sem,simprocAttr]at Xw);(try have Vh:=Yw);(try have Yw:=hd _ e72);(try simp only[go_sem,simprocAttr]at Yw);(try have Vi:=YJ);(try have YJ:=hd _ e74);(try simp only[go_sem,simprocAttr]at YJ);(try have Xse:=ZH);(try have ZH:=hd _ e76);(try simp only[go_sem,simprocAttr]at ZH);(try have Xsf:=Kf);(try have Kf:=hd _ e78);(try simp only[go_sem,simprocAttr]at Kf);(try have XU:=Xk);(try have Xk:=hd _ XW);(try simp only[go_sem,simprocAttr]at Xk))
 |(refine Xp ?_ ?_;.first|assumption|omega)
 |(with_reducible first|refine CallX.c ?_ _|refine OK.c hr hw ?_ (λy hr=>?_) _|refine IK hr hw ?_ (λy hr=>?_) _)
 |(with_reducible refine lp (Qlb N _) hr N ?_ (λex hq hk=>⟨_,ex,hq,hk,?_⟩) _;clear hr;(try clear E);rintro n1 st ⟨v1,ex,hr,hk,⟨_,E⟩⟩<;>(obtain _|n1:=n1<;>rw[Qd1]at hr))
 |refine⟨_,WA _,_,_,hr,hk,?_⟩
 |(with_reducible refine lp (Qlc N _) hr N ?_ (λex hq hk=>⟨_,_,ex,hq,hk,?_⟩) _;clear hr;(try clear E);rintro n2 st ⟨v5,v6,ex,hr,hk,⟨_,E⟩⟩<;>(obtain _|n2:=n2<;>rw[Qaw]at hr))
 |refine⟨_,WA _,_,_,_,hr,hk,?_⟩
 |(with_reducible refine lp (Qld N _) hr N ?_ (λex hq hk=>⟨_,_,ex,hq,hk,?_⟩) _;clear hr;(try clear E);rintro n3 st ⟨v10,v11,ex,hr,hk,⟨_,E⟩⟩<;>(obtain _|n3:=n3<;>rw[Qap]at hr))
 |(with_reducible refine lp (Qle N _) hr N ?_ (λex hq hk=>⟨_,ex,hq,hk,?_⟩) _;clear hr;(try clear E);rintro n4 st ⟨v14,ex,hr,hk,⟨_,E⟩⟩<;>(obtain _|n4:=n4<;>rw[Qdn]at hr))
 |(with_reducible refine lp (Qlf N _ _) hr N ?_ (λex hq hk=>⟨_,_,ex,hq,hk,?_⟩) _;clear hr;(try clear E);rintro n1 st ⟨v2,v3,ex,hr,hk,⟨_,E⟩⟩<;>(obtain _|n1:=n1<;>rw[Qb1]at hr))
 |(with_reducible refine lp (Qns N _ _) hr N ?_ (λex hq hk=>⟨_,ex,hq,hk,?_⟩) _;clear hr;(try clear E);rintro n1 st ⟨v2,ex,hr,hk,⟨_,_,E⟩⟩<;>(obtain _|n1:=n1<;>rw[QbU]at hr))
 |(with_reducible refine lp (Qgc N _) hr N ?_ (λex hq hk=>⟨_,ex,hq,hk,?_⟩) _;clear hr;(try clear E);rintro n1 st ⟨v1,ex,hr,hk,E⟩<;>(obtain _|n1:=n1<;>rw[QaG]at hr))
 |(with_reducible refine lp (QfV N _ _) hr N ?_ (λex hq hk=>⟨_,ex,hq,hk,?_⟩) _;clear hr;(try clear E);rintro n1 st ⟨v1,ex,hr,hk,E⟩<;>(obtain _|n1:=n1<;>rw[Qax]at hr))
 |(with_reducible refine lp (Qg5 N _) hr N ?_ (λex hq hk=>⟨_,ex,hq,hk,?_⟩) _;clear hr;(try clear E);rintro n1 st ⟨v1,ex,hr,hk,E⟩<;>(obtain _|n1:=n1<;>rw[QaP]at hr))
 |(with_reducible refine lp (QhB N _) hr N ?_ (λex hq hk=>⟨_,_,ex,hq,hk,?_⟩) _;clear hr;(try clear E);rintro n1 st ⟨v1,v2,ex,hr,hk,E⟩<;>(obtain _|n1:=n1<;>rw[QaY]at hr))
 |(with_reducible refine lp (QhC N _) hr N ?_ (λex hq hk=>⟨_,_,ex,hq,hk,?_⟩) _;clear hr;(try clear E);rintro n2 st ⟨v6,v7,ex,hr,hk,⟨_,E⟩⟩<;>(obtain _|n2:=n2<;>rw[QaZ]at hr))
 |(with_reducible refine lp (Qnt N _) hr N ?_ (λex hq hk=>⟨_,_,ex,hq,hk,?_⟩) _;clear hr;(try clear E);rintro n1 st ⟨v4,v5,ex,hr,hk,⟨_,E⟩⟩<;>(obtain _|n1:=n1<;>rw[Qfi]at hr))
 |refine dc 78 27 hf 156 [(0,130046,[]),(0,129929,[]),(2,129929,[]),(0,129927,[]),(14,129921,[]),(30,129921,[]),(62,129921,[]),(0,129407,[]),(0,129279,[]),(384,129151,[]),(1023,129024,[]),(0,10239,[]),(2048,10239,[]),(0,8191,[]),(14336,2047,[]),(30720,2047,[]),(63488,2047,[]),(131071,0,[])] ?_
 |refine dc 95 9 hf 5 [(0,4433230883192832,[]),(1,4433230883192832,[]),(0,4415638697148416,[[],[256]]),(0,404620279021569,[[],[256]]),(0,263882790666241,[[],[256]]),(24,123145302310913,[[],[256]]),(56,123145302310913,[[],[256]]),(120,123145302310913,[[],[256]]),(3,4433230883192832,[[256],[]]),(263,4362862139015168,[]),(1023,0,[]),(2047,0,[])] ?_
 |(refine Xm hr ?_;rintro rfl;with_reducible refine XI ?_)
 |exact Ym hr
 |((first|refine Xv (c:=true) hr rfl ?_|refine Xv (c:=false) hr rfl ?_|refine Xv hr ag ?_);intro hr)
 |fail)
abbrev Qot:=g9.1
abbrev Qou:=g9.2.1
abbrev QqD:=g9.2.2.1
abbrev QgN:=g9.2.2.2.1
abbrev Qgd:=g9.2.2.2.2.1
abbrev Qhx:=g9.2.2.2.2.2.1
abbrev Qh7:=g9.2.2.2.2.2.2.1
abbrev QqE:=g9.2.2.2.2.2.2.2
attribute [instance] Qot Qou QqD QgN Qgd Qhx Qh7 QqE
end Go.Sx
