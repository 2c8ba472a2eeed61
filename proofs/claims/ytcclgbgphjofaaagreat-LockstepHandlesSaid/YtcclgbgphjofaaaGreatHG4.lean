import Derived.Test.YtcclgbgphjofaaaGreatHG0
import Derived.Test.YtcclgbgphjofaaaGreatHG1
import Derived.Test.YtcclgbgphjofaaaGreatHG2
set_option linter.all false
namespace Go.Sx
open Go.Proofs
set_option maxRecDepth 10000
set_option maxHeartbeats 100000000
def g7:(∀N a0,OK (QfS N a0) 69 [.agg (e24 a0)] [] (λr=>.tup [.agg (e28 r.1),vi r.2]) λr=>[])/\(∀N a0,OK (Qb3 N a0) 118 [.agg (e24 a0)] [] (λr=>vi r) λr=>[])/\(∀N a0 a1,OK (Qfz N a0 a1) 192 [s55 a0,vu a1] [] (λr=>.tup [vi r.1,vi r.2]) λr=>[])/\(∀N a0,OK (QcA N a0) 123 [.agg (e84 a0)] [] (λr=>vi r) λr=>[])/\(∀N a0 a1 a2,OK (QcY N a0 a1 a2) 124 [s55 a0,vu a1,vi a2] [] (λr=>.tup [s55 r.1,vi r.2]) λr=>[])/\(∀N a0 a1,OK (Qdo N a0 a1) 201 [.agg (JH a0),vi a1] [] (λr=>.v (.bool r)) λr=>[])/\(∀N a0,OK (QfC N a0) 248 [.agg (e24 a0)] [] (λr=>vi r) λr=>[])/\(∀N a0 a1 a2,OK (QdL N a0 a1 a2) 164 [.agg (e35 a0),vi a1,vi a2] [] (λr=>.tup [vu r.1,vi r.2]) λr=>[])/\(∀N a0 a1,OK (QbS N a0 a1) 37 [.agg (e44 a0),.ept 1000000 0 2 0 0] [.arr true 66 2 [[s3 a1.L,vi a1.at_]] 0] (λr=>vu r.1) λr=>[.arr true 66 2 [[s3 r.2.L,vi r.2.at_]] 0])/\(∀N a0,OK (Qc6 N a0) 243 [.agg (e24 a0)] [] (λr=>vi r) λr=>[])/\(∀N a0,OK (QdO N a0) 109 [.agg (e84 a0)] [] (λr=>.v (.bool r)) λr=>[])/\(∀N a0 a1 a2,OK (Qfb N a0 a1 a2) 251 [.agg (e24 a0),vi a1,vi a2] [] (λr=>.tup [vu r.1,vi r.2]) λr=>[])/\(∀N a0 a1,OK (QfL N a0 a1) 179 [vu a0,vu a1] [] (λr=>.v (.bool r)) λr=>[]):=by
 refine⟨λN _=>rk Tryz.f69 ?_,λN _=>rk Tryz.f118 ?_,λN _ _=>rk Tryz.f192 ?_,λN _=>rk Tryz.f123 ?_,λN _ _ _=>rk Tryz.f124 ?_,λN _ _=>rk Tryz.f201 ?_,λN _=>rk Tryz.f248 ?_,λN _ _ _=>rk Tryz.f164 ?_,λN _ _=>rk Tryz.f37 ?_,λN _=>rk Tryz.f243 ?_,λN _=>rk Tryz.f109 ?_,λN _ _ _=>rk Tryz.f251 ?_,λN _ _=>rk Tryz.f179 ?_⟩<;>(rintro _ hw r hr C _ rfl hwf hf;simp only[Tryz.f69,Tryz.f118,Tryz.f192,Tryz.f123,Tryz.f124,Tryz.f201,Tryz.f248,Tryz.f164,Tryz.f37,Tryz.f243,Tryz.f109,Tryz.f251,Tryz.f179,Option.get!];(first|rw[QfS]at hr|rw[Qb3]at hr|rw[Qfz]at hr|rw[QcA]at hr|rw[QcY]at hr|rw[Qdo]at hr|rw[QfC]at hr|rw[QdL]at hr|rw[QbS]at hr|rw[Qc6]at hr|rw[QdO]at hr|rw[Qfb]at hr|rw[QfL]at hr);repeat' first
 |(refine El.el hr ?_;intro hr)
 |(with_reducible intro h;refine XH hr h ?_;intro hr)
 |with_reducible intro _
 |simp only[go_sem,simprocAttr,X2,Zx,XS,Wx,WR,UX]
 |(with_reducible first|apply Xk|apply Xj|apply XA|apply XF|apply XG)
 |((first|with_reducible refine Y1 hr ag ?_ ?_|(with_reducible refine YN hr ?_ ?_;rotate_left;intro p;rotate_right));(·simp only[go_sem,simprocAttr,Wx,WR,UX]);intro hp hn hd hr;(try have X2:=hd _ e55);(try simp only[go_sem,simprocAttr]at X2);(try have Zx:=hd _ K2);(try simp only[go_sem,simprocAttr]at Zx);(try have XS:=hd _ Y8);(try simp only[go_sem,simprocAttr]at XS))
 |(refine XB ?_ ?_;.first|assumption|omega)
 |(with_reducible first|refine CallX.c ?_ _|refine OK.c hr hw ?_ (λy hr=>?_) _|refine OK.d hr hw ?_ (λy hr=>?_) _)
 |refine dc 69 3 hf 8 [(0,1022,[[],[896,1088]]),(0,921,[[],[1088]]),(2,921,[[],[1088]]),(0,903,[[],[1088]]),(8,903,[[],[1088]]),(30,897,[[],[1088]]),(62,897,[[896],[1088]]),(0,127,[[],[896]]),(128,127,[[],[896]]),(384,127,[[1088],[896]]),(1023,0,[]),(2047,0,[[128],[]]),(4095,0,[])] ?_
 |refine dc 37 6 hf 20 [(0,924,[[],[1000000]]),(1,924,[[],[1000000]]),(0,139,[]),(0,135,[]),(12,131,[[1000000],[]]),(31,896,[[],[1000000]]),(63,896,[[],[1000000]]),(0,127,[[],[1000000]]),(156,99,[[1000000],[]]),(412,99,[]),(1023,0,[]),(2047,0,[])] ?_
 |refine dc 37 10 hf 35 [(0,28,[[],[1000000]]),(1,28,[[],[1000000]]),(0,11,[]),(0,7,[]),(12,3,[[1000000],[]]),(31,0,[]),(63,0,[]),(127,0,[])] ?_
 |refine dc 37 11 hf 42 [(0,508,[[],[1000000]]),(1,508,[[],[1000000]]),(0,243,[[],[1000000]]),(4,243,[[],[1000000]]),(0,111,[]),(0,31,[]),(32,31,[]),(112,15,[[1000000],[]]),(252,3,[]),(511,0,[]),(1023,0,[]),(2047,0,[])] ?_
 |refine dc 109 4 hf 28 [(0,0,[]),(1,0,[]),(3,0,[]),(7,0,[]),(15,56,[]),(31,56,[]),(63,56,[]),(15,7,[]),(143,7,[]),(399,7,[]),(1023,0,[]),(2047,0,[]),(4095,0,[])] ?_
 |(refine Xu hr ?_;rintro rfl;with_reducible refine X4 ?_)
 |exact Za hr
 |exact Yb hr
 |(apply Yc;assumption)
 |fail)
abbrev QnL:=g7.1
abbrev Qiv:=g7.2.1
abbrev Ql6:=g7.2.2.1
abbrev Qm4:=g7.2.2.2.1
abbrev Qm5:=g7.2.2.2.2.1
abbrev Qju:=g7.2.2.2.2.2.1
abbrev Ql7:=g7.2.2.2.2.2.2.1
abbrev QnM:=g7.2.2.2.2.2.2.2.1
abbrev Qjv:=g7.2.2.2.2.2.2.2.2.1
abbrev QiO:=g7.2.2.2.2.2.2.2.2.2.1
abbrev Qlh:=g7.2.2.2.2.2.2.2.2.2.2.1
abbrev Qli:=g7.2.2.2.2.2.2.2.2.2.2.2.1
abbrev QiP:=g7.2.2.2.2.2.2.2.2.2.2.2.2
attribute [instance] QnL Qiv Ql6 Qm4 Qm5 Qju Ql7 QnM Qjv QiO Qlh Qli QiP
def g6:(∀N a0,OK (Qe4 N a0) 28 [.ept 1000000 0 2 0 0] [.arr true 66 2 [[s3 a0.L,vi a0.at_]] 0] (λr=>.agg (e24 r.1)) λr=>[.arr true 66 2 [[s3 r.2.L,vi r.2.at_]] 0])/\(∀N a0,OK (QeE N a0) 30 [.agg (e24 a0)] [] (λr=>.tup [.agg (e42 r.1),vi r.2]) λr=>[])/\(∀N a0 a1,OK (QcI N a0 a1) 120 [.agg (e24 a0),vu a1] [] (λr=>.tup [vi r.1,vi r.2.1,vi r.2.2]) λr=>[])/\(∀N a0,OK (QcX N a0) 193 [.agg (e84 a0)] [] (λr=>.tup [vu r.1,vi r.2]) λr=>[])/\(∀N a0 a1 a2,OK (Qcb N a0 a1 a2) 191 [.agg (e24 a0),vi a1,vi a2] [] (λr=>.tup [vu r.1,vi r.2]) λr=>[])/\(∀N a0 a1,OK (QbK N a0 a1) 66 [.agg (e84 a0),vi a1] [] (λr=>.v (.bool r)) λr=>[])/\(∀N a0 a1 a2,OK (QdD N a0 a1 a2) 247 [ZH a0,vi a1,vi a2] [] (λr=>.tup [.fsl 144 4 (r.1.map Y8),vi r.2]) λr=>[])/\(∀N a0,OK (Qb6 N a0) 150 [.agg (Xqv a0)] [] (λr=>.tup [vu r.1,vi r.2]) λr=>[])/\(∀N a0 a1,OK (Qe8 N a0 a1) 167 [.agg (e42 a0),vu a1] [] (λr=>vi r) λr=>[])/\(∀N a0 a1,OK (Qdu N a0 a1) 221 [.agg (XhR a0),.agg (e24 a1)] [] (λr=>.v (.bool r)) λr=>[])/\(∀N a0 a1,OK (Qf9 N a0 a1) 170 [.agg (e24 a0),vu a1] [] (λr=>.tup [vi r.1,vi r.2.1,vi r.2.2]) λr=>[])/\(∀N a0 a1,OK (QgZ N a0 a1) 225 [s55 a0,vu a1] [] (λr=>.tup [vi r.1,vi r.2]) λr=>[])/\(∀N a0 a1 a2,OK (Qgb N a0 a1 a2) 117 [s55 a0,vu a1,vi a2] [] (λr=>.tup [.fsl 55 1 (r.1.map e55),vi r.2]) λr=>[])/\(∀N a0 a1,OK (QaY N a0 a1) 41 [s55 a0,vu a1] [] (λr=>.v (.bool r)) λr=>[]):=by
 refine⟨λN _=>rk Tryz.f28 ?_,λN _=>rk Tryz.f30 ?_,λN _ _=>rk Tryz.f120 ?_,λN _=>rk Tryz.f193 ?_,λN _ _ _=>rk Tryz.f191 ?_,λN _ _=>rk Tryz.f66 ?_,λN _ _ _=>rq Tryz.f247 [1216] ?_,λN _=>rk Tryz.f150 ?_,λN _ _=>rk Tryz.f167 ?_,λN _ _=>rk Tryz.f221 ?_,λN _ _=>rk Tryz.f170 ?_,λN _ _=>rk Tryz.f225 ?_,λN _ _ _=>rq Tryz.f117 [1728] ?_,λN _ _=>rk Tryz.f41 ?_⟩<;>(rintro _ hw r hr C _ rfl hwf hf;simp only[Tryz.f28,Tryz.f30,Tryz.f120,Tryz.f193,Tryz.f191,Tryz.f66,Tryz.f247,Tryz.f150,Tryz.f167,Tryz.f221,Tryz.f170,Tryz.f225,Tryz.f117,Tryz.f41,Option.get!];(first|rw[Qe4]at hr|rw[QeE]at hr|rw[QcI]at hr|rw[QcX]at hr|rw[Qcb]at hr|rw[QbK]at hr|rw[QdD]at hr|rw[Qb6]at hr|rw[Qe8]at hr|rw[Qdu]at hr|rw[Qf9]at hr|rw[QgZ]at hr|rw[Qgb]at hr|rw[QaY]at hr);repeat' first
 |(refine El.el hr ?_;intro hr)
 |(with_reducible intro h;refine XH hr h ?_;intro hr)
 |with_reducible intro _
 |simp only[go_sem,simprocAttr,hl3,Wx,WR,UX]
 |(with_reducible first|apply Xk|apply Xj|apply XA|apply XF|apply XG)
 |((first|with_reducible refine Y1 hr ag ?_ ?_|(with_reducible refine YN hr ?_ ?_;rotate_left;intro p;rotate_right));(·simp only[go_sem,simprocAttr,Wx,WR,UX]);intro hp hn hd hr;(try have hl3:=hd _ e3);(try simp only[go_sem,simprocAttr]at hl3))
 |(refine XB ?_ ?_;.first|assumption|omega)
 |(with_reducible first|refine CallX.c ?_ _|refine OK.c hr hw ?_ (λy hr=>?_) _|refine OK.d hr hw ?_ (λy hr=>?_) _)
 |refine dc 28 1 hf 3 [(0,998,[[192],[512,1000000]]),(0,97,[[],[192,512]]),(2,97,[[1000000],[192,512]]),(7,992,[[],[512,1000000]]),(15,992,[[],[512,1000000]]),(0,223,[[512],[192,1000000]]),(0,63,[[],[192,512,1000000]]),(70,57,[[1000000],[192,512]]),(230,25,[[],[192]]),(486,25,[[],[192]]),(1023,0,[]),(2047,0,[[128],[]])] ?_
 |refine dc 120 6 hf 4 [(0,2063597568,[]),(0,2021654528,[]),(2,2021654528,[]),(7,2013265920,[]),(0,931135489,[]),(0,260046849,[]),(32,260046849,[]),(112,125829121,[]),(15,2013265920,[]),(511,0,[]),(1023,0,[])] ?_
 |refine dc 170 6 hf 4 [(0,8254390272,[]),(0,8086618112,[]),(2,8086618112,[]),(7,8053063680,[]),(0,3724541953,[]),(0,1040187393,[]),(32,1040187393,[]),(112,503316481,[]),(15,8053063680,[]),(511,0,[]),(1023,0,[])] ?_
 |(refine Xu hr ?_;rintro rfl;with_reducible refine X4 ?_)
 |exact Za hr
 |exact Yb hr
 |(apply Yc;assumption)
 |fail)
abbrev Qjw:=g6.1
abbrev QnN:=g6.2.1
abbrev Qn6:=g6.2.2.1
abbrev Qlj:=g6.2.2.2.1
abbrev Qkn:=g6.2.2.2.2.1
abbrev Qko:=g6.2.2.2.2.2.1
abbrev Ql8:=g6.2.2.2.2.2.2.1
abbrev Qlk:=g6.2.2.2.2.2.2.2.1
abbrev Qll:=g6.2.2.2.2.2.2.2.2.1
abbrev Qiw:=g6.2.2.2.2.2.2.2.2.2.1
abbrev Qob:=g6.2.2.2.2.2.2.2.2.2.2.1
abbrev Ql9:=g6.2.2.2.2.2.2.2.2.2.2.2.1
abbrev Qm6:=g6.2.2.2.2.2.2.2.2.2.2.2.2.1
abbrev QgE:=g6.2.2.2.2.2.2.2.2.2.2.2.2.2
attribute [instance] Qjw QnN Qn6 Qlj Qkn Qko Ql8 Qlk Qll Qiw Qob Ql9 Qm6 QgE
abbrev Qkp:=λN d (Q:(List Int)→Prop) n (st:St)=>∃f c g,Qbx N d n f c=some g/\Q g/\((∃a b,st.n=32/\st.s 1920=some (a,.arr false 55 1 (c.map e55) 0)/\st.t 1=.ept 64 b 1 0 0/\st.t 3=.osl 1920 a 1 0 c.length/\st.t 4=vi f/\st.s 64=some (b,.arr true 35 1 [[XT d.e]] 0))\/(∃b,(st.n=32/\st.t 1=.ept 64 b 1 0 0/\st.t 3=.nsl/\st.t 4=vi f/\st.s 64=some (b,.arr true 35 1 [[XT d.e]] 0))/\c=[]))
abbrev Qjx:=λN a b (Q:(Ex Int Unit)→Prop) n (st:St)=>∃c d,Qej N a b n c=some d/\Q d/\((st.n=31/\st.t 1=vi a/\st.t 5=Xr6 b/\st.t 6=vi c))
abbrev Qjy:=λN b a (Q:(Ex (List Int × Int) Unit)→Prop) n (st:St)=>∃c d e,QbT N b a n c d=some e/\Q e/\((st.n=49/\st.t 0=vu b/\st.t 1=s3 a/\st.t 6=vi c/\st.t 12=s3 a/\st.t 13=vi a.length/\st.t 14=vi d))
abbrev Qjz:=λN b (Q:(Int × List Int)→Prop) n (st:St)=>∃d e c f,QbU N b n d e c=some f/\Q f/\((∃a,st.n=49/\st.s 2624=some (a,.arr false 55 1 (c.map e55) 0)/\st.t 0=vu d/\st.t 9=.osl 2624 a 1 0 c.length/\st.t 29=s3 b/\st.t 30=vi b.length/\st.t 31=vi e)\/((st.n=49/\st.t 0=vu d/\st.t 9=.nsl/\st.t 29=s3 b/\st.t 30=vi b.length/\st.t 31=vi e)/\c=[]))
abbrev Qd2:=λN a (Q:(Ex Int Unit)→Prop) n (st:St)=>∃b c,Qag N a n b=some c/\Q c/\((st.n=19/\st.t 0=Xlf a/\st.t 1=.clo (.func 177) [] []/\st.t 7=vi a.length/\st.t 8=vi b))
abbrev QhM:=λN a (Q:Int→Prop) n (st:St)=>∃b c d,QbH N a n b c=some d/\Q d/\((st.n=22/\st.t 5=vi b/\st.t 10=Zd a/\st.t 11=vi a.length/\st.t 12=vi c))
abbrev Qeu:=λN a (Q:(Ex Int Unit)→Prop) n (st:St)=>∃b c,Qak N a n b=some c/\Q c/\((st.n=19/\st.t 0=XT a/\st.t 1=.clo (.func 102) [] []/\st.t 7=vi a.length/\st.t 8=vi b))
abbrev Qfd:=λN a c0 (Q:(Ex Int Unit)→Prop) n (st:St)=>∃b c,Qas N a c0 n b=some c/\Q c/\((st.n=19/\st.t 0=s55 a/\st.t 1=.clo (.func 112) [] [.ept 1000000 0 10 0 0]/\st.t 7=vi a.length/\st.t 8=vi b/\st.s 1000000=some (0,.arr true 52 10 [e52 c0] 0)))
def g9:(∀N a0,OK (Qbr N a0) 27 [.agg (e35 a0)] [] (λr=>.fsl 55 1 (r.map e55)) λr=>[])/\(∀N a0 a1,OK (QcR N a0 a1) 246 [ZH a0,vi a1] [] (λr=>vi r) λr=>[])/\(∀N a0 a1,OK (Qgq N a0 a1) 226 [vu a0,s3 a1] [] (λr=>.tup [s55 r.1,vi r.2]) λr=>[])/\(∀N a0,OK (Qah N a0) 218 [Xlf a0,.clo (.func 177) [] []] [] (λr=>vi r) λr=>[])/\(∀N a0 a1,OK (Qd3 N a0 a1) 100 [.agg (Xn5 a0),vi a1] [] (λr=>vi r) λr=>[])/\(∀N a0,OK (QaO N a0) 173 [XT a0,.clo (.func 102) [] []] [] (λr=>vi r) λr=>[])/\(∀N a0 c0,OK (Qbg N a0 c0) 178 [s55 a0,.clo (.func 112) [] [.ept 1000000 0 10 0 0]] [.arr true 52 10 [[vi c0.c.W,vi c0.c.p,s87 c0.T,Zd c0.l.S,Y9 c0.l.x,s3 c0.l.i,XT c0.g.e,XT c0.v.e,s90 c0.m,s55 c0.R]] 0] (λr=>vi r) λr=>[.arr true 52 10 [[vi c0.c.W,vi c0.c.p,s87 c0.T,Zd c0.l.S,Y9 c0.l.x,s3 c0.l.i,XT c0.g.e,XT c0.v.e,s90 c0.m,s55 c0.R]] 0]):=by
 refine⟨λN _=>rq Tryz.f27 [1920] ?_,λN _ _=>rk Tryz.f246 ?_,λN _ _=>rk Tryz.f226 ?_,λN _=>rk Tryz.f218 ?_,λN _ _=>rk Tryz.f100 ?_,λN _=>rk Tryz.f173 ?_,λN _ _=>rk Tryz.f178 ?_⟩<;>(rintro _ hw r hr C _ rfl hwf hf;simp only[Tryz.f27,Tryz.f246,Tryz.f226,Tryz.f218,Tryz.f100,Tryz.f173,Tryz.f178,Option.get!];(first|rw[Qbr]at hr|rw[QcR]at hr|rw[Qgq]at hr|rw[Qah]at hr|rw[Qd3]at hr|rw[QaO]at hr|rw[Qbg]at hr);repeat' first
 |(refine El.el hr ?_;intro hr)
 |(with_reducible intro h;refine XH hr h ?_;intro hr)
 |with_reducible intro _
 |(refine Xu hr ?_;rintro rfl;have hr:=hk;clear hk)
 |simp only[go_sem,simprocAttr,E,hl3,X2,YW,Zx,XbT,Xfg]
 |(with_reducible first|apply Xk|apply Xj|apply XA)
 |((first|with_reducible refine Y1 hr ag ?_ ?_|(with_reducible refine YN hr ?_ ?_;rotate_left;intro p;rotate_right));(·simp only[go_sem,simprocAttr]);intro hp hn hd hr;(try have hl3:=hd _ e3);(try simp only[go_sem,simprocAttr]at hl3);(try have X2:=hd _ e55);(try simp only[go_sem,simprocAttr]at X2);(try have YW:=hd _ Vl);(try simp only[go_sem,simprocAttr]at YW);(try have Zx:=hd _ K2);(try simp only[go_sem,simprocAttr]at Zx);(try have XbT:=hd _ Xam);(try simp only[go_sem,simprocAttr]at XbT);(try have Xfg:=hd _ Xn3);(try simp only[go_sem,simprocAttr]at Xfg))
 |(refine XB ?_ ?_;.first|assumption|omega)
 |(with_reducible first|refine CallX.c ?_ _|refine OK.c hr hw ?_ (λy hr=>?_) _)
 |(with_reducible refine lp (Qkp N _) hr N ?_ (λex hq hk=>⟨_,_,ex,hq,hk,?_⟩) _;clear hr;(try clear E);rintro n1 st ⟨v1,v2,ex,hr,hk,(⟨_,_,E⟩|⟨_,E,z0⟩)⟩<;>(try subst z0)<;>(obtain _|n1:=n1<;>rw[Qbx]at hr))
 |refine⟨_,WK _,_,_,_,hr,hk,?_⟩
 |(with_reducible refine lp (Qjx N _ _) hr N ?_ (λex hq hk=>⟨_,ex,hq,hk,?_⟩) _;clear hr;(try clear E);rintro n1 st ⟨v2,ex,hr,hk,E⟩<;>(obtain _|n1:=n1<;>rw[Qej]at hr))
 |refine⟨_,WK _,_,_,hr,hk,?_⟩
 |(with_reducible refine lp (Qjy N _ _) hr N ?_ (λex hq hk=>⟨_,_,ex,hq,hk,?_⟩) _;clear hr;(try clear E);rintro n1 st ⟨v1,v2,ex,hr,hk,E⟩<;>(obtain _|n1:=n1<;>rw[QbT]at hr))
 |(with_reducible refine lp (Qjz N _) hr N ?_ (λex hq hk=>⟨_,_,_,ex,hq,hk,?_⟩) _;clear hr;(try clear E);rintro n2 st ⟨v5,v6,v7,ex,hr,hk,(⟨_,E⟩|⟨E,z0⟩)⟩<;>(try subst z0)<;>(obtain _|n2:=n2<;>rw[QbU]at hr))
 |refine⟨_,WK _,_,_,_,_,hr,hk,?_⟩
 |(with_reducible refine lp (Qd2 N _) hr N ?_ (λex hq hk=>⟨_,ex,hq,hk,?_⟩) _;clear hr;(try clear E);rintro n1 st ⟨v1,ex,hr,hk,E⟩<;>(obtain _|n1:=n1<;>rw[Qag]at hr))
 |(with_reducible refine lp (QhM N _) hr N ?_ (λex hq hk=>⟨_,_,ex,hq,hk,?_⟩) _;clear hr;(try clear E);rintro n1 st ⟨v2,v3,ex,hr,hk,E⟩<;>(obtain _|n1:=n1<;>rw[QbH]at hr))
 |(with_reducible refine lp (Qeu N _) hr N ?_ (λex hq hk=>⟨_,ex,hq,hk,?_⟩) _;clear hr;(try clear E);rintro n1 st ⟨v1,ex,hr,hk,E⟩<;>(obtain _|n1:=n1<;>rw[Qak]at hr))
 |(with_reducible refine lp (Qfd N _ _) hr N ?_ (λex hq hk=>⟨_,ex,hq,hk,?_⟩) _;clear hr;(try clear E);rintro n1 st ⟨v1,ex,hr,hk,E⟩<;>(obtain _|n1:=n1<;>rw[Qas]at hr))
 |(refine Xu hr ?_;rintro rfl;with_reducible refine X4 ?_)
 |exact Za hr
 |exact Yb hr
 |(apply Yc;assumption)
 |((first|refine XH (c:=true) hr rfl ?_|refine XH (c:=false) hr rfl ?_|refine XH hr ag ?_);intro hr)
 |fail)
abbrev Qm7:=g9.1
abbrev Qma:=g9.2.1
abbrev Qmb:=g9.2.2.1
abbrev Qeo:=g9.2.2.2.1
abbrev Qh9:=g9.2.2.2.2.1
abbrev QeQ:=g9.2.2.2.2.2.1
abbrev Qfy:=g9.2.2.2.2.2.2
attribute [instance] Qm7 Qma Qmb Qeo Qh9 QeQ Qfy
end Go.Sx
