import Derived.Test.YtcclgbgphjofaaaGreatHG5
import Derived.Test.YtcclgbgphjofaaaGreatHG6
set_option linter.all false
namespace Go.Sx
open Go.Proofs
set_option maxRecDepth 10000
set_option maxHeartbeats 100000000
def g13:(∀N a0,OK (Qbl N a0) 11 [.ept 1000000 0 2 0 0] [.arr true 66 2 [[s3 a0.L,vi a0.at_]] 0] (λr=>.agg (e44 r.1)) λr=>[.arr true 66 2 [[s3 r.2.L,vi r.2.at_]] 0])/\(∀N a0 a1,OK (Qec N a0 a1) 202 [.agg (JH a0),vu a1] [] (λr=>.agg (e84 r)) λr=>[])/\(∀N a0 a1,OK (Qc3 N a0 a1) 140 [.agg (e24 a0),.agg (e84 a1)] [] (λr=>.v (.bool r)) λr=>[])/\(∀N a0 a1,OK (Qct N a0 a1) 143 [.agg (e38 a0),vu a1] [] (λr=>.tup [.agg (e38 r.1),vu r.2.1,vi r.2.2]) λr=>[])/\(∀N a0 a1,OK (Qd7 N a0 a1) 91 [.agg (e32 a0),vi a1] [] (λr=>.tup [.agg (e32 r.1),vi r.2]) λr=>[])/\(∀N a0 a1,OK (QcV N a0 a1) 211 [.agg (e32 a0),vu a1] [] (λr=>vi r) λr=>[])/\(∀N a0 a1,OK (Qdv N a0 a1) 222 [.agg (XhR a0),.agg (e24 a1)] [] (λr=>.v (.bool r)) λr=>[])/\(∀N a0,OK (QdG N a0) 40 [.agg (e35 a0)] [] (λr=>.v (.bool r)) λr=>[])/\(∀N a0 a1,OK (Qco N a0 a1) 48 [.agg (e52 a0),s55 a1] [] (λr=>.v (.bool r)) λr=>[]):=by
 refine⟨λN _=>rk Tryz.f11 ?_,λN _ _=>rk Tryz.f202 ?_,λN _ _=>rk Tryz.f140 ?_,λN _ _=>rk Tryz.f143 ?_,λN _ _=>rk Tryz.f91 ?_,λN _ _=>rk Tryz.f211 ?_,λN _ _=>rk Tryz.f222 ?_,λN _=>rk Tryz.f40 ?_,λN _ _=>rk Tryz.f48 ?_⟩<;>(rintro _ hw r hr C _ rfl hwf hf;simp only[Tryz.f11,Tryz.f202,Tryz.f140,Tryz.f143,Tryz.f91,Tryz.f211,Tryz.f222,Tryz.f40,Tryz.f48,Option.get!];(first|rw[Qbl]at hr|rw[Qec]at hr|rw[Qc3]at hr|rw[Qct]at hr|rw[Qd7]at hr|rw[QcV]at hr|rw[Qdv]at hr|rw[QdG]at hr|rw[Qco]at hr);repeat' first
 |(refine El.el hr ?_;intro hr)
 |(with_reducible intro h;refine XH hr h ?_;intro hr)
 |with_reducible intro _
 |simp only[go_sem,simprocAttr]
 |(with_reducible first|apply Xk|apply Xj|apply XA|apply XF|apply XG)
 |(refine XB ?_ ?_;.first|assumption|omega)
 |(with_reducible first|refine CallX.c ?_ _|refine OK.c hr hw ?_ (λy hr=>?_) _|refine OK.d hr hw ?_ (λy hr=>?_) _)
 |refine dc 140 1 hf 13 [(0,0,[]),(1,0,[]),(3,0,[]),(7,0,[]),(15,0,[]),(31,0,[]),(63,0,[]),(127,0,[]),(255,6,[]),(255,1,[]),(767,1,[]),(2047,0,[]),(4095,0,[]),(8191,0,[]),(16383,0,[])] ?_
 |(refine Xu hr ?_;rintro rfl;with_reducible refine X4 ?_)
 |exact Za hr
 |exact Yb hr
 |(apply Yc;assumption)
 |fail)
abbrev QiU:=g13.1
abbrev QnT:=g13.2.1
abbrev Qnk:=g13.2.2.1
abbrev Qmi:=g13.2.2.2.1
abbrev Qnl:=g13.2.2.2.2.1
abbrev Qmj:=g13.2.2.2.2.2.1
abbrev Qiz:=g13.2.2.2.2.2.2.1
abbrev Qmk:=g13.2.2.2.2.2.2.2.1
abbrev Qib:=g13.2.2.2.2.2.2.2.2
attribute [instance] QiU QnT Qnk Qmi Qnl Qmj Qiz Qmk Qib
def g14:(∀N a0 a1 a2,OK (QgH N a0 a1 a2) 263 [.agg (e28 a0),vi a1,vi a2] [] (λr=>vu r) λr=>[])/\(∀N a0 a1,OK (QdE N a0 a1) 133 [.agg (JH a0),vu a1] [] (λr=>vu r) λr=>[])/\(∀N a0 a1 a2 a3 a4,OK (QeU N a0 a1 a2 a3 a4) 250 [.agg (e24 a0),ZH a1,vi a2,vi a3,vi a4] [] (λr=>.tup [ZH r.1,vi r.2]) λr=>[])/\(∀N a0 a1 a2,OK (QdM N a0 a1 a2) 152 [.agg (e32 a0),vi a1,vi a2] [] (λr=>.tup [.agg (e32 r.1),vi r.2]) λr=>[])/\(∀N a0 a1 a2,OK (QbR N a0 a1 a2) 208 [.agg (e28 a0),vu a1,vi a2] [] (λr=>.agg (e28 r)) λr=>[])/\(∀N a0 a1,OK (QbF N a0 a1) 87 [.agg (e42 a0),vu a1] [] (λr=>.tup [.agg (e42 r.1),vu r.2]) λr=>[])/\(∀N a0 a1,OK (Qgu N a0 a1) 186 [.ept 1000000 0 6 0 0,.ept 1000001 0 1 0 0] [.arr true 28 6 [[vi a0.c.W,vi a0.c.p,s55 a0.w,ZH a0.p,vi a0.s,vi a0.b]] 0,.arr true 55 1 [[vu a1]] 0] (λr=>vu r) λr=>[.arr true 28 6 [[vi a0.c.W,vi a0.c.p,s55 a0.w,ZH a0.p,vi a0.s,vi a0.b]] 0,.arr true 55 1 [[vu a1]] 0])/\(∀N a0 a1,OK (Qes N a0 a1) 106 [vu a0,.ept 1000000 0 1 0 0] [.arr true 25 1 [[s55 a1]] 0] (λr=>.v (.bool r)) λr=>[.arr true 25 1 [[s55 a1]] 0]):=by
 refine⟨λN _ _ _=>rk Tryz.f263 ?_,λN _ _=>rk Tryz.f133 ?_,λN _ _ _ _ _=>rk Tryz.f250 ?_,λN _ _ _=>rk Tryz.f152 ?_,λN _ _ _=>rk Tryz.f208 ?_,λN _ _=>rk Tryz.f87 ?_,λN _ _=>rk Tryz.f186 ?_,λN _ _=>rk Tryz.f106 ?_⟩<;>(rintro _ hw r hr C _ rfl hwf hf;simp only[Tryz.f263,Tryz.f133,Tryz.f250,Tryz.f152,Tryz.f208,Tryz.f87,Tryz.f186,Tryz.f106,Option.get!];(first|rw[QgH]at hr|rw[QdE]at hr|rw[QeU]at hr|rw[QdM]at hr|rw[QbR]at hr|rw[QbF]at hr|rw[Qgu]at hr|rw[Qes]at hr);repeat' first
 |(refine El.el hr ?_;intro hr)
 |(with_reducible intro h;refine XH hr h ?_;intro hr)
 |with_reducible intro _
 |simp only[go_sem,simprocAttr,YW,XS]
 |(with_reducible first|apply Xk|apply Xj|apply XA|apply XF|apply XG)
 |((first|with_reducible refine Y1 hr ag ?_ ?_|(with_reducible refine YN hr ?_ ?_;rotate_left;intro p;rotate_right));(·simp only[go_sem,simprocAttr]);intro hp hn hd hr;(try have YW:=hd _ Vl);(try simp only[go_sem,simprocAttr]at YW);(try have XS:=hd _ Y8);(try simp only[go_sem,simprocAttr]at XS))
 |(refine XB ?_ ?_;.first|assumption|omega)
 |(with_reducible first|refine CallX.c ?_ _|refine OK.c hr hw ?_ (λy hr=>?_) _|refine OK.d hr hw ?_ (λy hr=>?_) _)
 |refine dc 208 2 hf 12 [(0,284,[]),(1,284,[]),(0,267,[]),(0,263,[]),(12,259,[]),(31,256,[]),(63,256,[]),(127,256,[]),(0,255,[]),(511,0,[]),(1023,0,[]),(2047,0,[]),(4095,0,[[448],[]])] ?_
 |(refine Xu hr ?_;rintro rfl;with_reducible refine X4 ?_)
 |exact Za hr
 |exact Yb hr
 |(apply Yc;assumption)
 |fail)
abbrev Qnm:=g14.1
abbrev Qml:=g14.2.1
abbrev Qmm:=g14.2.2.1
abbrev Qls:=g14.2.2.2.1
abbrev Qmn:=g14.2.2.2.2.1
abbrev Qmo:=g14.2.2.2.2.2.1
abbrev Qkz:=g14.2.2.2.2.2.2.1
abbrev QiA:=g14.2.2.2.2.2.2.2
attribute [instance] Qnm Qml Qmm Qls Qmn Qmo Qkz QiA
end Go.Sx
