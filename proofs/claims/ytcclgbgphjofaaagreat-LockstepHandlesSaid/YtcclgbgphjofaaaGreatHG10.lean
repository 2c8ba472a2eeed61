import Derived.Test.YtcclgbgphjofaaaGreatHG7
import Derived.Test.YtcclgbgphjofaaaGreatHG8
set_option linter.all false
namespace Go.Sx
open Go.Proofs
set_option maxRecDepth 10000
set_option maxHeartbeats 100000000
def g16:(∀N a0 a1,OK (Qax N a0 a1) 63 [.agg (e28 a0),vu a1] [] (λr=>.tup [.agg (e84 r.1),vi r.2]) λr=>[])/\(∀N a0 a1 a2,OK (Qfi N a0 a1 a2) 261 [.agg (e28 a0),vi a1,vi a2] [] (λr=>vu r) λr=>[])/\(∀N a0 a1 a2,OK (QeV N a0 a1 a2) 235 [.agg (e28 a0),vi a1,vi a2] [] (λr=>.tup [.agg (e28 r.1),vu r.2.1,.v (.bool r.2.2)]) λr=>[])/\(∀N a0 a1 a2,OK (QcE N a0 a1 a2) 236 [.agg (e28 a0),vu a1,.agg (e84 a2)] [] (λr=>.tup [.agg (e28 r.1),vi r.2]) λr=>[])/\(∀N a0 a1 a2 a3 a4,OK (Qfr N a0 a1 a2 a3 a4) 156 [.agg (e42 a0),vi a1,vu a2,vu a3,.v (.bool a4)] [] (λr=>vi r) λr=>[])/\(∀N a0 a1,OK (Qaz N a0 a1) 85 [.agg (e42 a0),vu a1] [] (λr=>.tup [vu r.1,vi r.2]) λr=>[])/\(∀N a0 a1,OK (Qc5 N a0 a1) 90 [.agg (e42 a0),vu a1] [] (λr=>.agg (e42 r)) λr=>[])/\(∀N a0 a1 a2,OK (QdI N a0 a1 a2) 111 [vi a0,.ept 1000000 0 10 0 0,.ept 1000001 0 4 0 0] [.arr true 52 10 [[vi a1.c.W,vi a1.c.p,s87 a1.T,Zd a1.l.S,Y9 a1.l.x,s3 a1.l.i,XT a1.g.e,XT a1.v.e,s90 a1.m,s55 a1.R]] 0,.arr true 87 4 [[vi a2.H.k,vi a2.H.n,vw a2.H.Map,s55 a2.D]] 0] (λr=>.v (.bool r)) λr=>[.arr true 52 10 [[vi a1.c.W,vi a1.c.p,s87 a1.T,Zd a1.l.S,Y9 a1.l.x,s3 a1.l.i,XT a1.g.e,XT a1.v.e,s90 a1.m,s55 a1.R]] 0,.arr true 87 4 [[vi a2.H.k,vi a2.H.n,vw a2.H.Map,s55 a2.D]] 0]):=by
 refine⟨λN _ _=>rk Tryz.f63 ?_,λN _ _ _=>rk Tryz.f261 ?_,λN _ _ _=>rk Tryz.f235 ?_,λN _ _ _=>rk Tryz.f236 ?_,λN _ _ _ _ _=>rk Tryz.f156 ?_,λN _ _=>rk Tryz.f85 ?_,λN _ _=>rk Tryz.f90 ?_,λN _ _ _=>rk Tryz.f111 ?_⟩<;>(rintro _ hw r hr C _ rfl hwf hf;simp only[Tryz.f63,Tryz.f261,Tryz.f235,Tryz.f236,Tryz.f156,Tryz.f85,Tryz.f90,Tryz.f111,Option.get!];(first|rw[Qax]at hr|rw[Qfi]at hr|rw[QeV]at hr|rw[QcE]at hr|rw[Qfr]at hr|rw[Qaz]at hr|rw[Qc5]at hr|rw[QdI]at hr);repeat' first
 |(refine El.el hr ?_;intro hr)
 |(with_reducible intro h;refine XH hr h ?_;intro hr)
 |with_reducible intro _
 |simp only[go_sem,simprocAttr,X2,XS]
 |(with_reducible first|apply Xk|apply Xj|apply XA|apply XF|apply XG)
 |((first|with_reducible refine Y1 hr ag ?_ ?_|(with_reducible refine YN hr ?_ ?_;rotate_left;intro p;rotate_right));(·simp only[go_sem,simprocAttr]);intro hp hn hd hr;(try have X2:=hd _ e55);(try simp only[go_sem,simprocAttr]at X2);(try have XS:=hd _ Y8);(try simp only[go_sem,simprocAttr]at XS))
 |(refine XB ?_ ?_;.first|assumption|omega)
 |(with_reducible first|refine CallX.c ?_ _|refine OK.c hr hw ?_ (λy hr=>?_) _|refine OK.d hr hw ?_ (λy hr=>?_) _)
 |refine dc 235 2 hf 17 [(0,0,[]),(1,0,[]),(3,0,[]),(7,104,[]),(15,104,[]),(31,104,[]),(7,231,[]),(127,224,[]),(7,31,[]),(263,31,[]),(831,24,[]),(2047,0,[]),(4095,0,[])] ?_
 |refine dc 235 5 hf 41 [(0,254,[]),(0,29,[[],[384]]),(0,3,[[],[384]]),(4,3,[[],[384]]),(12,3,[[],[384]]),(30,1,[[],[384]]),(62,1,[[],[384]]),(126,1,[[],[384]]),(1,254,[[384],[]]),(511,0,[]),(1023,0,[])] ?_
 |refine dc 236 4 hf 10 [(0,8257536,[[],[1856]]),(1,8257536,[[],[1856]]),(0,8224768,[[],[1856]]),(0,3375104,[]),(8,3375104,[[1856],[]]),(0,1015808,[[],[1856]]),(32,1015808,[[],[1856]]),(120,229376,[[1856],[]]),(255,0,[[1856],[]]),(511,0,[]),(1023,33554432,[]),(1023,16777217,[]),(2047,33554432,[]),(8191,0,[])] ?_
 |refine dc 111 1 hf 5 [(0,126,[[],[704]]),(0,9,[]),(2,9,[]),(0,7,[]),(14,1,[]),(30,1,[]),(62,1,[[704],[]]),(127,0,[]),(255,0,[]),(511,0,[])] ?_
 |(refine Xu hr ?_;rintro rfl;with_reducible refine X4 ?_)
 |exact Za hr
 |exact Yb hr
 |(apply Yc;assumption)
 |fail)
abbrev Qn7:=g16.1
abbrev Qnr:=g16.2.1
abbrev Qmq:=g16.2.2.1
abbrev Qns:=g16.2.2.2.1
abbrev QkF:=g16.2.2.2.2.1
abbrev QkG:=g16.2.2.2.2.2.1
abbrev Qlu:=g16.2.2.2.2.2.2.1
abbrev QhB:=g16.2.2.2.2.2.2.2
attribute [instance] Qn7 Qnr Qmq Qns QkF QkG Qlu QhB
end Go.Sx
