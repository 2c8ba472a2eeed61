import Derived.Test.YtcclgbgphjofaaaGreatHG3
import Derived.Test.YtcclgbgphjofaaaGreatHG4
set_option linter.all false
namespace Go.Sx
open Go.Proofs
set_option maxRecDepth 10000
set_option maxHeartbeats 100000000
def g10:(∀N a0,OK (QeD N a0) 29 [.agg (e24 a0)] [] (λr=>.tup [.agg (e38 r.1),vi r.2]) λr=>[])/\(∀N a0,OK (Qcr N a0) 122 [vu a0] [] (λr=>.tup [.agg (e84 r.1),.v (.bool r.2)]) λr=>[])/\(∀N a0 a1 a2,OK (QdB N a0 a1 a2) 205 [s55 a0,vu a1,vu a2] [] (λr=>.tup [s55 r.1,vi r.2]) λr=>[])/\(∀N a0 a1 a2 a3,OK (Qfk N a0 a1 a2 a3) 230 [s55 a0,vu a1,vu a2,vi a3] [] (λr=>.tup [s55 r.1,vi r.2]) λr=>[])/\(∀N a0 a1,OK (Qef N a0 a1) 234 [.agg (e28 a0),vi a1] [] (λr=>.tup [.agg (e28 r.1),vu r.2.1,.v (.bool r.2.2)]) λr=>[])/\(∀N a0 a1 a2,OK (QeK N a0 a1 a2) 163 [.agg (e32 a0),vi a1,vi a2] [] (λr=>.tup [vu r.1,vi r.2]) λr=>[])/\(∀N a0 a1 a2,OK (Qf8 N a0 a1 a2) 165 [.agg (e32 a0),vi a1,.v (.bool a2)] [] (λr=>.tup [.agg (e32 r.1),vi r.2]) λr=>[])/\(∀N a0 a1 a2,OK (Qdh N a0 a1 a2) 89 [.agg (e42 a0),vi a1,vu a2] [] (λr=>.tup [.agg (e42 r.1),vu r.2]) λr=>[])/\(∀N a0 a1,OK (Qdt N a0 a1) 14 [.agg (e44 a0),.ept 1000000 0 2 0 0] [.arr true 66 2 [[s3 a1.L,vi a1.at_]] 0] (λr=>.agg (e71 r.1)) λr=>[.arr true 66 2 [[s3 r.2.L,vi r.2.at_]] 0])/\(∀N a0,OK (QdF N a0) 182 [.agg (e84 a0)] [] (λr=>vi r) λr=>[])/\(∀N a0 a1,OK (Qga N a0 a1) 187 [s55 a0,vu a1] [] (λr=>.tup [vu r.1,vi r.2]) λr=>[])/\(∀N a0 a1,OK (Qfu N a0 a1) 169 [s99 a0,vu a1] [] (λr=>vi r) λr=>[])/\(∀N a0,OK (QaG N a0) 101 [XT a0,.clo (.func 102) [] []] [] (λr=>.v (.bool r)) λr=>[])/\(∀N a0 c0,OK (QaZ N a0 c0) 105 [s55 a0,.clo (.func 112) [] [.ept 1000000 0 10 0 0]] [.arr true 52 10 [[vi c0.c.W,vi c0.c.p,s87 c0.T,Zd c0.l.S,Y9 c0.l.x,s3 c0.l.i,XT c0.g.e,XT c0.v.e,s90 c0.m,s55 c0.R]] 0] (λr=>.v (.bool r)) λr=>[.arr true 52 10 [[vi c0.c.W,vi c0.c.p,s87 c0.T,Zd c0.l.S,Y9 c0.l.x,s3 c0.l.i,XT c0.g.e,XT c0.v.e,s90 c0.m,s55 c0.R]] 0]):=by
 refine⟨λN _=>rk Tryz.f29 ?_,λN _=>rk Tryz.f122 ?_,λN _ _ _=>rk Tryz.f205 ?_,λN _ _ _ _=>rk Tryz.f230 ?_,λN _ _=>rk Tryz.f234 ?_,λN _ _ _=>rk Tryz.f163 ?_,λN _ _ _=>rk Tryz.f165 ?_,λN _ _ _=>rk Tryz.f89 ?_,λN _ _=>rk Tryz.f14 ?_,λN _=>rk Tryz.f182 ?_,λN _ _=>rk Tryz.f187 ?_,λN _ _=>rk Tryz.f169 ?_,λN _=>rk Tryz.f101 ?_,λN _ _=>rk Tryz.f105 ?_⟩<;>(rintro _ hw r hr C _ rfl hwf hf;simp only[Tryz.f29,Tryz.f122,Tryz.f205,Tryz.f230,Tryz.f234,Tryz.f163,Tryz.f165,Tryz.f89,Tryz.f14,Tryz.f182,Tryz.f187,Tryz.f169,Tryz.f101,Tryz.f105,Option.get!];(first|rw[QeD]at hr|rw[Qcr]at hr|rw[QdB]at hr|rw[Qfk]at hr|rw[Qef]at hr|rw[QeK]at hr|rw[Qf8]at hr|rw[Qdh]at hr|rw[Qdt]at hr|rw[QdF]at hr|rw[Qga]at hr|rw[Qfu]at hr|rw[QaG]at hr|rw[QaZ]at hr);repeat' first
 |(refine El.el hr ?_;intro hr)
 |(with_reducible intro h;refine XH hr h ?_;intro hr)
 |with_reducible intro _
 |simp only[go_sem,simprocAttr,hl3,X2,YW,XS]
 |(with_reducible first|apply Xk|apply Xj|apply XA|apply XF|apply XG)
 |((first|with_reducible refine Y1 hr ag ?_ ?_|(with_reducible refine YN hr ?_ ?_;rotate_left;intro p;rotate_right));(·simp only[go_sem,simprocAttr]);intro hp hn hd hr;(try have hl3:=hd _ e3);(try simp only[go_sem,simprocAttr]at hl3);(try have X2:=hd _ e55);(try simp only[go_sem,simprocAttr]at X2);(try have YW:=hd _ Vl);(try simp only[go_sem,simprocAttr]at YW);(try have XS:=hd _ Y8);(try simp only[go_sem,simprocAttr]at XS))
 |(refine XB ?_ ?_;.first|assumption|omega)
 |(with_reducible first|refine CallX.c ?_ _|refine OK.c hr hw ?_ (λy hr=>?_) _)
 |refine dc 234 5 hf 27 [(0,0,[]),(1,0,[]),(3,0,[]),(7,196,[]),(15,196,[]),(7,195,[]),(63,192,[]),(127,192,[]),(255,192,[]),(7,63,[]),(519,63,[]),(2047,0,[]),(4095,0,[]),(8191,0,[]),(16383,3809280,[]),(32767,3809280,[]),(16383,3807232,[]),(131071,3801088,[]),(262143,3801088,[]),(524287,3801088,[]),(16383,3799040,[]),(2097151,3670016,[]),(16383,522240,[]),(4210687,522240,[]),(12599295,522240,[]),(33554431,0,[]),(67108863,0,[]),(134217727,0,[]),(268435455,67108864,[]),(268435455,33554432,[]),(1073741823,0,[]),(2147483647,0,[])] ?_
 |refine dc 234 11 hf 79 [(0,4046,[]),(0,4033,[]),(2,4033,[]),(6,4033,[]),(15,4032,[]),(31,4032,[]),(0,319,[]),(64,319,[]),(0,255,[]),(448,63,[]),(960,63,[]),(1984,63,[]),(4095,0,[]),(8191,0,[]),(16383,0,[])] ?_
 |refine dc 234 12 hf 93 [(0,2044,[]),(1,2044,[]),(0,2043,[]),(0,551,[]),(8,551,[]),(0,543,[]),(56,519,[]),(120,519,[]),(248,519,[]),(0,511,[]),(1016,7,[]),(2047,0,[]),(4095,0,[]),(8191,0,[[704,4672],[]])] ?_
 |refine dc 165 7 hf 34 [(0,2038,[[2176],[2816]]),(0,2033,[[],[2176,2816]]),(2,2033,[[],[2176,2816]]),(7,2032,[[2176],[2816]]),(0,399,[[],[2176]]),(16,399,[[],[2176]]),(48,399,[[],[2176]]),(0,383,[[],[2176]]),(0,255,[[],[2176]]),(496,15,[[],[2176]]),(1008,15,[[2816],[2176]]),(2047,0,[[2176],[]]),(4095,0,[]),(8191,0,[[192],[]])] ?_
 |(refine Xu hr ?_;rintro rfl;with_reducible refine X4 ?_)
 |exact Za hr
 |exact Yb hr
 |(apply Yc;assumption)
 |fail)
abbrev QnO:=g10.1
abbrev Qlm:=g10.2.1
abbrev Qmc:=g10.2.2.1
abbrev Qm8:=g10.2.2.2.1
abbrev Qmd:=g10.2.2.2.2.1
abbrev QnP:=g10.2.2.2.2.2.1
abbrev Qm9:=g10.2.2.2.2.2.2.1
abbrev Qkq:=g10.2.2.2.2.2.2.2.1
abbrev QjA:=g10.2.2.2.2.2.2.2.2.1
abbrev Qme:=g10.2.2.2.2.2.2.2.2.2.1
abbrev Qna:=g10.2.2.2.2.2.2.2.2.2.2.1
abbrev Qkr:=g10.2.2.2.2.2.2.2.2.2.2.2.1
abbrev Qev:=g10.2.2.2.2.2.2.2.2.2.2.2.2.1
abbrev Qfe:=g10.2.2.2.2.2.2.2.2.2.2.2.2.2
attribute [instance] QnO Qlm Qmc Qm8 Qmd QnP Qm9 Qkq QjA Qme Qna Qkr Qev Qfe
end Go.Sx
