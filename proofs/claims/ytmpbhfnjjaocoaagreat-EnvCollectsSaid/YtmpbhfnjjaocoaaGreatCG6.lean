import Derived.Test.YtmpbhfnjjaocoaaGreatCG3
import Derived.Test.YtmpbhfnjjaocoaaGreatCG4
import Derived.Test.YtmpbhfnjjaocoaaGreatCG5
set_option linter.all false
namespace Go.Sx
open Go.Proofs
set_option maxRecDepth 10000
set_option maxHeartbeats 100000000
def g13:(∀N a0 a1,OK (Qbb N a0 a1) 147 [s58 a0,vu a1] [] (λr=>.tup [vu r.1,vi r.2]) λr=>[])/\(∀N a0 a1,OK (Qct N a0 a1) 222 [.agg (K0 a0),vi a1] [] (λr=>.tup [.agg (K0 r.1),vu r.2.1,.v (.bool r.2.2)]) λr=>[])/\(∀N a0 a1,OK (Qej N a0 a1) 97 [.agg (e27 a0),vi a1] [] (λr=>.tup [.agg (e27 r.1),vu r.2.1,.v (.bool r.2.2)]) λr=>[])/\(∀N a0 a1 a2,OK (QeR N a0 a1 a2) 269 [.agg (e32 a0),vi a1,vi a2] [] (λr=>.tup [vu r.1,vi r.2]) λr=>[])/\(∀N a0,OK (QeS N a0) 190 [.agg (e32 a0)] [] (λr=>.tup [.agg (e32 r.1),vi r.2]) λr=>[])/\(∀N a0 a1,OK (Qdm N a0 a1) 46 [.agg (e67 a0),.ept 1000000 0 2 0 0] [.arr true 54 2 [[s3 a1.L,vi a1.at_]] 0] (λr=>.agg (Xqu r.1)) λr=>[.arr true 54 2 [[s3 r.2.L,vi r.2.at_]] 0])/\(∀N a0,OK (Qbn N a0) 110 [s3 a0,.clo (.func 111) [] []] [] (λr=>.v (.bool r)) λr=>[])/\(∀N a0,OK (Qbi N a0) 89 [.agg (e51 a0)] [] (λr=>vi r) λr=>[])/\(∀N a0 a1,OK (Qfn N a0 a1) 283 [.agg (e51 a0),vi a1] [] (λr=>.v (.bool r)) λr=>[])/\(∀N a0 a1 a2,OK (Qeg N a0 a1 a2) 160 [Ye a0,vi a1,vi a2] [] (λr=>.tup [.fsl 175 4 (r.1.map XQ),vi r.2]) λr=>[])/\(∀N a0 a1,OK (Qhe N a0 a1) 8 [.agg (e38 a0),.agg (e38 a1)] [] (λr=>.v (.bool r)) λr=>[]):=by
 refine⟨λN _ _=>rk Tryz.f147 [.tmp 4,.tmp 5] [] 21 ?_,λN _ _=>rk Tryz.f222 [.cell 4 138,.tmp 5,.tmp 6] [] 111 ?_,λN _ _=>rk Tryz.f97 [.cell 4 27,.tmp 5,.tmp 6] [] 108 ?_,λN _ _ _=>rk Tryz.f269 [.tmp 6,.tmp 7] [] 58 ?_,λN _=>rk Tryz.f190 [.cell 2 32,.tmp 3] [] 28 ?_,λN _ _=>rk Tryz.f46 [.cell 4 101] [] 79 ?_,λN _=>rk Tryz.f110 [.tmp 4] [] 9 ?_,λN _=>rk Tryz.f89 [.tmp 2] [] 9 ?_,λN _ _=>rk Tryz.f283 [.tmp 4] [] 34 ?_,λN _ _ _=>rk Tryz.f160 [.tmp 6,.tmp 7] [1152] 21 ?_,λN _ _=>rk Tryz.f8 [.tmp 4] [] 45 ?_⟩<;>(rintro _ hw r hr C _ rfl hwf hf;simp only[Tryz.f147,Tryz.f222,Tryz.f97,Tryz.f269,Tryz.f190,Tryz.f46,Tryz.f110,Tryz.f89,Tryz.f283,Tryz.f160,Tryz.f8,Option.get!];(first|rw[Qbb]at hr|rw[Qct]at hr|rw[Qej]at hr|rw[QeR]at hr|rw[QeS]at hr|rw[Qdm]at hr|rw[Qbn]at hr|rw[Qbi]at hr|rw[Qfn]at hr|rw[Qeg]at hr|rw[Qhe]at hr);repeat' first
 |(refine El.el hr ?_;clear hr;intro hr)
 |(with_reducible intro h;refine Xz hr h ?_;clear hr;intro hr)
 |with_reducible intro _
 |simp only[go_sem,simprocAttr,hl3,Xu,XU,YD,Xj]
 |(with_reducible first|apply Xi|apply Xh|apply Xq|apply Xs|apply Xt)
 |((first|with_reducible refine Yo hr ag ?_ ?_|(with_reducible refine Yk hr ?_ ?_;rotate_left;intro p;rotate_right));(·simp only[go_sem,simprocAttr]);intro hp hn hd hr;(try have hl3:=hd _ e3);(try simp only[go_sem,simprocAttr]at hl3);(try have Xu:=hd _ e58);(try simp only[go_sem,simprocAttr]at Xu);(try have XU:=hd _ ZN);(try simp only[go_sem,simprocAttr]at XU);(try have YD:=hd _ K2);(try simp only[go_sem,simprocAttr]at YD);(try have Xj:=hd _ XQ);(try simp only[go_sem,simprocAttr]at Xj))
 |(refine Xr ?_ ?_;.first|assumption|omega)
 |(with_reducible first|refine CallX.c ?_ _|refine OK.c hr hw ?_ (λy hr=>?_) _)
 |refine dc 222 4 hf 23 [(0,0,[]),(1,0,[]),(3,0,[]),(7,250360,[]),(15,250360,[]),(31,250360,[]),(7,249959,[]),(71,249959,[]),(7,249887,[]),(263,249887,[]),(967,249863,[]),(1991,249863,[]),(4095,249856,[]),(8191,249856,[]),(16383,249856,[]),(7,249855,[]),(65535,245760,[]),(7,16383,[]),(131079,16383,[]),(393223,16383,[]),(917511,16383,[]),(2097151,0,[]),(4194303,0,[])] ?_
 |refine dc 222 11 hf 78 [(0,16286,[]),(0,16257,[]),(2,16257,[]),(6,16257,[]),(14,16257,[]),(31,16256,[]),(63,16256,[]),(0,1151,[]),(128,1151,[]),(384,1151,[]),(0,1023,[]),(1920,127,[]),(3968,127,[]),(8064,127,[]),(16383,0,[]),(32767,0,[]),(65535,0,[])] ?_
 |refine dc 222 12 hf 94 [(0,8184,[]),(1,8184,[]),(3,8184,[]),(0,8183,[]),(0,2191,[]),(16,2191,[]),(48,2191,[]),(0,2175,[]),(240,2063,[]),(496,2063,[]),(1008,2063,[]),(0,2047,[]),(4080,15,[]),(8191,0,[]),(16383,0,[]),(32767,0,[[640,4160],[]])] ?_
 |refine dc 97 5 hf 27 [(0,0,[]),(1,0,[]),(3,0,[]),(7,196,[]),(15,196,[]),(7,195,[]),(63,192,[]),(127,192,[]),(255,192,[]),(7,63,[]),(519,63,[]),(2047,0,[]),(4095,0,[]),(8191,0,[]),(16383,3809280,[]),(32767,3809280,[]),(16383,3807232,[]),(131071,3801088,[]),(262143,3801088,[]),(524287,3801088,[]),(16383,3799040,[]),(2097151,3670016,[]),(16383,522240,[]),(4210687,522240,[]),(12599295,522240,[]),(33554431,0,[]),(67108863,0,[]),(134217727,0,[]),(268435455,67108864,[]),(268435455,33554432,[]),(1073741823,0,[]),(2147483647,0,[])] ?_
 |refine dc 97 11 hf 79 [(0,4046,[]),(0,4033,[]),(2,4033,[]),(6,4033,[]),(15,4032,[]),(31,4032,[]),(0,319,[]),(64,319,[]),(0,255,[]),(448,63,[]),(960,63,[]),(1984,63,[]),(4095,0,[]),(8191,0,[]),(16383,0,[])] ?_
 |refine dc 97 12 hf 93 [(0,2044,[]),(1,2044,[]),(0,2043,[]),(0,551,[]),(8,551,[]),(0,543,[]),(56,519,[]),(120,519,[]),(248,519,[]),(0,511,[]),(1016,7,[]),(2047,0,[]),(4095,0,[]),(8191,0,[[704,4672],[]])] ?_
 |(refine Xn hr ?_;rintro rfl;with_reducible refine XN ?_)
 |exact Yv hr
 |fail)
abbrev Qoy:=g13.1
abbrev Qno:=g13.2.1
abbrev Qnp:=g13.2.2.1
abbrev Qpq:=g13.2.2.2.1
abbrev Qpr:=g13.2.2.2.2.1
abbrev Qkk:=g13.2.2.2.2.2.1
abbrev Qgi:=g13.2.2.2.2.2.2.1
abbrev Qnq:=g13.2.2.2.2.2.2.2.1
abbrev Qkl:=g13.2.2.2.2.2.2.2.2.1
abbrev Qoz:=g13.2.2.2.2.2.2.2.2.2.1
abbrev QoA:=g13.2.2.2.2.2.2.2.2.2.2
attribute [instance] Qoy Qno Qnp Qpq Qpr Qkk Qgi Qnq Qkl Qoz QoA
end Go.Sx
