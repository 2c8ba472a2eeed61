import Derived.Test.YtmpbhfnjjaocoaaGreatAG3
import Derived.Test.YtmpbhfnjjaocoaaGreatAG4
import Derived.Test.YtmpbhfnjjaocoaaGreatAG5
set_option linter.all false
namespace Go.Sx
open Go.Proofs
set_option maxRecDepth 10000
set_option maxHeartbeats 100000000
def g13:(∀N a0 a1,OK (Qbb N a0 a1) 147 [s58 a0,vu a1] [] (λr=>.tup [vu r.1,vi r.2]) λr=>[])/\(∀N a0 a1,OK (Qcw N a0 a1) 222 [.agg (K4 a0),vi a1] [] (λr=>.tup [.agg (K4 r.1),vu r.2.1,.v (.bool r.2.2)]) λr=>[])/\(∀N a0 a1,OK (Qem N a0 a1) 97 [.agg (e27 a0),vi a1] [] (λr=>.tup [.agg (e27 r.1),vu r.2.1,.v (.bool r.2.2)]) λr=>[])/\(∀N a0 a1 a2,OK (QeX N a0 a1 a2) 269 [.agg (e32 a0),vi a1,vi a2] [] (λr=>.tup [vu r.1,vi r.2]) λr=>[])/\(∀N a0,OK (QeY N a0) 190 [.agg (e32 a0)] [] (λr=>.tup [.agg (e32 r.1),vi r.2]) λr=>[])/\(∀N a0 a1,OK (Qdq N a0 a1) 46 [.agg (e67 a0),.ept 1000000 0 2 0 0] [.arr true 54 2 [[s3 a1.L,vi a1.at_]] 0] (λr=>.agg (XqE r.1)) λr=>[.arr true 54 2 [[s3 r.2.L,vi r.2.at_]] 0])/\(∀N a0,OK (Qbn N a0) 110 [s3 a0,.clo (.func 111) [] []] [] (λr=>.v (.bool r)) λr=>[])/\(∀N a0,OK (Qbj N a0) 89 [.agg (e51 a0)] [] (λr=>vi r) λr=>[])/\(∀N a0 a1,OK (Qft N a0 a1) 283 [.agg (e51 a0),vi a1] [] (λr=>.v (.bool r)) λr=>[])/\(∀N a0 a1 a2,OK (QdE N a0 a1 a2) 160 [Yg a0,vi a1,vi a2] [] (λr=>.tup [.fsl 175 4 (r.1.map XS),vi r.2]) λr=>[])/\(∀N a0 a1,OK (Qhl N a0 a1) 8 [.agg (e38 a0),.agg (e38 a1)] [] (λr=>.v (.bool r)) λr=>[]):=by
 refine⟨λN _ _=>rk Tryz.f147 [.tmp 4,.tmp 5] [] 21 ?_,λN _ _=>rk Tryz.f222 [.cell 4 138,.tmp 5,.tmp 6] [] 111 ?_,λN _ _=>rk Tryz.f97 [.cell 4 27,.tmp 5,.tmp 6] [] 108 ?_,λN _ _ _=>rk Tryz.f269 [.tmp 6,.tmp 7] [] 58 ?_,λN _=>rk Tryz.f190 [.cell 2 32,.tmp 3] [] 28 ?_,λN _ _=>rk Tryz.f46 [.cell 4 101] [] 79 ?_,λN _=>rk Tryz.f110 [.tmp 4] [] 9 ?_,λN _=>rk Tryz.f89 [.tmp 2] [] 9 ?_,λN _ _=>rk Tryz.f283 [.tmp 4] [] 34 ?_,λN _ _ _=>rk Tryz.f160 [.tmp 6,.tmp 7] [1152] 21 ?_,λN _ _=>rk Tryz.f8 [.tmp 4] [] 45 ?_⟩<;>(rintro _ hw r hr C _ rfl hwf hf;simp only[Tryz.f147,Tryz.f222,Tryz.f97,Tryz.f269,Tryz.f190,Tryz.f46,Tryz.f110,Tryz.f89,Tryz.f283,Tryz.f160,Tryz.f8,Option.get!];(first|rw[Qbb]at hr|rw[Qcw]at hr|rw[Qem]at hr|rw[QeX]at hr|rw[QeY]at hr|rw[Qdq]at hr|rw[Qbn]at hr|rw[Qbj]at hr|rw[Qft]at hr|rw[QdE]at hr|rw[Qhl]at hr);repeat' first
 |(refine El.el hr ?_;clear hr;intro hr)
 |(with_reducible intro h;refine XB hr h ?_;clear hr;intro hr)
 |with_reducible intro _
 |simp only[go_sem,simprocAttr,hl3,Xu,XX,YE,Xj]
 |(with_reducible first|apply Xi|apply Xh|apply Xs|apply Xq|apply Xr)
 |((first|with_reducible refine Yq hr ag ?_ ?_|(with_reducible refine Yn hr ?_ ?_;rotate_left;intro p;rotate_right));(·simp only[go_sem,simprocAttr]);intro hp hn hd hr;(try have hl3:=hd _ e3);(try simp only[go_sem,simprocAttr]at hl3);(try have Xu:=hd _ e58);(try simp only[go_sem,simprocAttr]at Xu);(try have XX:=hd _ ZT);(try simp only[go_sem,simprocAttr]at XX);(try have YE:=hd _ K6);(try simp only[go_sem,simprocAttr]at YE);(try have Xj:=hd _ XS);(try simp only[go_sem,simprocAttr]at Xj))
 |(refine Xt ?_ ?_;.first|assumption|omega)
 |(with_reducible first|refine CallX.c ?_ _|refine OK.c hr hw ?_ (λy hr=>?_) _)
 |refine dc 222 4 hf 23 [(0,0,[]),(1,0,[]),(3,0,[]),(7,250360,[]),(15,250360,[]),(31,250360,[]),(7,249959,[]),(71,249959,[]),(7,249887,[]),(263,249887,[]),(967,249863,[]),(1991,249863,[]),(4095,249856,[]),(8191,249856,[]),(16383,249856,[]),(7,249855,[]),(65535,245760,[]),(7,16383,[]),(131079,16383,[]),(393223,16383,[]),(917511,16383,[]),(2097151,0,[]),(4194303,0,[])] ?_
 |refine dc 222 11 hf 78 [(0,16286,[]),(0,16257,[]),(2,16257,[]),(6,16257,[]),(14,16257,[]),(31,16256,[]),(63,16256,[]),(0,1151,[]),(128,1151,[]),(384,1151,[]),(0,1023,[]),(1920,127,[]),(3968,127,[]),(8064,127,[]),(16383,0,[]),(32767,0,[]),(65535,0,[])] ?_
 |refine dc 222 12 hf 94 [(0,8184,[]),(1,8184,[]),(3,8184,[]),(0,8183,[]),(0,2191,[]),(16,2191,[]),(48,2191,[]),(0,2175,[]),(240,2063,[]),(496,2063,[]),(1008,2063,[]),(0,2047,[]),(4080,15,[]),(8191,0,[]),(16383,0,[]),(32767,0,[[640,4160],[]])] ?_
 |refine dc 97 5 hf 27 [(0,0,[]),(1,0,[]),(3,0,[]),(7,196,[]),(15,196,[]),(7,195,[]),(63,192,[]),(127,192,[]),(255,192,[]),(7,63,[]),(519,63,[]),(2047,0,[]),(4095,0,[]),(8191,0,[]),(16383,3809280,[]),(32767,3809280,[]),(16383,3807232,[]),(131071,3801088,[]),(262143,3801088,[]),(524287,3801088,[]),(16383,3799040,[]),(2097151,3670016,[]),(16383,522240,[]),(4210687,522240,[]),(12599295,522240,[]),(33554431,0,[]),(67108863,0,[]),(134217727,0,[]),(268435455,67108864,[]),(268435455,33554432,[]),(1073741823,0,[]),(2147483647,0,[])] ?_
 |refine dc 97 11 hf 79 [(0,4046,[]),(0,4033,[]),(2,4033,[]),(6,4033,[]),(15,4032,[]),(31,4032,[]),(0,319,[]),(64,319,[]),(0,255,[]),(448,63,[]),(960,63,[]),(1984,63,[]),(4095,0,[]),(8191,0,[]),(16383,0,[])] ?_
 |refine dc 97 12 hf 93 [(0,2044,[]),(1,2044,[]),(0,2043,[]),(0,551,[]),(8,551,[]),(0,543,[]),(56,519,[]),(120,519,[]),(248,519,[]),(0,511,[]),(1016,7,[]),(2047,0,[]),(4095,0,[]),(8191,0,[[704,4672],[]])] ?_
 |(refine Xn hr ?_;rintro rfl;with_reducible refine XP ?_)
 |exact Yw hr
 |fail)
abbrev QoD:=g13.1
abbrev Qnt:=g13.2.1
abbrev Qnu:=g13.2.2.1
abbrev Qpv:=g13.2.2.2.1
abbrev Qpw:=g13.2.2.2.2.1
abbrev Qkp:=g13.2.2.2.2.2.1
abbrev Qgn:=g13.2.2.2.2.2.2.1
abbrev Qnv:=g13.2.2.2.2.2.2.2.1
abbrev Qkq:=g13.2.2.2.2.2.2.2.2.1
abbrev QoE:=g13.2.2.2.2.2.2.2.2.2.1
abbrev QoF:=g13.2.2.2.2.2.2.2.2.2.2
attribute [instance] QoD Qnt Qnu Qpv Qpw Qkp Qgn Qnv Qkq QoE QoF
end Go.Sx
