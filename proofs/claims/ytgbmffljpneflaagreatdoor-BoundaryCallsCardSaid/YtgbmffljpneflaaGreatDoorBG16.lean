import Derived.Test.YtgbmffljpneflaaGreatDoorBG15
set_option linter.all false
namespace Go.Sx
open Go.Proofs
set_option maxRecDepth 10000
set_option maxHeartbeats 100000000
instance QrD:∀N a0 a1 a2 a3 a4 a5,OK (Qgu N a0 a1 a2 a3 a4 a5) 43 [.agg (e43 a0),vi a1,vu a2,vu a3,vu a4,.agg (XrH a5)] [] (λr=>.tup [.agg (e43 r.1),vu r.2.1,vi r.2.2]) λr=>[]:=by
 refineλN _ _ _ _ _ _=>rk Tryz.f43 ?_<;>(rintro _ hw r hr C _ rfl hwf hf;have hse:=@Za _ hw;simp only[Tryz.f43,Option.get!];(rw[Qgu]at hr);repeat' first
 |(refine El.el hr ?_;clear hr;intro hr)
 |(with_reducible intro h;refine Xx hr h ?_;clear hr;intro hr)
 |with_reducible intro _
 |simp only[go_sem,simprocAttr,Xz,KJ,hse]
 |(with_reducible first|apply Xi|apply Xh|apply Xs|apply Xq|apply Xr)
 |((first|with_reducible refine Yo hr ag ?_ ?_|(with_reducible refine Ye hr ?_ ?_;rotate_left;intro p;rotate_right));(·simp only[go_sem,simprocAttr,hse]);intro hp hn hd hr;(try have Xz:=hd _ e39);(try simp only[go_sem,simprocAttr]at Xz);(try have KJ:=hd _ Xb5);(try simp only[go_sem,simprocAttr]at KJ))
 |(refine Xt ?_ ?_;.first|assumption|omega)
 |(with_reducible first|refine CallX.c ?_ _|refine OK.c hr hw ?_ (λy hr=>?_) _|refine IK hr hw ?_ (λy hr=>?_) _)
 |refine dc 43 16 hf 76 [(0,1014,[[4864],[5312,5440]]),(0,1009,[[],[4864,5312,5440]]),(2,1009,[[],[4864,5312,5440]]),(7,1008,[[4864],[5312,5440]]),(0,239,[[],[4864,5312]]),(0,31,[[],[4864]]),(32,31,[[],[4864]]),(96,31,[[5312],[4864]]),(240,15,[[],[4864]]),(496,15,[[5312,5440],[4864]]),(1023,0,[[4864],[]]),(2047,0,[]),(4095,0,[[384],[]])] ?_
 |refine dc 43 27 hf 142 [(0,2046,[]),(0,281,[]),(2,281,[]),(0,263,[]),(8,263,[]),(30,257,[]),(62,257,[]),(126,257,[]),(0,255,[]),(510,1,[]),(1022,1,[]),(2047,0,[]),(4095,0,[]),(8191,8192,[]),(8191,4096,[[],[384]]),(16383,8192,[[384],[]]),(65535,0,[])] ?_
 |(refine Xn hr ?_;rintro rfl;with_reducible refine XK ?_)
 |exact Yr hr
 |fail)
end Go.Sx
