import Derived.Test.YtcclgbgphjofaaaGreatHG13
set_option linter.all false
namespace Go.Sx
open Go.Proofs
set_option maxRecDepth 10000
set_option maxHeartbeats 100000000
instance Qoj:∀N a0 a1 a2 a3 a4 a5,OK (Qar N a0 a1 a2 a3 a4 a5) 36 [.agg (e42 a0),vi a1,vu a2,vu a3,vu a4,.agg (Xr3 a5)] [] (λr=>.tup [.agg (e42 r.1),vu r.2.1,vi r.2.2]) λr=>[]:=by
 refineλN _ _ _ _ _ _=>rk Tryz.f36 ?_<;>(rintro _ hw r hr C _ rfl hwf hf;simp only[Tryz.f36,Option.get!];(rw[Qar]at hr);repeat' first
 |(refine El.el hr ?_;intro hr)
 |(with_reducible intro h;refine XH hr h ?_;intro hr)
 |with_reducible intro _
 |simp only[go_sem,simprocAttr,X2,VP]
 |(with_reducible first|apply Xk|apply Xj|apply XA|apply XF|apply XG)
 |((first|with_reducible refine Y1 hr ag ?_ ?_|(with_reducible refine YN hr ?_ ?_;rotate_left;intro p;rotate_right));(·simp only[go_sem,simprocAttr]);intro hp hn hd hr;(try have X2:=hd _ e55);(try simp only[go_sem,simprocAttr]at X2);(try have VP:=hd _ e86);(try simp only[go_sem,simprocAttr]at VP))
 |(refine XB ?_ ?_;.first|assumption|omega)
 |(with_reducible first|refine CallX.c ?_ _|refine OK.c hr hw ?_ (λy hr=>?_) _|refine OK.d hr hw ?_ (λy hr=>?_) _)
 |refine dc 36 16 hf 76 [(0,1014,[[4864],[5312,5440]]),(0,1009,[[],[4864,5312,5440]]),(2,1009,[[],[4864,5312,5440]]),(7,1008,[[4864],[5312,5440]]),(0,239,[[],[4864,5312]]),(0,31,[[],[4864]]),(32,31,[[],[4864]]),(96,31,[[5312],[4864]]),(240,15,[[],[4864]]),(496,15,[[5312,5440],[4864]]),(1023,0,[[4864],[]]),(2047,0,[]),(4095,0,[[384],[]])] ?_
 |refine dc 36 27 hf 142 [(0,2046,[]),(0,281,[]),(2,281,[]),(0,263,[]),(8,263,[]),(30,257,[]),(62,257,[]),(126,257,[]),(0,255,[]),(510,1,[]),(1022,1,[]),(2047,0,[]),(4095,0,[]),(8191,8192,[]),(8191,4096,[[],[384]]),(16383,8192,[[384],[]]),(65535,0,[])] ?_
 |(refine Xu hr ?_;rintro rfl;with_reducible refine X4 ?_)
 |exact Za hr
 |exact Yb hr
 |(apply Yc;assumption)
 |fail)
end Go.Sx
