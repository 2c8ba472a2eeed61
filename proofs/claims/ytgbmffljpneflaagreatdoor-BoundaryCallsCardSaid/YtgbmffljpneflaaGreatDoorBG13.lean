import Derived.Test.YtgbmffljpneflaaGreatDoorBG10
import Derived.Test.YtgbmffljpneflaaGreatDoorBG11
set_option linter.all false
namespace Go.Sx
open Go.Proofs
set_option maxRecDepth 10000
set_option maxHeartbeats 100000000
def g24:(∀N a0 a1,OK (QbU N a0 a1) 94 [.agg (e27 a0),vu a1] [] (λr=>.tup [.agg (ZS r.1),vi r.2]) λr=>[])/\(∀N a0 a1,OK (Qch N a0 a1) 167 [.agg (e27 a0),.agg (ZS a1)] [] (λr=>.tup [.agg (e27 r.1),vu r.2.1,vi r.2.2]) λr=>[])/\(∀N a0 a1,OK (Qe9 N a0 a1) 255 [.agg (e43 a0),vu a1] [] (λr=>.tup [vu r.1,vi r.2]) λr=>[])/\(∀N a0 a1 a2,OK (QgD N a0 a1 a2) 194 [.agg (e43 a0),vi a1,vu a2] [] (λr=>vi r) λr=>[])/\(∀N a0 a1 a2,OK (Qg2 N a0 a1 a2) 196 [.agg (e43 a0),vi a1,vu a2] [] (λr=>vi r) λr=>[])/\(∀N a0 c0,OK (Qa5 N a0 c0) 131 [s39 a0,.clo (.func 132) [] [.ept 1000000 0 1 0 0]] [.arr true 24 1 [[s39 c0]] 0] (λr=>.v (.bool r)) λr=>[.arr true 24 1 [[s39 c0]] 0])/\(∀N a0,OK (Qhl N a0) 51 [.agg (e38 a0)] [] (λr=>s39 r) λr=>[])/\(∀N a0 a1 a2,OK (Qg8 N a0 a1 a2) 224 [.agg (e35 a0),vi a1,vi a2] [] (λr=>.tup [vu r.1,vi r.2]) λr=>[])/\(∀N a0 a1 a2,OK (Qg9 N a0 a1 a2) 150 [.agg (e32 a0),vi a1,vi a2] [] (λr=>.tup [.agg (e32 r.1),vi r.2]) λr=>[])/\(∀N a0 a1 a2,OK (Qgh N a0 a1 a2) 152 [.agg (e35 a0),vi a1,vi a2] [] (λr=>.tup [.agg (e35 r.1),vi r.2]) λr=>[])/\(∀N a0 a1,OK (Qh5 N a0 a1) 153 [.agg (e32 a0),vi a1] [] (λr=>.tup [.agg (e32 r.1),vi r.2]) λr=>[]):=by
 refine⟨λN _ _=>rk Tryz.f94 ?_,λN _ _=>rk Tryz.f167 ?_,λN _ _=>rk Tryz.f255 ?_,λN _ _ _=>rk Tryz.f194 ?_,λN _ _ _=>rk Tryz.f196 ?_,λN _ _=>rk Tryz.f131 ?_,λN _=>rk Tryz.f51 ?_,λN _ _ _=>rk Tryz.f224 ?_,λN _ _ _=>rk Tryz.f150 ?_,λN _ _ _=>rk Tryz.f152 ?_,λN _ _=>rk Tryz.f153 ?_⟩<;>(rintro _ hw r hr C _ rfl hwf hf;have hse:=@Za _ hw;simp only[Tryz.f94,Tryz.f167,Tryz.f255,Tryz.f194,Tryz.f196,Tryz.f131,Tryz.f51,Tryz.f224,Tryz.f150,Tryz.f152,Tryz.f153,Option.get!];(first|rw[QbU]at hr|rw[Qch]at hr|rw[Qe9]at hr|rw[QgD]at hr|rw[Qg2]at hr|rw[Qa5]at hr|rw[Qhl]at hr|rw[Qg8]at hr|rw[Qg9]at hr|rw[Qgh]at hr|rw[Qh5]at hr);repeat' first
 |(refine El.el hr ?_;clear hr;intro hr)
 |(with_reducible intro h;refine Xx hr h ?_;clear hr;intro hr)
 |with_reducible intro _
 |simp only[go_sem,simprocAttr,YL,YN,hse]
 |(with_reducible first|apply Xi|apply Xh|apply Xs|apply Xq|apply Xr)
 |((first|with_reducible refine Yo hr ag ?_ ?_|(with_reducible refine Ye hr ?_ ?_;rotate_left;intro p;rotate_right));(·simp only[go_sem,simprocAttr,hse]);intro hp hn hd hr;(try have YL:=hd _ e72);(try simp only[go_sem,simprocAttr]at YL);(try have YN:=hd _ e74);(try simp only[go_sem,simprocAttr]at YN))
 |(refine Xt ?_ ?_;.first|assumption|omega)
 |(with_reducible first|refine CallX.c ?_ _|refine OK.c hr hw ?_ (λy hr=>?_) _|refine IK hr hw ?_ (λy hr=>?_) _)
 |refine dc 51 1 hf 3 [(0,1020,[]),(1,1020,[]),(0,355,[]),(4,355,[]),(12,355,[]),(0,287,[]),(32,287,[]),(124,259,[]),(0,255,[]),(508,3,[]),(1023,0,[[832],[]]),(2047,0,[[832],[]]),(4095,0,[])] ?_
 |refine dc 150 5 hf 23 [(0,60,[]),(1,60,[]),(0,59,[]),(0,231,[[],[1408]]),(8,231,[[],[1408]]),(0,223,[[],[1408]]),(7,56,[]),(71,56,[]),(199,56,[[1408],[]]),(511,0,[]),(1023,0,[]),(2047,0,[[1408],[]])] ?_
 |refine dc 152 5 hf 19 [(0,60,[]),(1,60,[]),(0,59,[]),(0,231,[[],[1152]]),(8,231,[[],[1152]]),(0,223,[[],[1152]]),(7,56,[]),(71,56,[]),(199,56,[[1152],[]]),(511,0,[]),(1023,0,[]),(2047,0,[[1152],[]])] ?_
 |(refine Xn hr ?_;rintro rfl;with_reducible refine XK ?_)
 |exact Yr hr
 |fail)
abbrev Qq6:=g24.1
abbrev Qq7:=g24.2.1
abbrev Qo5:=g24.2.2.1
abbrev Qm4:=g24.2.2.2.1
abbrev QnV:=g24.2.2.2.2.1
abbrev Qf3:=g24.2.2.2.2.2.1
abbrev Qqv:=g24.2.2.2.2.2.2.1
abbrev Qq8:=g24.2.2.2.2.2.2.2.1
abbrev QnW:=g24.2.2.2.2.2.2.2.2.1
abbrev QnX:=g24.2.2.2.2.2.2.2.2.2.1
abbrev Qqw:=g24.2.2.2.2.2.2.2.2.2.2
attribute [instance] Qq6 Qq7 Qo5 Qm4 QnV Qf3 Qqv Qq8 QnW QnX Qqw
end Go.Sx
