import Derived.Test.YtjmgebidnekjdaaGreatLG1
import Derived.Test.YtjmgebidnekjdaaGreatLG2
set_option linter.all false
namespace Go.Sx
open Go.Proofs
set_option maxRecDepth 10000
set_option maxHeartbeats 100000000
def g7:(∀ N a0,OK (QfL N a0) 4 [.agg (e38 a0)] [] (λ r=>.v (.bool r)) λ r=>[])/\(∀ N a0,OK (Qgg N a0) 37 [.agg (e23 a0)] [] (λ r=>.tup [.agg (e42 r.1),vi r.2]) λ r=>[])/\(∀ N a0 a1,OK (QfY N a0 a1) 242 [s76 a0,vu a1] [] (λ r=>.tup [vi r.1,vi r.2]) λ r=>[])/\(∀ N a0 a1 a2,OK (Qca N a0 a1 a2) 261 [.agg (e23 a0),vi a1,vi a2] [] (λ r=>.tup [vu r.1,vi r.2]) λ r=>[])/\(∀ N a0 a1,OK (Qey N a0 a1) 211 [.agg (KR a0),vi a1] [] (λ r=>.v (.bool r)) λ r=>[])/\(∀ N a0,OK (QbO N a0) 157 [.agg (XoO a0)] [] (λ r=>.tup [vu r.1,vi r.2]) λ r=>[])/\(∀ N a0 a1,OK (QbD N a0 a1) 43 [.agg (e46 a0),.ept 1000000 0 2 0 0] [.arr true 50 2 [[s3 a1.L,vi a1.at_]] 0] (λ r=>vu r.1) λ r=>[.arr true 50 2 [[s3 r.2.L,vi r.2.at_]] 0])/\(∀ N a0,OK (Qda N a0) 258 [.agg (e23 a0)] [] (λ r=>vi r) λ r=>[])/\(∀ N a0 a1,OK (Qhq N a0 a1) 236 [s76 a0,vu a1] [] (λ r=>.tup [vi r.1,vi r.2]) λ r=>[])/\(∀ N a0 a1,OK (Qf8 N a0 a1) 186 [vu a0,vu a1] [] (λ r=>.v (.bool r)) λ r=>[]):=by
 refine ⟨λ N _=>rk Tryz.f4 [.tmp 2] [] 53 ?_,λ N _=>rk Tryz.f37 [.cell 2 42,.tmp 3] [] 10 ?_,λ N _ _=>rk Tryz.f242 [.tmp 4,.tmp 5] [] 17 ?_,λ N _ _ _=>rk Tryz.f261 [.tmp 6,.tmp 7] [] 37 ?_,λ N _ _=>rk Tryz.f211 [.tmp 4] [] 39 ?_,λ N _=>rk Tryz.f157 [.tmp 2,.tmp 3] [] 20 ?_,λ N _ _=>rk Tryz.f43 [.tmp 4] [] 53 ?_,λ N _=>rk Tryz.f258 [.tmp 2] [] 9 ?_,λ N _ _=>rk Tryz.f236 [.tmp 4,.tmp 5] [] 17 ?_,λ N _ _=>rk Tryz.f186 [.tmp 4] [] 17 ?_⟩<;>(rintro _ hw r hr C _ rfl hwf hf;simp only[Tryz.f4,Tryz.f37,Tryz.f242,Tryz.f261,Tryz.f211,Tryz.f157,Tryz.f43,Tryz.f258,Tryz.f236,Tryz.f186,Option.get!];(first|rw[QfL] at hr|rw[Qgg] at hr|rw[QfY] at hr|rw[Qca] at hr|rw[Qey] at hr|rw[QbO] at hr|rw[QbD] at hr|rw[Qda] at hr|rw[Qhq] at hr|rw[Qf8] at hr);repeat' first
 |(refine El.el hr ?_;intro hr)
 |(with_reducible intro h;refine Xx hr h ?_;intro hr)
 |with_reducible intro _
 |simp only[go_sem,simprocAttr,XS,XE]
 |(with_reducible first|apply Xh|apply Xg|apply Xr|apply Xt|apply Xu)
 |((first|with_reducible refine Yn hr (by assumption) ?_ ?_|(with_reducible refine Yk hr ?_ ?_;rotate_left;intro p;rotate_right));(·simp only[go_sem,simprocAttr]);intro hp hn hd hr;(try have XS:=hd _ e76);(try simp only[go_sem,simprocAttr] at XS);(try have XE:=hd _ Yp);(try simp only[go_sem,simprocAttr] at XE))
 |(refine Xs ?_ ?_;·first|assumption|omega)
 |(with_reducible first|refine CallX.c ?_ _|refine OK.c hr hw ?_ (λ y hr=>?_) _|refine Ol hr hw ?_ (λ y hr=>?_) _)
 |refine dc 43 6 hf 20 [(0,924,[[],[1000000]]),(1,924,[[],[1000000]]),(0,139,[]),(0,135,[]),(12,131,[[1000000],[]]),(31,896,[[],[1000000]]),(63,896,[[],[1000000]]),(0,127,[[],[1000000]]),(156,99,[[1000000],[]]),(412,99,[]),(1023,0,[]),(2047,0,[])] ?_
 |refine dc 43 10 hf 35 [(0,28,[[],[1000000]]),(1,28,[[],[1000000]]),(0,11,[]),(0,7,[]),(12,3,[[1000000],[]]),(31,0,[]),(63,0,[]),(127,0,[])] ?_
 |refine dc 43 11 hf 42 [(0,508,[[],[1000000]]),(1,508,[[],[1000000]]),(0,243,[[],[1000000]]),(4,243,[[],[1000000]]),(0,111,[]),(0,31,[]),(32,31,[]),(112,15,[[1000000],[]]),(252,3,[]),(511,0,[]),(1023,0,[]),(2047,0,[])] ?_
 |(refine Xo hr ?_;rintro rfl;with_reducible refine XP ?_)
 |exact Yw hr
 |exact XV hr
 |(apply XW;assumption)
 |fail)
abbrev Qk9:=g7.1
abbrev QoH:=g7.2.1
abbrev QmW:=g7.2.2.1
abbrev Qla:=g7.2.2.2.1
abbrev Qka:=g7.2.2.2.2.1
abbrev Ql3:=g7.2.2.2.2.2.1
abbrev Qkb:=g7.2.2.2.2.2.2.1
abbrev Qjo:=g7.2.2.2.2.2.2.2.1
abbrev QmX:=g7.2.2.2.2.2.2.2.2.1
abbrev Qjp:=g7.2.2.2.2.2.2.2.2.2
attribute [instance] Qk9 QoH QmW Qla Qka Ql3 Qkb Qjo QmX Qjp
def g9:(∀ N a0,OK (Qgf N a0) 83 [.agg (e23 a0)] [] (λ r=>.tup [.agg (e27 r.1),vi r.2]) λ r=>[])/\(∀ N a0 a1,OK (Qdr N a0 a1) 200 [.agg (e23 a0),vu a1] [] (λ r=>.tup [vi r.1,vi r.2.1,vi r.2.2]) λ r=>[])/\(∀ N a0,OK (QcB N a0) 206 [.agg (e72 a0)] [] (λ r=>vi r) λ r=>[])/\(∀ N a0 a1,OK (QbN N a0 a1) 82 [.agg (e72 a0),vi a1] [] (λ r=>.v (.bool r)) λ r=>[])/\(∀ N a0,OK (QfZ N a0) 264 [.agg (e23 a0)] [] (λ r=>vi r) λ r=>[])/\(∀ N a0 a1,OK (Qg8 N a0 a1) 174 [.agg (e42 a0),vu a1] [] (λ r=>vi r) λ r=>[])/\(∀ N a0 a1,OK (QdA N a0 a1) 232 [.agg (Xgh a0),.agg (e23 a1)] [] (λ r=>.v (.bool r)) λ r=>[])/\(∀ N a0,OK (QdV N a0) 122 [.agg (e72 a0)] [] (λ r=>.v (.bool r)) λ r=>[])/\(∀ N a0 a1 a2,OK (Qgz N a0 a1 a2) 130 [s76 a0,vu a1,vi a2] [] (λ r=>.tup [.fsl 76 1 (r.1.map e76),vi r.2]) λ r=>[]):=by
 refine ⟨λ N _=>rk Tryz.f83 [.cell 2 27,.tmp 3] [] 19 ?_,λ N _ _=>rk Tryz.f200 [.tmp 4,.tmp 5,.tmp 6] [] 35 ?_,λ N _=>rk Tryz.f206 [.tmp 2] [] 9 ?_,λ N _ _=>rk Tryz.f82 [.tmp 4] [] 35 ?_,λ N _=>rk Tryz.f264 [.tmp 2] [] 9 ?_,λ N _ _=>rk Tryz.f174 [.tmp 4] [] 8 ?_,λ N _ _=>rk Tryz.f232 [.tmp 4] [] 23 ?_,λ N _=>rk Tryz.f122 [.tmp 2] [] 43 ?_,λ N _ _ _=>rk Tryz.f130 [.tmp 6,.tmp 7] [1728] 28 ?_⟩<;>(rintro _ hw r hr C _ rfl hwf hf;simp only[Tryz.f83,Tryz.f200,Tryz.f206,Tryz.f82,Tryz.f264,Tryz.f174,Tryz.f232,Tryz.f122,Tryz.f130,Option.get!];(first|rw[Qgf] at hr|rw[Qdr] at hr|rw[QcB] at hr|rw[QbN] at hr|rw[QfZ] at hr|rw[Qg8] at hr|rw[QdA] at hr|rw[QdV] at hr|rw[Qgz] at hr);repeat' first
 |(refine El.el hr ?_;intro hr)
 |(with_reducible intro h;refine Xx hr h ?_;intro hr)
 |with_reducible intro _
 |simp only[go_sem,simprocAttr,WC,WR,UM]
 |(with_reducible first|apply Xh|apply Xg|apply Xr|apply Xt|apply Xu)
 |(refine Xs ?_ ?_;·first|assumption|omega)
 |(with_reducible first|refine CallX.c ?_ _|refine OK.c hr hw ?_ (λ y hr=>?_) _|refine Ol hr hw ?_ (λ y hr=>?_) _)
 |refine dc 83 3 hf 8 [(0,1022,[[],[896,1088]]),(0,921,[[],[1088]]),(2,921,[[],[1088]]),(0,903,[[],[1088]]),(8,903,[[],[1088]]),(30,897,[[],[1088]]),(62,897,[[896],[1088]]),(0,127,[[],[896]]),(128,127,[[],[896]]),(384,127,[[1088],[896]]),(1023,0,[]),(2047,0,[[128],[]]),(4095,0,[])] ?_
 |refine dc 200 6 hf 4 [(0,2063597568,[]),(0,2021654528,[]),(2,2021654528,[]),(7,2013265920,[]),(0,931135489,[]),(0,260046849,[]),(32,260046849,[]),(112,125829121,[]),(15,2013265920,[]),(511,0,[]),(1023,0,[])] ?_
 |refine dc 122 4 hf 28 [(0,0,[]),(1,0,[]),(3,0,[]),(7,0,[]),(15,56,[]),(31,56,[]),(63,56,[]),(15,7,[]),(143,7,[]),(399,7,[]),(1023,0,[]),(2047,0,[]),(4095,0,[])] ?_
 |(refine Xo hr ?_;rintro rfl;with_reducible refine XP ?_)
 |exact Yw hr
 |exact XV hr
 |(apply XW;assumption)
 |fail)
abbrev QoI:=g9.1
abbrev Qo3:=g9.2.1
abbrev Qn2:=g9.2.2.1
abbrev Qlb:=g9.2.2.2.1
abbrev QmY:=g9.2.2.2.2.1
abbrev Ql4:=g9.2.2.2.2.2.1
abbrev Qi4:=g9.2.2.2.2.2.2.1
abbrev Ql5:=g9.2.2.2.2.2.2.2.1
abbrev Qn3:=g9.2.2.2.2.2.2.2.2
attribute [instance] QoI Qo3 Qn2 Qlb QmY Ql4 Qi4 Ql5 Qn3
end Go.Sx
