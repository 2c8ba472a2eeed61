import Derived.Test.YtjmgebidnekjdaaGreatLG6
import Derived.Test.YtjmgebidnekjdaaGreatLG7
set_option linter.all false
namespace Go.Sx
open Go.Proofs
set_option maxRecDepth 10000
set_option maxHeartbeats 100000000
def g16:(∀ N a0,OK (QbF N a0) 15 [.ept 1000000 0 2 0 0] [.arr true 50 2 [[s3 a0.L,vi a0.at_]] 0] (λ r=>.agg (e46 r.1)) λ r=>[.arr true 50 2 [[s3 r.2.L,vi r.2.at_]] 0])/\(∀ N a0 a1,OK (Qfx N a0 a1) 212 [.agg (KR a0),vu a1] [] (λ r=>.agg (e72 r)) λ r=>[])/\(∀ N a0 a1,OK (Qc6 N a0 a1) 147 [.agg (e23 a0),.agg (e72 a1)] [] (λ r=>.v (.bool r)) λ r=>[])/\(∀ N a0 a1,OK (Qci N a0 a1) 150 [.agg (e38 a0),vu a1] [] (λ r=>.tup [.agg (e38 r.1),vu r.2.1,vi r.2.2]) λ r=>[])/\(∀ N a0 a1,OK (Qek N a0 a1) 104 [.agg (e32 a0),vi a1] [] (λ r=>.tup [.agg (e32 r.1),vi r.2]) λ r=>[])/\(∀ N a0 a1,OK (Qc0 N a0 a1) 222 [.agg (e32 a0),vu a1] [] (λ r=>vi r) λ r=>[])/\(∀ N a0 a1,OK (QdB N a0 a1) 233 [.agg (Xgh a0),.agg (e23 a1)] [] (λ r=>.v (.bool r)) λ r=>[])/\(∀ N a0,OK (QdP N a0) 46 [.agg (e35 a0)] [] (λ r=>.v (.bool r)) λ r=>[])/\(∀ N a0 a1,OK (Qcr N a0 a1) 54 [.agg (e61 a0),s76 a1] [] (λ r=>.v (.bool r)) λ r=>[]):=by
 refine ⟨λ N _=>rk Tryz.f15 [.cell 2 46] [] 36 ?_,λ N _ _=>rk Tryz.f212 [.cell 4 72] [] 23 ?_,λ N _ _=>rk Tryz.f147 [.tmp 4] [] 19 ?_,λ N _ _=>rk Tryz.f150 [.cell 4 38,.tmp 5,.tmp 6] [] 43 ?_,λ N _ _=>rk Tryz.f104 [.cell 4 32,.tmp 5] [] 11 ?_,λ N _ _=>rk Tryz.f222 [.tmp 4] [] 20 ?_,λ N _ _=>rk Tryz.f233 [.tmp 4] [] 18 ?_,λ N _=>rk Tryz.f46 [.tmp 2] [] 13 ?_,λ N _ _=>rk Tryz.f54 [.tmp 4] [] 9 ?_⟩<;>(rintro _ hw r hr C _ rfl hwf hf;simp only[Tryz.f15,Tryz.f212,Tryz.f147,Tryz.f150,Tryz.f104,Tryz.f222,Tryz.f233,Tryz.f46,Tryz.f54,Option.get!];(first|rw[QbF] at hr|rw[Qfx] at hr|rw[Qc6] at hr|rw[Qci] at hr|rw[Qek] at hr|rw[Qc0] at hr|rw[QdB] at hr|rw[QdP] at hr|rw[Qcr] at hr);repeat' first
 |(refine El.el hr ?_;intro hr)
 |(with_reducible intro h;refine Xx hr h ?_;intro hr)
 |with_reducible intro _
 |simp only[go_sem,simprocAttr]
 |(with_reducible first|apply Xh|apply Xg|apply Xr|apply Xt|apply Xu)
 |(refine Xs ?_ ?_;·first|assumption|omega)
 |(with_reducible first|refine CallX.c ?_ _|refine OK.c hr hw ?_ (λ y hr=>?_) _|refine Ol hr hw ?_ (λ y hr=>?_) _)
 |refine dc 147 1 hf 13 [(0,0,[]),(1,0,[]),(3,0,[]),(7,0,[]),(15,0,[]),(31,0,[]),(63,0,[]),(127,0,[]),(255,6,[]),(255,1,[]),(767,1,[]),(2047,0,[]),(4095,0,[]),(8191,0,[]),(16383,0,[])] ?_
 |(refine Xo hr ?_;rintro rfl;with_reducible refine XP ?_)
 |exact Yw hr
 |exact XV hr
 |(apply XW;assumption)
 |fail)
abbrev Qjv:=g16.1
abbrev QoP:=g16.2.1
abbrev Qog:=g16.2.2.1
abbrev Qm6:=g16.2.2.2.1
abbrev Qoh:=g16.2.2.2.2.1
abbrev Qm7:=g16.2.2.2.2.2.1
abbrev Qi7:=g16.2.2.2.2.2.2.1
abbrev Qm8:=g16.2.2.2.2.2.2.2.1
abbrev QiG:=g16.2.2.2.2.2.2.2.2
attribute [instance] Qjv QoP Qog Qm6 Qoh Qm7 Qi7 Qm8 QiG
def g17:(∀ N a0 a1 a2,OK (Qg6 N a0 a1 a2) 277 [.agg (e27 a0),vi a1,vi a2] [] (λ r=>vu r) λ r=>[])/\(∀ N a0 a1,OK (Qe9 N a0 a1) 143 [.agg (KR a0),vu a1] [] (λ r=>vu r) λ r=>[])/\(∀ N a0 a1 a2 a3 a4,OK (Qfa N a0 a1 a2 a3 a4) 266 [.agg (e23 a0),Y3 a1,vi a2,vi a3,vi a4] [] (λ r=>.tup [Y3 r.1,vi r.2]) λ r=>[])/\(∀ N a0 a1 a2,OK (QdU N a0 a1 a2) 159 [.agg (e32 a0),vi a1,vi a2] [] (λ r=>.tup [.agg (e32 r.1),vi r.2]) λ r=>[])/\(∀ N a0 a1 a2,OK (Qcj N a0 a1 a2) 219 [.agg (e27 a0),vu a1,vi a2] [] (λ r=>.agg (e27 r)) λ r=>[])/\(∀ N a0 a1,OK (Qcy N a0 a1) 100 [.agg (e42 a0),vu a1] [] (λ r=>.tup [.agg (e42 r.1),vu r.2]) λ r=>[])/\(∀ N a0 a1,OK (QgU N a0 a1) 193 [.ept 1000000 0 6 0 0,.ept 1000001 0 1 0 0] [.arr true 27 6 [[vi a0.Conf.PageWords,vi a0.Conf.Pages,s76 a0.Words,Y3 a0.Pages,vi a0.Space,vi a0.Bump]] 0,.arr true 76 1 [[vu a1]] 0] (λ r=>vu r) λ r=>[.arr true 27 6 [[vi a0.Conf.PageWords,vi a0.Conf.Pages,s76 a0.Words,Y3 a0.Pages,vi a0.Space,vi a0.Bump]] 0,.arr true 76 1 [[vu a1]] 0])/\(∀ N a0 a1,OK (QeJ N a0 a1) 119 [vu a0,.ept 1000000 0 1 0 0] [.arr true 24 1 [[s76 a1]] 0] (λ r=>.v (.bool r)) λ r=>[.arr true 24 1 [[s76 a1]] 0]):=by
 refine ⟨λ N _ _ _=>rk Tryz.f277 [.tmp 6] [] 27 ?_,λ N _ _=>rk Tryz.f143 [.tmp 4] [] 28 ?_,λ N _ _ _ _ _=>rk Tryz.f266 [.tmp 10,.tmp 11] [] 37 ?_,λ N _ _ _=>rk Tryz.f159 [.cell 6 32,.tmp 7] [] 33 ?_,λ N _ _ _=>rk Tryz.f219 [.cell 6 27] [] 25 ?_,λ N _ _=>rk Tryz.f100 [.cell 4 42,.tmp 5] [] 35 ?_,λ N _ _=>rk Tryz.f193 [.tmp 2] [] 13 ?_,λ N _ _=>rk Tryz.f119 [.tmp 3] [] 18 ?_⟩<;>(rintro _ hw r hr C _ rfl hwf hf;simp only[Tryz.f277,Tryz.f143,Tryz.f266,Tryz.f159,Tryz.f219,Tryz.f100,Tryz.f193,Tryz.f119,Option.get!];(first|rw[Qg6] at hr|rw[Qe9] at hr|rw[Qfa] at hr|rw[QdU] at hr|rw[Qcj] at hr|rw[Qcy] at hr|rw[QgU] at hr|rw[QeJ] at hr);repeat' first
 |(refine El.el hr ?_;intro hr)
 |(with_reducible intro h;refine Xx hr h ?_;intro hr)
 |with_reducible intro _
 |simp only[go_sem,simprocAttr,Y2,XE]
 |(with_reducible first|apply Xh|apply Xg|apply Xr|apply Xt|apply Xu)
 |((first|with_reducible refine Yn hr (by assumption) ?_ ?_|(with_reducible refine Yk hr ?_ ?_;rotate_left;intro p;rotate_right));(·simp only[go_sem,simprocAttr]);intro hp hn hd hr;(try have Y2:=hd _ e88);(try simp only[go_sem,simprocAttr] at Y2);(try have XE:=hd _ Yp);(try simp only[go_sem,simprocAttr] at XE))
 |(refine Xs ?_ ?_;·first|assumption|omega)
 |(with_reducible first|refine CallX.c ?_ _|refine OK.c hr hw ?_ (λ y hr=>?_) _|refine Ol hr hw ?_ (λ y hr=>?_) _)
 |refine dc 219 2 hf 12 [(0,284,[]),(1,284,[]),(0,267,[]),(0,263,[]),(12,259,[]),(31,256,[]),(63,256,[]),(127,256,[]),(0,255,[]),(511,0,[]),(1023,0,[]),(2047,0,[]),(4095,0,[[448],[]])] ?_
 |(refine Xo hr ?_;rintro rfl;with_reducible refine XP ?_)
 |exact Yw hr
 |exact XV hr
 |(apply XW;assumption)
 |fail)
abbrev Qoi:=g17.1
abbrev Qm9:=g17.2.1
abbrev Qna:=g17.2.2.1
abbrev Qmd:=g17.2.2.2.1
abbrev Qnb:=g17.2.2.2.2.1
abbrev Qnc:=g17.2.2.2.2.2.1
abbrev Qll:=g17.2.2.2.2.2.2.1
abbrev Qi8:=g17.2.2.2.2.2.2.2
attribute [instance] Qoi Qm9 Qna Qmd Qnb Qnc Qll Qi8
end Go.Sx
