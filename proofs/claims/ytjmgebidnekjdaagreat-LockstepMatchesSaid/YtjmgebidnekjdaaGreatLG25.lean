import Derived.Test.YtjmgebidnekjdaaGreatLG23
set_option linter.all false
namespace Go.Sx
open Go.Proofs
set_option maxRecDepth 10000
set_option maxHeartbeats 100000000
def g39:(∀ N a0 a1 a2 a3,OK (Qc7 N a0 a1 a2 a3) 90 [.agg (e38 a0),vi a1,vu a2,vu a3] [] (λ r=>.tup [.agg (e38 r.1),vu r.2.1,vi r.2.2]) λ r=>[])/\(∀ N a0 a1 a2 a3,OK (QcZ N a0 a1 a2 a3) 151 [.agg (e38 a0),vu a1,vu a2,.v (.bool a3)] [] (λ r=>.tup [vu r.1,vi r.2.1,vi r.2.2]) λ r=>[])/\(∀ N a0 a1 a2 a3,OK (QdN N a0 a1 a2 a3) 92 [.agg (e38 a0),vi a1,vu a2,vu a3] [] (λ r=>.tup [.agg (e38 r.1),vu r.2.1,vi r.2.2]) λ r=>[])/\(∀ N a0 a1 a2,OK (QcH N a0 a1 a2) 93 [.agg (e38 a0),vi a1,vu a2] [] (λ r=>.tup [.agg (e38 r.1),vu r.2.1,vi r.2.2]) λ r=>[])/\(∀ N a0 a1 a2,OK (Qel N a0 a1 a2) 96 [.agg (e38 a0),vi a1,vu a2] [] (λ r=>.tup [.agg (e38 r.1),vu r.2.1,vi r.2.2]) λ r=>[]):=by
 refine ⟨λ N _ _ _ _=>rk Tryz.f90 [.cell 8 38,.tmp 9,.tmp 10] [] 84 ?_,λ N _ _ _ _=>rk Tryz.f151 [.tmp 8,.tmp 9,.tmp 10] [] 45 ?_,λ N _ _ _ _=>rk Tryz.f92 [.cell 8 38,.tmp 9,.tmp 10] [] 106 ?_,λ N _ _ _=>rk Tryz.f93 [.cell 6 38,.tmp 7,.tmp 8] [] 68 ?_,λ N _ _ _=>rk Tryz.f96 [.cell 6 38,.tmp 7,.tmp 8] [] 79 ?_⟩<;>(rintro _ hw r hr C _ rfl hwf hf;simp only[Tryz.f90,Tryz.f151,Tryz.f92,Tryz.f93,Tryz.f96,Option.get!];(first|rw[Qc7] at hr|rw[QcZ] at hr|rw[QdN] at hr|rw[QcH] at hr|rw[Qel] at hr);repeat' first
 |(refine El.el hr ?_;intro hr)
 |(with_reducible intro h;refine Xx hr h ?_;intro hr)
 |with_reducible intro _
 |simp only[go_sem,simprocAttr]
 |(with_reducible first|apply Xh|apply Xg|apply Xr|apply Xt|apply Xu)
 |(refine Xs ?_ ?_;·first|assumption|omega)
 |(with_reducible first|refine CallX.c ?_ _|refine OK.c hr hw ?_ (λ y hr=>?_) _)
 |refine dc 92 9 hf 46 [(0,14,[]),(0,1,[[],[512]]),(2,1,[[],[512]]),(6,1,[[],[512]]),(1,14,[[512],[]]),(31,0,[]),(63,0,[])] ?_
 |refine dc 92 10 hf 50 [(0,14,[]),(0,1,[[],[512]]),(2,1,[[],[512]]),(6,1,[[],[512]]),(1,14,[[512],[]]),(31,0,[]),(63,0,[])] ?_
 |(refine Xo hr ?_;rintro rfl;with_reducible refine XP ?_)
 |exact Yw hr
 |exact XV hr
 |(apply XW;assumption)
 |fail)
abbrev Qmr:=g39.1
abbrev Qny:=g39.2.1
abbrev Qnz:=g39.2.2.1
abbrev QlI:=g39.2.2.2.1
abbrev Qoy:=g39.2.2.2.2
attribute [instance] Qmr Qny Qnz QlI Qoy
end Go.Sx
