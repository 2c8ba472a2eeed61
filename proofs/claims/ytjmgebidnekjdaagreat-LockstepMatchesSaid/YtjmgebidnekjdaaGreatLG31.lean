import Derived.Test.YtjmgebidnekjdaaGreatLG30
set_option linter.all false
namespace Go.Sx
open Go.Proofs
set_option maxRecDepth 10000
set_option maxHeartbeats 100000000
abbrev Qhz:=λ N a0 a1 y3 y4 y5 p7 v6 (Q:(Ex Bool Unit)→Prop) n (st:St)=>∃ v8 ex,QaJ N a0 a1 y3 y4 y5 p7 v6 n v8=some ex/\Q ex/\((∃ w2624 w3136 w896,st.n=87/\st.s 2624=some (w2624,.arr false 38 13 ([y3.Env,y4.1,a0].map e38) 0)/\st.s 3136=some (w3136,.arr false 42 10 ([y3.World,y5.1,a1].map e42) 0)/\st.t 12=.osl 3136 w3136 10 0 3/\st.t 14=.ept 896 w896 13 0 0/\st.t 50=.osl 2624 w2624 13 0 3/\st.t 51=vi 3/\st.t 52=vi v6/\st.t 56=.osl 3136 w3136 10 0 3/\st.t 57=vi 3/\st.t 58=vi v8/\st.s 896=some (w896,.arr true 38 13 [e38 p7] 0)))
abbrev QhA:=λ N a0 a1 y3 y4 y5 (Q:(Ex Bool Unit)→Prop) n (st:St)=>∃ v6 ex,QaK N a0 a1 y3 y4 y5 n v6=some ex/\Q ex/\((∃ w2624 w3136,st.n=87/\st.s 2624=some (w2624,.arr false 38 13 ([y3.Env,y4.1,a0].map e38) 0)/\st.s 3136=some (w3136,.arr false 42 10 ([y3.World,y5.1,a1].map e42) 0)/\st.t 12=.osl 3136 w3136 10 0 3/\st.t 50=.osl 2624 w2624 13 0 3/\st.t 51=vi 3/\st.t 52=vi v6))
instance Qoz:∀ N a0 a1 a2 a3,OK (QcT N a0 a1 a2 a3) 3 [.agg (e38 a0),.agg (e42 a1),s3 a2,s3 a3] [] (λ r=>.v (.bool r)) λ r=>[]:=by
 refine λ N _ _ _ _=>rk Tryz.f3 [.tmp 8] [] 87 ?_<;>(rintro _ hw r hr C _ rfl hwf hf;simp only[Tryz.f3,Option.get!];(rw[QcT] at hr);repeat' first
 |(refine El.el hr ?_;intro hr)
 |(with_reducible intro h;refine Xx hr h ?_;intro hr)
 |with_reducible intro _
 |(refine Xo hr ?_;rintro rfl;have hr:=hk;clear hk)
 |simp only[go_sem,simprocAttr,E,Xql,Xqm]
 |(with_reducible first|apply Xh|apply Xg|apply Xr|apply Xt|apply Xu)
 |((first|with_reducible refine Yn hr (by assumption) ?_ ?_|(with_reducible refine Yk hr ?_ ?_;rotate_left;intro p;rotate_right));(·simp only[go_sem,simprocAttr]);intro hp hn hd hr;(try have Xql:=hd _ e38);(try simp only[go_sem,simprocAttr] at Xql);(try have Xqm:=hd _ e42);(try simp only[go_sem,simprocAttr] at Xqm))
 |(refine Xs ?_ ?_;·first|assumption|omega)
 |(with_reducible first|refine CallX.c ?_ _|refine OK.c hr hw ?_ (λ y hr=>?_) _|refine Ol hr hw ?_ (λ y hr=>?_) _)
 |(with_reducible refine lp (Qhz N _ _ _ _ _ _ _) hr N ?_ (λ ex hq hk=>⟨_,ex,hq,hk,?_⟩) _;clear hr;(try clear E);rintro n1 st ⟨v8,ex,hr,hk,⟨_,_,_,E⟩⟩<;>(obtain _|n1:=n1<;>rw[QaJ] at hr))
 |refine ⟨_,WH _,_,_,hr,hk,?_⟩
 |(with_reducible refine lp (QhA N _ _ _ _ _) hr N ?_ (λ ex hq hk=>⟨_,ex,hq,hk,?_⟩) _;clear hr;(try clear E);rintro n2 st ⟨v6,ex,hr,hk,⟨_,_,E⟩⟩<;>(obtain _|n2:=n2<;>rw[QaK] at hr))
 |refine dc 3 5 hf 34 [(0,124,[[],[2112]]),(1,124,[[],[2112]]),(0,83,[]),(4,83,[]),(0,79,[]),(28,67,[[2112],[]]),(0,63,[[],[2112]]),(127,0,[[2624],[]]),(255,0,[])] ?_
 |refine dc 3 6 hf 42 [(0,124,[[],[2112]]),(1,124,[[],[2112]]),(0,83,[]),(4,83,[]),(0,79,[]),(28,67,[[2112],[]]),(0,63,[[],[2112]]),(127,0,[[3136],[]]),(255,0,[])] ?_
 |refine dc 3 13 hf 17 [(0,422212465065984,[]),(0,70368744177664,[]),(2,70368744177664,[]),(7,0,[]),(15,0,[]),(31,2251799813685248,[]),(31,1125899906842625,[]),(63,2251799813685248,[]),(255,0,[])] ?_
 |(refine Xo hr ?_;rintro rfl;with_reducible refine XP ?_)
 |exact Yw hr
 |exact XV hr
 |(apply XW;assumption)
 |((first|refine Xx (c:=true) hr rfl ?_|refine Xx (c:=false) hr rfl ?_|refine Xx hr (by assumption) ?_);intro hr)
 |fail)
end Go.Sx
