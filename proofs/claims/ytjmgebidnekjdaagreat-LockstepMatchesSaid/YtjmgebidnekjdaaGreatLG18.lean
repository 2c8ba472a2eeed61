import Derived.Test.YtjmgebidnekjdaaGreatLG17
set_option linter.all false
namespace Go.Sx
open Go.Proofs
set_option maxRecDepth 10000
set_option maxHeartbeats 100000000
abbrev Qkt:=λ N a0 (Q:(Ex Us Unit)→Prop) n (st:St)=>∃ v2 ex,QaY N a0 n v2=some ex/\Q ex/\((∃ w64 w128,st.n=65/\st.t 1=.ept 64 w64 6 0 0/\st.t 2=.ept 128 w128 3 0 0/\st.t 3=vi v2/\st.s 64=some (w64,.arr true 27 6 [e27 a0] 0)/\st.s 128=some (w128,.arr true 284 3 [[vi 0,vi 0,vu 0]] 0)))
abbrev Qku:=λ N a0 (Q:Int→Prop) n (st:St)=>∃ v6 v7 ex,QbA N a0 n v6 v7=some ex/\Q ex/\((∃ w64 w128,st.n=65/\st.t 1=.ept 64 w64 6 0 0/\st.t 2=.ept 128 w128 3 0 0/\st.t 6=vi v6/\st.t 7=vi v7/\st.s 64=some (w64,.arr true 27 6 [e27 a0] 0)/\st.s 128=some (w128,.arr true 284 3 [[vi 0,vi 0,vu 0]] 0)))
abbrev QlD:=λ N a0 y1 y4 (Q:(List Int)→Prop) n (st:St)=>∃ v5 v6 ex,Qd6 N a0 y1 y4 n v5 v6=some ex/\Q ex/\((∃ w2112 w128,st.n=90/\st.s 2112=some (w2112,.arr false 76 1 (v6.map e76) 0)/\st.t 2=.ept 128 w128 6 0 0/\st.t 6=vu y1.1/\st.t 8=.osl 2112 w2112 1 0 v6.length/\st.t 44=s76 y4.1/\st.t 45=vi y4.1.length/\st.t 46=vi v5/\st.s 128=some (w128,.arr true 27 6 [e27 a0] 0)))
abbrev Qjx:=λ N (Q:(Int × List U0)→Prop) n (st:St)=>∃ v3 v4 v5 ex,Qct N n v3 v4 v5=some ex/\Q ex/\((∃ w512,st.n=42/\st.s 512=some (w512,.arr false 271 4 (v5.map Vj) 0)/\st.t 0=.osl 512 w512 4 0 v5.length/\st.t 1=.clo (.func 184) [] []/\st.t 5=vi v3/\st.t 6=vi v4))
def g30:(∀ N a0,OK (Qep N a0) 198 [.agg (e27 a0)] [] (λ r=>.agg (XoN r)) λ r=>[])/\(∀ N a0 a1,OK (QgA N a0 a1) 254 [.agg (e27 a0),vi a1] [] (λ r=>.tup [vu r.1,.v (.bool r.2)]) λ r=>[])/\(∀ N a0,OK (QeG N a0) 117 [.agg (e27 a0)] [] (λ r=>.tup [s76 r.1,vi r.2]) λ r=>[]):=by
 refine ⟨λ N _=>rk Tryz.f198 [.cell 2 284] [] 65 ?_,λ N _ _=>rk Tryz.f254 [.tmp 4,.tmp 5] [] 90 ?_,λ N _=>rk Tryz.f117 [.tmp 2,.tmp 3] [] 17 ?_⟩<;>(rintro _ hw r hr C _ rfl hwf hf;simp only[Tryz.f198,Tryz.f254,Tryz.f117,Option.get!];(first|rw[Qep] at hr|rw[QgA] at hr|rw[QeG] at hr);repeat' first
 |(refine El.el hr ?_;intro hr)
 |(with_reducible intro h;refine Xx hr h ?_;intro hr)
 |with_reducible intro _
 |(refine Xo hr ?_;rintro rfl;have hr:=hk;clear hk)
 |simp only[go_sem,simprocAttr,E,Fq,XS,XE,XaG,WC,WR,UM]
 |(with_reducible first|apply Xh|apply Xg|apply Xr|apply Xt|apply Xu)
 |((first|with_reducible refine Yn hr (by assumption) ?_ ?_|(with_reducible refine Yk hr ?_ ?_;rotate_left;intro p;rotate_right));(·simp only[go_sem,simprocAttr,WC,WR,UM]);intro hp hn hd hr;(try have XS:=hd _ e76);(try simp only[go_sem,simprocAttr] at XS);(try have XE:=hd _ Yp);(try simp only[go_sem,simprocAttr] at XE);(try have XaG:=hd _ Vj);(try simp only[go_sem,simprocAttr] at XaG))
 |(refine Xs ?_ ?_;·first|assumption|omega|(dsimp only at *;omega))
 |(refine CallX.inl (f:=183) 2800 (fn:=Tryz.f183) (rs:=[.tmp 4]) (nt:=42) 1000 (by kernel_rfl) (λ x=>?_) _;simp only[Tryz.f183,Option.get!])
 |(with_reducible first|refine CallX.c ?_ _|refine OK.c hr hw ?_ (λ y hr=>?_) _|refine Ol hr hw ?_ (λ y hr=>?_) _)
 |(with_reducible refine lp (Qkt N _) hr N ?_ (λ ex hq hk=>⟨_,ex,hq,hk,?_⟩) _;clear hr;(try clear E);(try clear Fq);rintro n1 st ⟨v2,ex,hr,hk,⟨_,_,E⟩⟩<;>(obtain _|n1:=n1<;>rw[QaY] at hr))
 |refine ⟨_,WH _,_,_,hr,hk,?_⟩
 |(with_reducible refine lp (Qku N _) hr N ?_ (λ ex hq hk=>⟨_,_,ex,hq,hk,?_⟩) _;clear hr;(try clear E);(try clear Fq);rintro n2 st ⟨v6,v7,ex,hr,hk,⟨_,_,E⟩⟩<;>(obtain _|n2:=n2<;>rw[QbA] at hr))
 |refine ⟨_,WH _,_,_,_,hr,hk,?_⟩
 |(with_reducible refine lp (QlD N _ _ _) hr N ?_ (λ ex hq hk=>⟨_,_,ex,hq,hk,?_⟩) _;clear hr;(try clear E);(try clear Fq);rintro n1 st ⟨v5,v6,ex,hr,hk,⟨_,_,E⟩⟩<;>(obtain _|n1:=n1<;>rw[Qd6] at hr))
 |(with_reducible refine lp (Qjx N) hr N ?_ (λ ex hq hk=>⟨_,_,_,ex,hq,hk,?_⟩) _;clear hr;(try clear Fq);rintro n1 st ⟨v3,v4,v5,ex,hr,hk,⟨_,Fq⟩⟩<;>(obtain _|n1:=n1<;>rw[Qct] at hr))
 |refine ⟨_,WH _,_,_,_,_,hr,hk,?_⟩
 |refine dc 254 3 hf 10 [(0,1879048192,[]),(0,671088640,[]),(0,402653184,[]),(6,134217728,[]),(15,0,[]),(31,0,[]),(63,8589934592,[]),(63,4294967297,[]),(127,8589934592,[]),(511,0,[])] ?_
 |(refine Xo hr ?_;rintro rfl;with_reducible refine XP ?_)
 |exact Yw hr
 |exact XV hr
 |(apply XW;assumption)
 |((first|refine Xx (c:=true) hr rfl ?_|refine Xx (c:=false) hr rfl ?_|refine Xx hr (by assumption) ?_);intro hr)
 |omega
 |fail)
abbrev Qnp:=g30.1
abbrev Qow:=g30.2.1
abbrev Qml:=g30.2.2
attribute [instance] Qnp Qow Qml
end Go.Sx
