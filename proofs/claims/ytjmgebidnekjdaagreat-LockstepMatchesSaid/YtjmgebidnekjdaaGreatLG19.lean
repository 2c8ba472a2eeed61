import Derived.Test.YtjmgebidnekjdaaGreatLG18
set_option linter.all false
namespace Go.Sx
open Go.Proofs
set_option maxRecDepth 10000
set_option maxHeartbeats 100000000
abbrev Qkv:=λ N a0 (Q:(Ex Us Unit)→Prop) n (st:St)=>∃ v1 ex,Qa0 N a0 n v1=some ex/\Q ex/\((∃ w64 w128,st.n=64/\st.t 1=.ept 64 w64 6 0 0/\st.t 2=.ept 128 w128 3 0 0/\st.t 12=Y3 a0.Pages/\st.t 13=vi a0.Pages.length/\st.t 14=vi v1/\st.s 64=some (w64,.arr true 27 6 [e27 a0] 0)/\st.s 128=some (w128,.arr true 257 3 [[vi 0,vi 0,vu 0]] 0)))
abbrev QiJ:=λ N a0 y1 v2 p3 y5 (Q:(Ex Int Unit)→Prop) n (st:St)=>∃ v6 ex,QaF N a0 y1 v2 p3 y5 n v6=some ex/\Q ex/\((∃ w64 w128,st.n=83/\st.t 1=.ept 64 w64 6 0 0/\st.t 2=.ept 128 w128 3 0 0/\st.t 3=s76 y1.1/\st.t 7=vu p3/\st.t 24=s76 y1.1/\st.t 25=vi y1.1.length/\st.t 26=vi v2/\st.t 37=s3 y5/\st.t 38=vi y5.length/\st.t 39=vi v6/\st.s 64=some (w64,.arr true 27 6 [e27 a0] 0)/\st.s 128=some (w128,.arr true 257 3 [[vi 0,vi 0,vu 0]] 0)))
abbrev QiK:=λ N a0 y1 (Q:Int→Prop) n (st:St)=>∃ v2 ex,Qcq N a0 y1 n v2=some ex/\Q ex/\((∃ w64 w128,st.n=83/\st.t 1=.ept 64 w64 6 0 0/\st.t 2=.ept 128 w128 3 0 0/\st.t 3=s76 y1.1/\st.t 5=vu 0/\st.t 24=s76 y1.1/\st.t 25=vi y1.1.length/\st.t 26=vi v2/\st.s 64=some (w64,.arr true 27 6 [e27 a0] 0)/\st.s 128=some (w128,.arr true 257 3 [[vi 0,vi 0,vu 0]] 0)))
abbrev Qir:=λ N a0 a1 y1 (Q:(Ex (List Int × Bool) (List Int))→Prop) n (st:St)=>∃ v2 v3 ex,Qb8 N a0 a1 y1 n v2 v3=some ex/\Q ex/\((∃ w1600 w192,st.n=80/\st.s 1600=some (w1600,.arr false 3 1 (v3.map e3) 0)/\st.t 0=s92 a0/\st.t 3=.ept 192 w192 6 0 0/\st.t 6=.clo (.func 176) [] []/\st.t 7=s76 y1.1/\st.t 9=.osl 1600 w1600 1 0 v3.length/\st.t 26=s92 a0/\st.t 27=vi a0.length/\st.t 28=vi v2/\st.s 192=some (w192,.arr true 27 6 [e27 a1] 0)))
def g32:(∀ N a0,OK (QgR N a0) 224 [.agg (e27 a0)] [] (λ r=>.agg (XoP r)) λ r=>[])/\(∀ N a0,OK (Qfr N a0) 225 [.agg (e27 a0)] [] (λ r=>.agg (XoP r)) λ r=>[])/\(∀ N a0 a1,OK (Qf9 N a0 a1) 108 [s92 a0,.agg (e27 a1)] [] (λ r=>.tup [s3 r.1,.v (.bool r.2)]) λ r=>[]):=by
 refine ⟨λ N _=>rk Tryz.f224 [.cell 2 257] [] 64 ?_,λ N _=>rk Tryz.f225 [.cell 2 257] [] 83 ?_,λ N _ _=>rk Tryz.f108 [.tmp 4,.tmp 5] [] 80 ?_⟩<;>(rintro _ hw r hr C _ rfl hwf hf;simp only[Tryz.f224,Tryz.f225,Tryz.f108,Option.get!];(first|rw[QgR] at hr|rw[Qfr] at hr|rw[Qf9] at hr);repeat' first
 |(refine El.el hr ?_;intro hr)
 |(with_reducible intro h;refine Xx hr h ?_;intro hr)
 |with_reducible intro _
 |(refine Xo hr ?_;rintro rfl;have hr:=hk;clear hk)
 |simp only[go_sem,simprocAttr,E,hl3,XS,ZC,XE]
 |(with_reducible first|apply Xh|apply Xg|apply Xr|apply Xt|apply Xu)
 |((first|with_reducible refine Yn hr (by assumption) ?_ ?_|(with_reducible refine Yk hr ?_ ?_;rotate_left;intro p;rotate_right));(·simp only[go_sem,simprocAttr]);intro hp hn hd hr;(try have hl3:=hd _ e3);(try simp only[go_sem,simprocAttr] at hl3);(try have XS:=hd _ e76);(try simp only[go_sem,simprocAttr] at XS);(try have ZC:=hd _ e92);(try simp only[go_sem,simprocAttr] at ZC);(try have XE:=hd _ Yp);(try simp only[go_sem,simprocAttr] at XE))
 |(refine Xs ?_ ?_;·first|assumption|omega)
 |(with_reducible first|refine CallX.c ?_ _|refine OK.c hr hw ?_ (λ y hr=>?_) _)
 |(with_reducible refine lp (Qkv N _) hr N ?_ (λ ex hq hk=>⟨_,ex,hq,hk,?_⟩) _;clear hr;(try clear E);rintro n1 st ⟨v1,ex,hr,hk,⟨_,_,E⟩⟩<;>(obtain _|n1:=n1<;>rw[Qa0] at hr))
 |refine ⟨_,WH _,_,_,hr,hk,?_⟩
 |(with_reducible refine lp (QiJ N _ _ _ _ _) hr N ?_ (λ ex hq hk=>⟨_,ex,hq,hk,?_⟩) _;clear hr;(try clear E);rintro n1 st ⟨v6,ex,hr,hk,⟨_,_,E⟩⟩<;>(obtain _|n1:=n1<;>rw[QaF] at hr))
 |(with_reducible refine lp (QiK N _ _) hr N ?_ (λ ex hq hk=>⟨_,ex,hq,hk,?_⟩) _;clear hr;(try clear E);rintro n2 st ⟨v2,ex,hr,hk,⟨_,_,E⟩⟩<;>(obtain _|n2:=n2<;>rw[Qcq] at hr))
 |(with_reducible refine lp (Qir N _ _ _) hr N ?_ (λ ex hq hk=>⟨_,_,ex,hq,hk,?_⟩) _;clear hr;(try clear E);rintro n1 st ⟨v2,v3,ex,hr,hk,⟨_,_,E⟩⟩<;>(obtain _|n1:=n1<;>rw[Qb8] at hr))
 |refine ⟨_,WH _,_,_,_,hr,hk,?_⟩
 |refine dc 108 11 hf 70 [(0,50,[]),(0,49,[]),(3,48,[]),(7,48,[]),(0,15,[]),(16,15,[]),(63,0,[]),(127,0,[]),(255,0,[[1600],[]])] ?_
 |(refine Xo hr ?_;rintro rfl;with_reducible refine XP ?_)
 |exact Yw hr
 |exact XV hr
 |(apply XW;assumption)
 |((first|refine Xx (c:=true) hr rfl ?_|refine Xx (c:=false) hr rfl ?_|refine Xx hr (by assumption) ?_);intro hr)
 |fail)
abbrev Qnq:=g32.1
abbrev Qkw:=g32.2.1
abbrev Qjy:=g32.2.2
attribute [instance] Qnq Qkw Qjy
instance Qpe:∀ N a0,OK (Qa6 N a0) 131 [.agg (e27 a0)] [] (λ r=>.v (.bool r)) λ r=>[]:=by
 refine λ N _=>rk Tryz.f131 [.tmp 2] [] 7 ?_<;>(rintro _ hw r hr C _ rfl hwf hf;simp only[Tryz.f131,Option.get!];(rw[Qa6] at hr);repeat' first
 |(refine El.el hr ?_;intro hr)
 |(with_reducible intro h;refine Xx hr h ?_;intro hr)
 |with_reducible intro _
 |simp only[go_sem,simprocAttr]
 |(with_reducible first|apply Xh|apply Xg|apply Xr)
 |(refine Xs ?_ ?_;·first|assumption|omega)
 |(with_reducible first|refine CallX.c ?_ _|refine OK.c hr hw ?_ (λ y hr=>?_) _)
 |(refine Xo hr ?_;rintro rfl;with_reducible refine XP ?_)
 |exact Yw hr
 |exact XV hr
 |(apply XW;assumption)
 |fail)
end Go.Sx
