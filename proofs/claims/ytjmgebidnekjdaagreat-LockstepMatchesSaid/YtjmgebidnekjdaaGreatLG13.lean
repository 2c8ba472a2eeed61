import Derived.Test.YtjmgebidnekjdaaGreatLG12
set_option linter.all false
namespace Go.Sx
open Go.Proofs
set_option maxRecDepth 10000
set_option maxHeartbeats 100000000
def g23:(∀ N a0 a1,OK (Qcv N a0 a1) 81 [.agg (e27 a0),vu a1] [] (λ r=>.tup [s76 r.1,vi r.2]) λ r=>[])/\(∀ N a0 a1 a2,OK (QbI N a0 a1 a2) 152 [.agg (e27 a0),vu a1,vi a2] [] (λ r=>.tup [vu r.1,vi r.2]) λ r=>[])/\(∀ N a0 a1 a2 a3 a4,OK (Qgj N a0 a1 a2 a3 a4) 164 [.agg (e42 a0),vi a1,vu a2,vu a3,vu a4] [] (λ r=>vi r) λ r=>[])/\(∀ N a0 a1 a2,OK (QgO N a0 a1 a2) 166 [.agg (e42 a0),vi a1,vu a2] [] (λ r=>vi r) λ r=>[])/\(∀ N a0 a1 a2 a3,OK (Qg7 N a0 a1 a2 a3) 168 [.agg (e42 a0),vi a1,vu a2,.v (.bool a3)] [] (λ r=>vi r) λ r=>[])/\(∀ N a0 a1 a2 a3,OK (QgP N a0 a1 a2 a3) 169 [.agg (e42 a0),vi a1,vu a2,vu a3] [] (λ r=>vi r) λ r=>[])/\(∀ N a0 a1,OK (Qe4 N a0 a1) 129 [.agg (e27 a0),vu a1] [] (λ r=>.tup [.agg (e72 r.1),vi r.2]) λ r=>[])/\(∀ N a0 c0 c1,OK (Qbp N a0 c0 c1) 109 [s3 a0,.clo (.func 124) [] [.ept 1000000 0 10 0 0,.ept 1000001 0 4 0 0]] [.arr true 61 10 [[vi c0.Conf.PageWords,vi c0.Conf.Pages,K8 c0.Things,s88 c0.Locals.Slots,s94 c0.Locals.Scopes,s3 c0.Locals.Issued,s90 c0.Globals.Entries,s90 c0.Weaks.Entries,KS c0.Marks,s76 c0.Roots]] 0,.arr true 107 4 [[vi c1.Header.Kind,vi c1.Header.Length,vw c1.Header.Map,s76 c1.Fields]] 0] (λ r=>.v (.bool r)) λ r=>[.arr true 61 10 [[vi c0.Conf.PageWords,vi c0.Conf.Pages,K8 c0.Things,s88 c0.Locals.Slots,s94 c0.Locals.Scopes,s3 c0.Locals.Issued,s90 c0.Globals.Entries,s90 c0.Weaks.Entries,KS c0.Marks,s76 c0.Roots]] 0,.arr true 107 4 [[vi c1.Header.Kind,vi c1.Header.Length,vw c1.Header.Map,s76 c1.Fields]] 0]):=by
 refine ⟨λ N _ _=>rk Tryz.f81 [.tmp 4,.tmp 5] [] 26 ?_,λ N _ _ _=>rk Tryz.f152 [.tmp 6,.tmp 7] [] 37 ?_,λ N _ _ _ _ _=>rk Tryz.f164 [.tmp 10] [] 68 ?_,λ N _ _ _=>rk Tryz.f166 [.tmp 6] [] 34 ?_,λ N _ _ _ _=>rk Tryz.f168 [.tmp 8] [] 52 ?_,λ N _ _ _ _=>rk Tryz.f169 [.tmp 8] [] 48 ?_,λ N _ _=>rk Tryz.f129 [.cell 4 72,.tmp 5] [] 79 ?_,λ N _ _ _=>rk Tryz.f109 [.tmp 4] [] 9 ?_⟩<;>(rintro _ hw r hr C _ rfl hwf hf;simp only[Tryz.f81,Tryz.f152,Tryz.f164,Tryz.f166,Tryz.f168,Tryz.f169,Tryz.f129,Tryz.f109,Option.get!];(first|rw[Qcv] at hr|rw[QbI] at hr|rw[Qgj] at hr|rw[QgO] at hr|rw[Qg7] at hr|rw[QgP] at hr|rw[Qe4] at hr|rw[Qbp] at hr);repeat' first
 |(refine El.el hr ?_;intro hr)
 |(with_reducible intro h;refine Xx hr h ?_;intro hr)
 |with_reducible intro _
 |simp only[go_sem,simprocAttr,Z6,XS,JO,XE]
 |(with_reducible first|apply Xh|apply Xg|apply Xr|apply Xt|apply Xu)
 |((first|with_reducible refine Yn hr (by assumption) ?_ ?_|(with_reducible refine Yk hr ?_ ?_;rotate_left;intro p;rotate_right));(·simp only[go_sem,simprocAttr]);intro hp hn hd hr;(try have Z6:=hd _ e74);(try simp only[go_sem,simprocAttr] at Z6);(try have XS:=hd _ e76);(try simp only[go_sem,simprocAttr] at XS);(try have JO:=hd _ e96);(try simp only[go_sem,simprocAttr] at JO);(try have XE:=hd _ Yp);(try simp only[go_sem,simprocAttr] at XE))
 |(refine Xs ?_ ?_;·first|assumption|omega)
 |(with_reducible first|refine CallX.c ?_ _|refine OK.c hr hw ?_ (λ y hr=>?_) _|refine Ol hr hw ?_ (λ y hr=>?_) _)
 |refine dc 164 11 hf 51 [(0,124,[]),(1,124,[]),(0,19,[]),(4,19,[]),(0,15,[]),(28,3,[]),(60,3,[]),(127,0,[]),(255,0,[])] ?_
 |(refine Xo hr ?_;rintro rfl;with_reducible refine XP ?_)
 |exact Yw hr
 |exact XV hr
 |(apply XW;assumption)
 |fail)
abbrev Qmi:=g23.1
abbrev Qni:=g23.2.1
abbrev Qmj:=g23.2.2.1
abbrev Qnj:=g23.2.2.2.1
abbrev Qos:=g23.2.2.2.2.1
abbrev Qnk:=g23.2.2.2.2.2.1
abbrev QoU:=g23.2.2.2.2.2.2.1
abbrev Qge:=g23.2.2.2.2.2.2.2
attribute [instance] Qmi Qni Qmj Qnj Qos Qnk QoU Qge
abbrev Qly:=λ N a0 a1 y3 (Q:(Ex Int Unit)→Prop) n (st:St)=>∃ v4 ex,Qcb N a0 a1 y3 n v4=some ex/\Q ex/\((∃ w128,st.n=43/\st.t 1=vi a1/\st.t 2=.ept 128 w128 6 0 0/\st.t 7=s4 y3/\st.t 8=vi v4/\st.s 128=some (w128,.arr true 27 6 [e27 a0] 0)))
abbrev Qjw:=λ N a0 (Q:(Ex (List Int × Int) (List Int))→Prop) n (st:St)=>∃ v2 v3 ex,Qa2 N a0 n v2 v3=some ex/\Q ex/\((∃ w1856 w64,st.n=31/\st.s 1856=some (w1856,.arr false 76 1 (v3.map e76) 0)/\st.t 1=.ept 64 w64 6 0 0/\st.t 4=.osl 1856 w1856 1 0 v3.length/\st.t 5=vi v2/\st.s 64=some (w64,.arr true 27 6 [e27 a0] 0))\/(∃ w64,(st.n=31/\st.t 1=.ept 64 w64 6 0 0/\st.t 4=.nsl/\st.t 5=vi v2/\st.s 64=some (w64,.arr true 27 6 [e27 a0] 0))/\v3=[]))
def g24:(∀ N a0 a1,OK (QeX N a0 a1) 260 [.agg (e27 a0),vi a1] [] (λ r=>vu r) λ r=>[])/\(∀ N a0,OK (Qc3 N a0) 199 [.agg (e27 a0)] [] (λ r=>.tup [s76 r.1,vi r.2]) λ r=>[]):=by
 refine ⟨λ N _ _=>rk Tryz.f260 [.tmp 4] [] 43 ?_,λ N _=>rk Tryz.f199 [.tmp 2,.tmp 3] [] 31 ?_⟩<;>(rintro _ hw r hr C _ rfl hwf hf;simp only[Tryz.f260,Tryz.f199,Option.get!];(first|rw[QeX] at hr|rw[Qc3] at hr);repeat' first
 |(refine El.el hr ?_;intro hr)
 |(with_reducible intro h;refine Xx hr h ?_;intro hr)
 |with_reducible intro _
 |(refine Xo hr ?_;rintro rfl;have hr:=hk;clear hk)
 |simp only[go_sem,simprocAttr,E,hl4]
 |(with_reducible first|apply Xh|apply Xg|apply Xr|apply Xt|apply Xu)
 |((first|with_reducible refine Yn hr (by assumption) ?_ ?_|(with_reducible refine Yk hr ?_ ?_;rotate_left;intro p;rotate_right));(·simp only[go_sem,simprocAttr]);intro hp hn hd hr;(try have hl4:=hd _ e4);(try simp only[go_sem,simprocAttr] at hl4))
 |(refine Xs ?_ ?_;·first|assumption|omega)
 |(with_reducible first|refine CallX.c ?_ _|refine OK.c hr hw ?_ (λ y hr=>?_) _|refine Ol hr hw ?_ (λ y hr=>?_) _)
 |(with_reducible refine lp (Qly N _ _ _) hr N ?_ (λ ex hq hk=>⟨_,ex,hq,hk,?_⟩) _;clear hr;(try clear E);rintro n1 st ⟨v4,ex,hr,hk,⟨_,E⟩⟩<;>(obtain _|n1:=n1<;>rw[Qcb] at hr))
 |refine ⟨_,WH _,_,_,hr,hk,?_⟩
 |(with_reducible refine lp (Qjw N _) hr N ?_ (λ ex hq hk=>⟨_,_,ex,hq,hk,?_⟩) _;clear hr;(try clear E);rintro n1 st ⟨v2,v3,ex,hr,hk,(⟨_,_,E⟩|⟨_,E,z0⟩)⟩<;>(try subst z0)<;>(obtain _|n1:=n1<;>rw[Qa2] at hr))
 |refine ⟨_,WH _,_,_,_,hr,hk,?_⟩
 |refine dc 260 1 hf 5 [(0,448,[]),(0,160,[]),(0,96,[]),(6,32,[]),(15,0,[]),(31,0,[]),(63,2048,[]),(63,1025,[]),(127,2048,[]),(511,0,[])] ?_
 |(refine Xo hr ?_;rintro rfl;with_reducible refine XP ?_)
 |exact Yw hr
 |exact XV hr
 |(apply XW;assumption)
 |((first|refine Xx (c:=true) hr rfl ?_|refine Xx (c:=false) hr rfl ?_|refine Xx hr (by assumption) ?_);intro hr)
 |fail)
abbrev Qot:=g24.1
abbrev Qmk:=g24.2
attribute [instance] Qot Qmk
end Go.Sx
