import Derived.Test.YtjmgebidnekjdaaGreatLG3
import Derived.Test.YtjmgebidnekjdaaGreatLG4
import Derived.Test.YtjmgebidnekjdaaGreatLG5
set_option linter.all false
namespace Go.Sx
open Go.Proofs
set_option maxRecDepth 10000
set_option maxHeartbeats 100000000
def g13:(∀ N a0 a1,OK (Qbm N a0 a1) 204 [s76 a0,vu a1] [] (λ r=>.tup [vu r.1,vi r.2]) λ r=>[])/\(∀ N a0 a1 a2,OK (QdJ N a0 a1 a2) 216 [s76 a0,vu a1,vu a2] [] (λ r=>.tup [s76 r.1,vi r.2]) λ r=>[])/\(∀ N a0 a1,OK (Qes N a0 a1) 148 [.agg (e32 a0),vu a1] [] (λ r=>.tup [.agg (e32 r.1),vi r.2.1,vi r.2.2.1,vi r.2.2.2]) λ r=>[])/\(∀ N a0 a1 a2,OK (Qe0 N a0 a1 a2) 170 [.agg (e32 a0),vi a1,vi a2] [] (λ r=>.tup [vu r.1,vi r.2]) λ r=>[])/\(∀ N a0,OK (Qe1 N a0) 105 [.agg (e32 a0)] [] (λ r=>.tup [.agg (e32 r.1),vi r.2]) λ r=>[])/\(∀ N a0 a1,OK (QcR N a0 a1) 18 [.agg (e46 a0),.ept 1000000 0 2 0 0] [.arr true 50 2 [[s3 a1.L,vi a1.at_]] 0] (λ r=>.agg (e81 r.1)) λ r=>[.arr true 50 2 [[s3 r.2.L,vi r.2.at_]] 0])/\(∀ N a0,OK (QdO N a0) 189 [.agg (e72 a0)] [] (λ r=>vi r) λ r=>[])/\(∀ N a0 a1,OK (QeB N a0 a1) 63 [.agg (e72 a0),vi a1] [] (λ r=>.v (.bool r)) λ r=>[])/\(∀ N a0,OK (QaB N a0) 114 [s90 a0,.clo (.func 115) [] []] [] (λ r=>.v (.bool r)) λ r=>[])/\(∀ N a0 a1,OK (QeK N a0 a1) 127 [.agg (e61 a0),vu a1] [] (λ r=>vi r) λ r=>[]):=by
 refine ⟨λ N _ _=>rk Tryz.f204 [.tmp 4,.tmp 5] [] 21 ?_,λ N _ _ _=>rk Tryz.f216 [.tmp 6,.tmp 7] [] 15 ?_,λ N _ _=>rk Tryz.f148 [.cell 4 32,.tmp 5,.tmp 6,.tmp 7] [] 79 ?_,λ N _ _ _=>rk Tryz.f170 [.tmp 6,.tmp 7] [] 58 ?_,λ N _=>rk Tryz.f105 [.cell 2 32,.tmp 3] [] 28 ?_,λ N _ _=>rk Tryz.f18 [.cell 4 81] [] 79 ?_,λ N _=>rk Tryz.f189 [.tmp 2] [] 9 ?_,λ N _ _=>rk Tryz.f63 [.tmp 4] [] 34 ?_,λ N _=>rk Tryz.f114 [.tmp 4] [] 9 ?_,λ N _ _=>rk Tryz.f127 [.tmp 4] [] 9 ?_⟩<;>(rintro _ hw r hr C _ rfl hwf hf;simp only[Tryz.f204,Tryz.f216,Tryz.f148,Tryz.f170,Tryz.f105,Tryz.f18,Tryz.f189,Tryz.f63,Tryz.f114,Tryz.f127,Option.get!];(first|rw[Qbm] at hr|rw[QdJ] at hr|rw[Qes] at hr|rw[Qe0] at hr|rw[Qe1] at hr|rw[QcR] at hr|rw[QdO] at hr|rw[QeB] at hr|rw[QaB] at hr|rw[QeK] at hr);repeat' first
 |(refine El.el hr ?_;intro hr)
 |(with_reducible intro h;refine Xx hr h ?_;intro hr)
 |with_reducible intro _
 |simp only[go_sem,simprocAttr,hl3,XS,Y2,Kn]
 |(with_reducible first|apply Xh|apply Xg|apply Xr|apply Xt|apply Xu)
 |((first|with_reducible refine Yn hr (by assumption) ?_ ?_|(with_reducible refine Yk hr ?_ ?_;rotate_left;intro p;rotate_right));(·simp only[go_sem,simprocAttr]);intro hp hn hd hr;(try have hl3:=hd _ e3);(try simp only[go_sem,simprocAttr] at hl3);(try have XS:=hd _ e76);(try simp only[go_sem,simprocAttr] at XS);(try have Y2:=hd _ e88);(try simp only[go_sem,simprocAttr] at Y2);(try have Kn:=hd _ e94);(try simp only[go_sem,simprocAttr] at Kn))
 |(refine Xs ?_ ?_;·first|assumption|omega)
 |(with_reducible first|refine CallX.c ?_ _|refine OK.c hr hw ?_ (λ y hr=>?_) _|refine Ol hr hw ?_ (λ y hr=>?_) _)
 |refine dc 148 6 hf 25 [(0,522238,[]),(0,522009,[]),(2,522009,[]),(0,521991,[]),(8,521991,[]),(30,521985,[]),(62,521985,[]),(126,521985,[]),(0,520447,[]),(256,520447,[]),(768,520447,[]),(2047,520192,[]),(0,53247,[]),(4096,53247,[]),(0,16383,[]),(16384,16383,[]),(61440,4095,[]),(126976,4095,[]),(258048,4095,[]),(524287,0,[])] ?_
 |refine dc 148 10 hf 9 [(0,527765581332480,[]),(1,527765581332480,[]),(3,527765581332480,[]),(0,30786325577729,[]),(8,30786325577729,[]),(24,30786325577729,[]),(56,30786325577729,[]),(7,527765581332480,[]),(255,0,[])] ?_
 |(refine Xo hr ?_;rintro rfl;with_reducible refine XP ?_)
 |exact Yw hr
 |exact XV hr
 |(apply XW;assumption)
 |fail)
abbrev Qn5:=g13.1
abbrev Qm1:=g13.2.1
abbrev QoK:=g13.2.2.1
abbrev QoL:=g13.2.2.2.1
abbrev QoM:=g13.2.2.2.2.1
abbrev Qkc:=g13.2.2.2.2.2.1
abbrev Qm2:=g13.2.2.2.2.2.2.1
abbrev Qkd:=g13.2.2.2.2.2.2.2.1
abbrev QeM:=g13.2.2.2.2.2.2.2.2.1
abbrev Qi5:=g13.2.2.2.2.2.2.2.2.2
attribute [instance] Qn5 Qm1 QoK QoL QoM Qkc Qm2 Qkd QeM Qi5
abbrev Qlf:=λ N a0 a1 (Q:(Ex Int Unit)→Prop) n (st:St)=>∃ v3 ex,QcA N a0 a1 n v3=some ex/\Q ex/\((∃ w128,st.n=28/\st.t 1=vi a1/\st.t 2=.ept 128 w128 2 0 0/\st.t 5=vi v3/\st.s 128=some (w128,.arr true 23 2 [e23 a0] 0)))
abbrev Qlg:=λ N a0 (Q:(List Int)→Prop) n (st:St)=>∃ v1 v2 ex,Qbx N a0 n v1 v2=some ex/\Q ex/\((∃ w1920 w64,st.n=32/\st.s 1920=some (w1920,.arr false 76 1 (v2.map e76) 0)/\st.t 1=.ept 64 w64 3 0 0/\st.t 3=.osl 1920 w1920 1 0 v2.length/\st.t 4=vi v1/\st.s 64=some (w64,.arr true 32 3 [e32 a0] 0))\/(∃ w64,(st.n=32/\st.t 1=.ept 64 w64 3 0 0/\st.t 3=.nsl/\st.t 4=vi v1/\st.s 64=some (w64,.arr true 32 3 [e32 a0] 0))/\v2=[]))
abbrev QiF:=λ N a0 (Q:(List Int)→Prop) n (st:St)=>∃ v1 v2 ex,QbY N a0 n v1 v2=some ex/\Q ex/\((∃ w1344 w64,st.n=23/\st.s 1344=some (w1344,.arr false 3 1 (v2.map e3) 0)/\st.t 1=.ept 64 w64 3 0 0/\st.t 3=.osl 1344 w1344 1 0 v2.length/\st.t 4=vi v1/\st.s 64=some (w64,.arr true 72 3 [e72 a0] 0))\/(∃ w64,(st.n=23/\st.t 1=.ept 64 w64 3 0 0/\st.t 3=.nsl/\st.t 4=vi v1/\st.s 64=some (w64,.arr true 72 3 [e72 a0] 0))/\v2=[]))
abbrev Qlh:=λ N a1 (Q:(List Uj)→Prop) n (st:St)=>∃ v3 v4 v5 ex,Qbj N a1 n v3 v4 v5=some ex/\Q ex/\((∃ w1344 w256,st.n=48/\st.s 1344=some (w1344,.arr false 90 3 (v5.map e90) 0)/\st.t 1=s76 a1/\st.t 4=.ept 256 w256 1 0 0/\st.t 6=.osl 1344 w1344 3 0 v5.length/\st.t 7=vi v3/\st.t 8=vi v4/\st.s 256=some (w256,.arr true 35 1 [[.nsl]] 0)))
abbrev Qli:=λ N a0 (Q:(List Int)→Prop) n (st:St)=>∃ v1 v2 ex,Qd3 N a0 n v1 v2=some ex/\Q ex/\((∃ w1472 w64,st.n=25/\st.s 1472=some (w1472,.arr false 76 1 (v2.map e76) 0)/\st.t 1=.ept 64 w64 4 0 0/\st.t 3=.osl 1472 w1472 1 0 v2.length/\st.t 4=vi v1/\st.s 64=some (w64,.arr true 74 4 [e74 a0] 0))\/(∃ w64,(st.n=25/\st.t 1=.ept 64 w64 4 0 0/\st.t 3=.nsl/\st.t 4=vi v1/\st.s 64=some (w64,.arr true 74 4 [e74 a0] 0))/\v2=[]))
abbrev Qf6:=λ N a0 a1 (Q:Int→Prop) n (st:St)=>∃ v1 v2 ex,Qao N a0 a1 n v1 v2=some ex/\Q ex/\((st.n=54/\st.t 0=s76 a0/\st.t 1=vu a1/\st.t 6=vi a0.length/\st.t 7=vi v1/\st.t 8=vi v2))
def g15:(∀ N a0 a1,OK (QeV N a0 a1) 202 [.agg (e23 a0),vi a1] [] (λ r=>vi r) λ r=>[])/\(∀ N a0,OK (Qb0 N a0) 69 [.agg (e32 a0)] [] (λ r=>s76 r) λ r=>[])/\(∀ N a0,OK (Qfm N a0) 247 [.agg (e72 a0)] [] (λ r=>s3 r) λ r=>[])/\(∀ N a0 a1,OK (QcF N a0 a1) 87 [.agg (e35 a0),s76 a1] [] (λ r=>.tup [.agg (e35 r.1),vi r.2]) λ r=>[])/\(∀ N a0,OK (Qgv N a0) 74 [.agg (e74 a0)] [] (λ r=>s76 r) λ r=>[])/\(∀ N a0 a1,OK (Qaw N a0 a1) 120 [s76 a0,vu a1] [] (λ r=>.tup [vi r.1,.v (.bool r.2)]) λ r=>[]):=by
 refine ⟨λ N _ _=>rk Tryz.f202 [.tmp 4] [] 28 ?_,λ N _=>rk Tryz.f69 [.tmp 2] [] 32 ?_,λ N _=>rk Tryz.f247 [.tmp 2] [] 23 ?_,λ N _ _=>rk Tryz.f87 [.cell 4 35,.tmp 5] [] 48 ?_,λ N _=>rk Tryz.f74 [.tmp 2] [] 25 ?_,λ N _ _=>rk Tryz.f120 [.tmp 4,.tmp 5] [] 54 ?_⟩<;>(rintro _ hw r hr C _ rfl hwf hf;simp only[Tryz.f202,Tryz.f69,Tryz.f247,Tryz.f87,Tryz.f74,Tryz.f120,Option.get!];(first|rw[QeV] at hr|rw[Qb0] at hr|rw[Qfm] at hr|rw[QcF] at hr|rw[Qgv] at hr|rw[Qaw] at hr);repeat' first
 |(refine El.el hr ?_;intro hr)
 |(with_reducible intro h;refine Xx hr h ?_;intro hr)
 |with_reducible intro _
 |(refine Xo hr ?_;rintro rfl;have hr:=hk;clear hk)
 |simp only[go_sem,simprocAttr,E,XS,Y2,ZR]
 |(with_reducible first|apply Xh|apply Xg|apply Xr)
 |((first|with_reducible refine Yn hr (by assumption) ?_ ?_|(with_reducible refine Yk hr ?_ ?_;rotate_left;intro p;rotate_right));(·simp only[go_sem,simprocAttr]);intro hp hn hd hr;(try have XS:=hd _ e76);(try simp only[go_sem,simprocAttr] at XS);(try have Y2:=hd _ e88);(try simp only[go_sem,simprocAttr] at Y2);(try have ZR:=hd _ e90);(try simp only[go_sem,simprocAttr] at ZR))
 |(refine Xs ?_ ?_;·first|assumption|omega)
 |(with_reducible first|refine CallX.c ?_ _|refine OK.c hr hw ?_ (λ y hr=>?_) _)
 |(with_reducible refine lp (Qlf N _ _) hr N ?_ (λ ex hq hk=>⟨_,ex,hq,hk,?_⟩) _;clear hr;(try clear E);rintro n1 st ⟨v3,ex,hr,hk,⟨_,E⟩⟩<;>(obtain _|n1:=n1<;>rw[QcA] at hr))
 |refine ⟨_,WH _,_,_,hr,hk,?_⟩
 |(with_reducible refine lp (Qlg N _) hr N ?_ (λ ex hq hk=>⟨_,_,ex,hq,hk,?_⟩) _;clear hr;(try clear E);rintro n1 st ⟨v1,v2,ex,hr,hk,(⟨_,_,E⟩|⟨_,E,z0⟩)⟩<;>(try subst z0)<;>(obtain _|n1:=n1<;>rw[Qbx] at hr))
 |refine ⟨_,WH _,_,_,_,hr,hk,?_⟩
 |(with_reducible refine lp (QiF N _) hr N ?_ (λ ex hq hk=>⟨_,_,ex,hq,hk,?_⟩) _;clear hr;(try clear E);rintro n1 st ⟨v1,v2,ex,hr,hk,(⟨_,_,E⟩|⟨_,E,z0⟩)⟩<;>(try subst z0)<;>(obtain _|n1:=n1<;>rw[QbY] at hr))
 |(with_reducible refine lp (Qlh N _) hr N ?_ (λ ex hq hk=>⟨_,_,_,ex,hq,hk,?_⟩) _;clear hr;(try clear E);rintro n1 st ⟨v3,v4,v5,ex,hr,hk,⟨_,_,E⟩⟩<;>(obtain _|n1:=n1<;>rw[Qbj] at hr))
 |refine ⟨_,WH _,_,_,_,_,hr,hk,?_⟩
 |(with_reducible refine lp (Qli N _) hr N ?_ (λ ex hq hk=>⟨_,_,ex,hq,hk,?_⟩) _;clear hr;(try clear E);rintro n1 st ⟨v1,v2,ex,hr,hk,(⟨_,_,E⟩|⟨_,E,z0⟩)⟩<;>(try subst z0)<;>(obtain _|n1:=n1<;>rw[Qd3] at hr))
 |(with_reducible refine lp (Qf6 N _ _) hr N ?_ (λ ex hq hk=>⟨_,_,ex,hq,hk,?_⟩) _;clear hr;(try clear E);rintro n1 st ⟨v1,v2,ex,hr,hk,E⟩<;>(obtain _|n1:=n1<;>rw[Qao] at hr))
 |(refine Xo hr ?_;rintro rfl;with_reducible refine XP ?_)
 |exact Yw hr
 |exact XV hr
 |(apply XW;assumption)
 |((first|refine Xx (c:=true) hr rfl ?_|refine Xx (c:=false) hr rfl ?_|refine Xx hr (by assumption) ?_);intro hr)
 |fail)
abbrev Qn6:=g15.1
abbrev Qn7:=g15.2.1
abbrev Qke:=g15.2.2.1
abbrev Qn8:=g15.2.2.2.1
abbrev Qn9:=g15.2.2.2.2.1
abbrev QgK:=g15.2.2.2.2.2
attribute [instance] Qn6 Qn7 Qke Qn8 Qn9 QgK
def g12:(∀ N a0,OK (QeU N a0) 36 [.agg (e23 a0)] [] (λ r=>.tup [.agg (e38 r.1),vi r.2]) λ r=>[])/\(∀ N a0 a1,OK (QfB N a0 a1) 134 [.agg (e27 a0),vu a1] [] (λ r=>vi r) λ r=>[])/\(∀ N a0 a1 a2 a3,OK (QfC N a0 a1 a2 a3) 245 [s76 a0,vu a1,vu a2,vi a3] [] (λ r=>.tup [s76 r.1,vi r.2]) λ r=>[])/\(∀ N a0,OK (Qb4 N a0) 158 [vu a0] [] (λ r=>.tup [.agg (XoO r.1),vi r.2]) λ r=>[])/\(∀ N a0 a1 a2,OK (Qgw N a0 a1 a2) 172 [.agg (e32 a0),vi a1,.v (.bool a2)] [] (λ r=>.tup [.agg (e32 r.1),vi r.2]) λ r=>[])/\(∀ N a0 a1 a2 a3,OK (QfG N a0 a1 a2 a3) 106 [.agg (e42 a0),vi a1,vu a2,vu a3] [] (λ r=>.tup [.agg (e42 r.1),vu r.2]) λ r=>[])/\(∀ N a0 a1,OK (Qg1 N a0 a1) 234 [.agg (e23 a0),vi a1] [] (λ r=>vi r) λ r=>[])/\(∀ N a0 a1,OK (Qgy N a0 a1) 194 [s76 a0,vu a1] [] (λ r=>.tup [vu r.1,vi r.2]) λ r=>[])/\(∀ N a0,OK (Qbs N a0) 109 [s3 a0,.clo (.func 110) [] []] [] (λ r=>.v (.bool r)) λ r=>[])/\(∀ N a0 c0,OK (QaX N a0 c0) 118 [s76 a0,.clo (.func 125) [] [.ept 1000000 0 10 0 0]] [.arr true 61 10 [[vi c0.Conf.PageWords,vi c0.Conf.Pages,K8 c0.Things,s88 c0.Locals.Slots,s94 c0.Locals.Scopes,s3 c0.Locals.Issued,s90 c0.Globals.Entries,s90 c0.Weaks.Entries,KS c0.Marks,s76 c0.Roots]] 0] (λ r=>.v (.bool r)) λ r=>[.arr true 61 10 [[vi c0.Conf.PageWords,vi c0.Conf.Pages,K8 c0.Things,s88 c0.Locals.Slots,s94 c0.Locals.Scopes,s3 c0.Locals.Issued,s90 c0.Globals.Entries,s90 c0.Weaks.Entries,KS c0.Marks,s76 c0.Roots]] 0]):=by
 refine ⟨λ N _=>rk Tryz.f36 [.cell 2 38,.tmp 3] [] 14 ?_,λ N _ _=>rk Tryz.f134 [.tmp 4] [] 17 ?_,λ N _ _ _ _=>rk Tryz.f245 [.tmp 8,.tmp 9] [] 28 ?_,λ N _=>rk Tryz.f158 [.cell 2 238,.tmp 3] [] 35 ?_,λ N _ _ _=>rk Tryz.f172 [.cell 6 32,.tmp 7] [] 48 ?_,λ N _ _ _ _=>rk Tryz.f106 [.cell 8 42,.tmp 9] [] 77 ?_,λ N _ _=>rk Tryz.f234 [.tmp 4] [] 33 ?_,λ N _ _=>rk Tryz.f194 [.tmp 4,.tmp 5] [] 21 ?_,λ N _=>rk Tryz.f109 [.tmp 4] [] 9 ?_,λ N _ _=>rk Tryz.f118 [.tmp 4] [] 9 ?_⟩<;>(rintro _ hw r hr C _ rfl hwf hf;simp only[Tryz.f36,Tryz.f134,Tryz.f245,Tryz.f158,Tryz.f172,Tryz.f106,Tryz.f234,Tryz.f194,Tryz.f109,Tryz.f118,Option.get!];(first|rw[QeU] at hr|rw[QfB] at hr|rw[QfC] at hr|rw[Qb4] at hr|rw[Qgw] at hr|rw[QfG] at hr|rw[Qg1] at hr|rw[Qgy] at hr|rw[Qbs] at hr|rw[QaX] at hr);repeat' first
 |(refine El.el hr ?_;intro hr)
 |(with_reducible intro h;refine Xx hr h ?_;intro hr)
 |with_reducible intro _
 |simp only[go_sem,simprocAttr,XS,JO,WC,WR,UM]
 |(with_reducible first|apply Xh|apply Xg|apply Xr|apply Xt|apply Xu)
 |((first|with_reducible refine Yn hr (by assumption) ?_ ?_|(with_reducible refine Yk hr ?_ ?_;rotate_left;intro p;rotate_right));(·simp only[go_sem,simprocAttr,WC,WR,UM]);intro hp hn hd hr;(try have XS:=hd _ e76);(try simp only[go_sem,simprocAttr] at XS);(try have JO:=hd _ e96);(try simp only[go_sem,simprocAttr] at JO))
 |(refine Xs ?_ ?_;·first|assumption|omega)
 |(with_reducible first|refine CallX.c ?_ _|refine OK.c hr hw ?_ (λ y hr=>?_) _)
 |refine dc 172 7 hf 34 [(0,2038,[[2176],[2816]]),(0,2033,[[],[2176,2816]]),(2,2033,[[],[2176,2816]]),(7,2032,[[2176],[2816]]),(0,399,[[],[2176]]),(16,399,[[],[2176]]),(48,399,[[],[2176]]),(0,383,[[],[2176]]),(0,255,[[],[2176]]),(496,15,[[],[2176]]),(1008,15,[[2816],[2176]]),(2047,0,[[2176],[]]),(4095,0,[]),(8191,0,[[192],[]])] ?_
 |refine dc 106 6 hf 37 [(0,500,[]),(1,500,[]),(0,499,[]),(7,496,[]),(0,207,[]),(16,207,[]),(0,63,[]),(64,63,[]),(240,15,[]),(511,0,[[896],[]]),(1023,0,[]),(2047,0,[[256],[]])] ?_
 |refine dc 106 10 hf 60 [(0,126,[]),(0,9,[[],[512]]),(2,9,[[],[512]]),(0,7,[[],[512]]),(14,1,[[],[512]]),(30,1,[[],[512]]),(62,1,[[],[512]]),(1,126,[[512],[]]),(255,0,[])] ?_
 |(refine Xo hr ?_;rintro rfl;with_reducible refine XP ?_)
 |exact Yw hr
 |exact XV hr
 |(apply XW;assumption)
 |with_reducible refine XoX (λ hi=>?_) (λ hi=>?_)
 |(exfalso;omega)
 |fail)
abbrev QoN:=g12.1
abbrev Qoa:=g12.2.1
abbrev Qob:=g12.2.2.1
abbrev Ql8:=g12.2.2.2.1
abbrev Qoc:=g12.2.2.2.2.1
abbrev Qod:=g12.2.2.2.2.2.1
abbrev QoO:=g12.2.2.2.2.2.2.1
abbrev Qoe:=g12.2.2.2.2.2.2.2.1
abbrev Qgr:=g12.2.2.2.2.2.2.2.2.1
abbrev Qfu:=g12.2.2.2.2.2.2.2.2.2
attribute [instance] QoN Qoa Qob Ql8 Qoc Qod QoO Qoe Qgr Qfu
end Go.Sx
