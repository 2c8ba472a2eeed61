import Derived.Test.YtjmgebidnekjdaaGreatLG0
import Derived.Test.YtjmgebidnekjdaaGreatLG1
import Derived.Test.YtjmgebidnekjdaaGreatLG2
set_option linter.all false
namespace Go.Sx
open Go.Proofs
set_option maxRecDepth 10000
set_option maxHeartbeats 100000000
abbrev Qj1:=λ N a0 (Q:(Ex Bool Unit)→Prop) n (st:St)=>∃ v1 ex,Qdt N a0 n v1=some ex/\Q ex/\((∃ w64,st.n=174/\st.t 1=.ept 64 w64 3 0 0/\st.t 3=vi v1/\st.s 64=some (w64,.arr true 32 3 [e32 a0] 0)))
abbrev Qj2:=λ N a0 (Q:(Ex Bool Unit)→Prop) n (st:St)=>∃ v5 v6 ex,Qal N a0 n v5 v6=some ex/\Q ex/\((∃ w64,st.n=174/\st.t 1=.ept 64 w64 3 0 0/\st.t 4=vi v5/\st.t 5=vi v6/\st.s 64=some (w64,.arr true 32 3 [e32 a0] 0)))
abbrev Qj3:=λ N a0 (Q:(Ex Bool Unit)→Prop) n (st:St)=>∃ v10 v11 ex,Qai N a0 n v10 v11=some ex/\Q ex/\((∃ w64,st.n=174/\st.t 1=.ept 64 w64 3 0 0/\st.t 7=vi v10/\st.t 8=vi v11/\st.s 64=some (w64,.arr true 32 3 [e32 a0] 0)))
abbrev Qj4:=λ N a0 (Q:(Ex Bool Unit)→Prop) n (st:St)=>∃ v14 ex,QcO N a0 n v14=some ex/\Q ex/\((∃ w64,st.n=174/\st.t 1=.ept 64 w64 3 0 0/\st.t 10=vi v14/\st.s 64=some (w64,.arr true 32 3 [e32 a0] 0)))
abbrev Qj5:=λ N a2 y1 (Q:(List Int)→Prop) n (st:St)=>∃ v2 v3 ex,QbR N a2 y1 n v2 v3=some ex/\Q ex/\((∃ w1408,st.n=41/\st.s 1408=some (w1408,.arr false 76 1 (v3.map e76) 0)/\st.t 2=s76 a2/\st.t 8=vi y1.1/\st.t 10=.osl 1408 w1408 1 0 v3.length/\st.t 11=vi v2))
abbrev QlZ:=λ N a0 a1 (Q:(Ex (WT × Int × Int × Int) Unit)→Prop) n (st:St)=>∃ v2 ex,QbP N a0 a1 n v2=some ex/\Q ex/\((∃ w896 w256,st.n=69/\st.s 896=some (w896,.arr false 90 3 (a0.Entries.map e90) 0)/\st.t 1=vu a1/\st.t 4=.ept 256 w256 1 0 0/\st.t 8=.osl 896 w896 3 0 a0.Entries.length/\st.t 9=vi v2/\st.s 256=some (w256,.arr true 35 1 [[.nsl]] 0)))
abbrev Qj6:=λ N a0 a1 (Q:(Ex (List Int × Int) Unit)→Prop) n (st:St)=>∃ v1 v2 ex,QbT N a0 a1 n v1 v2=some ex/\Q ex/\((st.n=49/\st.t 0=vu a0/\st.t 1=s3 a1/\st.t 6=vi v1/\st.t 12=s3 a1/\st.t 13=vi a1.length/\st.t 14=vi v2))
abbrev Qj7:=λ N a1 (Q:(Int × List Int)→Prop) n (st:St)=>∃ v5 v6 v7 ex,QbU N a1 n v5 v6 v7=some ex/\Q ex/\((∃ w2624,st.n=49/\st.s 2624=some (w2624,.arr false 76 1 (v7.map e76) 0)/\st.t 0=vu v5/\st.t 9=.osl 2624 w2624 1 0 v7.length/\st.t 29=s3 a1/\st.t 30=vi a1.length/\st.t 31=vi v6)\/((st.n=49/\st.t 0=vu v5/\st.t 9=.nsl/\st.t 29=s3 a1/\st.t 30=vi a1.length/\st.t 31=vi v6)/\v7=[]))
abbrev Qef:=λ N a0 (Q:(Ex Int Unit)→Prop) n (st:St)=>∃ v1 ex,Qaf N a0 n v1=some ex/\Q ex/\((st.n=19/\st.t 0=XjD a0/\st.t 1=.clo (.func 184) [] []/\st.t 7=vi a0.length/\st.t 8=vi v1))
abbrev Qif:=λ N y1 (Q:Int→Prop) n (st:St)=>∃ v2 v3 ex,QbK N y1 n v2 v3=some ex/\Q ex/\((st.n=22/\st.t 5=vi v2/\st.t 10=s88 y1/\st.t 11=vi y1.length/\st.t 12=vi v3))
abbrev QeL:=λ N a0 (Q:(Ex Int Unit)→Prop) n (st:St)=>∃ v1 ex,Qaj N a0 n v1=some ex/\Q ex/\((st.n=19/\st.t 0=s90 a0/\st.t 1=.clo (.func 115) [] []/\st.t 7=vi a0.length/\st.t 8=vi v1))
abbrev Qft:=λ N a0 c0 (Q:(Ex Int Unit)→Prop) n (st:St)=>∃ v1 ex,Qar N a0 c0 n v1=some ex/\Q ex/\((st.n=19/\st.t 0=s76 a0/\st.t 1=.clo (.func 125) [] [.ept 1000000 0 10 0 0]/\st.t 7=vi a0.length/\st.t 8=vi v1/\st.s 1000000=some (0,.arr true 61 10 [e61 c0] 0)))
abbrev Qjn:=λ N a0 a1 (Q:(Ex Bool Unit)→Prop) n (st:St)=>∃ v1 ex,Qdc N a0 a1 n v1=some ex/\Q ex/\((∃ w128 w192,st.n=91/\st.t 2=.ept 128 w128 13 0 0/\st.t 3=.ept 192 w192 10 0 0/\st.t 5=vi v1/\st.s 128=some (w128,.arr true 38 13 [e38 a0] 0)/\st.s 192=some (w192,.arr true 42 10 [e42 a1] 0)))
def g10:(∀ N a0,OK (Qcc N a0) 65 [.agg (e32 a0)] [] (λ r=>.v (.bool r)) λ r=>[])/\(∀ N a0 a1 a2,OK (QcV N a0 a1 a2) 214 [s76 a0,vu a1,s76 a2] [] (λ r=>.tup [s76 r.1,vi r.2]) λ r=>[])/\(∀ N a0 a1,OK (Qcs N a0 a1) 156 [.agg (e35 a0),vu a1] [] (λ r=>.tup [.agg (e35 r.1),vi r.2.1,vi r.2.2.1,vi r.2.2.2]) λ r=>[])/\(∀ N a0 a1,OK (QgQ N a0 a1) 237 [vu a0,s3 a1] [] (λ r=>.tup [s76 r.1,vi r.2]) λ r=>[])/\(∀ N a0,OK (Qag N a0) 229 [XjD a0,.clo (.func 184) [] []] [] (λ r=>vi r) λ r=>[])/\(∀ N a0 a1,OK (Qeg N a0 a1) 113 [.agg (Xmy a0),vi a1] [] (λ r=>vi r) λ r=>[])/\(∀ N a0,OK (QaL N a0) 180 [s90 a0,.clo (.func 115) [] []] [] (λ r=>vi r) λ r=>[])/\(∀ N a0 c0,OK (Qbc N a0 c0) 185 [s76 a0,.clo (.func 125) [] [.ept 1000000 0 10 0 0]] [.arr true 61 10 [[vi c0.Conf.PageWords,vi c0.Conf.Pages,K8 c0.Things,s88 c0.Locals.Slots,s94 c0.Locals.Scopes,s3 c0.Locals.Issued,s90 c0.Globals.Entries,s90 c0.Weaks.Entries,KS c0.Marks,s76 c0.Roots]] 0] (λ r=>vi r) λ r=>[.arr true 61 10 [[vi c0.Conf.PageWords,vi c0.Conf.Pages,K8 c0.Things,s88 c0.Locals.Slots,s94 c0.Locals.Scopes,s3 c0.Locals.Issued,s90 c0.Globals.Entries,s90 c0.Weaks.Entries,KS c0.Marks,s76 c0.Roots]] 0])/\(∀ N a0 a1,OK (Qfs N a0 a1) 30 [.agg (e38 a0),.agg (e42 a1)] [] (λ r=>.v (.bool r)) λ r=>[]):=by
 refine ⟨λ N _=>rk Tryz.f65 [.tmp 2] [] 174 ?_,λ N _ _ _=>rk Tryz.f214 [.tmp 6,.tmp 7] [] 41 ?_,λ N _ _=>rk Tryz.f156 [.cell 4 35,.tmp 5,.tmp 6,.tmp 7] [] 69 ?_,λ N _ _=>rk Tryz.f237 [.tmp 4,.tmp 5] [] 49 ?_,λ N _=>rk Tryz.f229 [.tmp 4] [] 19 ?_,λ N _ _=>rk Tryz.f113 [.tmp 4] [] 22 ?_,λ N _=>rk Tryz.f180 [.tmp 4] [] 19 ?_,λ N _ _=>rk Tryz.f185 [.tmp 4] [] 19 ?_,λ N _ _=>rk Tryz.f30 [.tmp 4] [] 91 ?_⟩<;>(rintro _ hw r hr C _ rfl hwf hf;simp only[Tryz.f65,Tryz.f214,Tryz.f156,Tryz.f237,Tryz.f229,Tryz.f113,Tryz.f180,Tryz.f185,Tryz.f30,Option.get!];(first|rw[Qcc] at hr|rw[QcV] at hr|rw[Qcs] at hr|rw[QgQ] at hr|rw[Qag] at hr|rw[Qeg] at hr|rw[QaL] at hr|rw[Qbc] at hr|rw[Qfs] at hr);repeat' first
 |(refine El.el hr ?_;intro hr)
 |(with_reducible intro h;refine Xx hr h ?_;intro hr)
 |with_reducible intro _
 |(refine Xo hr ?_;rintro rfl;have hr:=hk;clear hk)
 |simp only[go_sem,simprocAttr,E,hl3,XS,Y2,ZR,ZC,Kn,JO,XaG]
 |(with_reducible first|apply Xh|apply Xg|apply Xr|apply Xt|apply Xu)
 |((first|with_reducible refine Yn hr (by assumption) ?_ ?_|(with_reducible refine Yk hr ?_ ?_;rotate_left;intro p;rotate_right));(·simp only[go_sem,simprocAttr]);intro hp hn hd hr;(try have hl3:=hd _ e3);(try simp only[go_sem,simprocAttr] at hl3);(try have XS:=hd _ e76);(try simp only[go_sem,simprocAttr] at XS);(try have Y2:=hd _ e88);(try simp only[go_sem,simprocAttr] at Y2);(try have ZR:=hd _ e90);(try simp only[go_sem,simprocAttr] at ZR);(try have ZC:=hd _ e92);(try simp only[go_sem,simprocAttr] at ZC);(try have Kn:=hd _ e94);(try simp only[go_sem,simprocAttr] at Kn);(try have JO:=hd _ e96);(try simp only[go_sem,simprocAttr] at JO);(try have XaG:=hd _ Vj);(try simp only[go_sem,simprocAttr] at XaG))
 |(refine Xs ?_ ?_;·first|assumption|omega)
 |(with_reducible first|refine CallX.c ?_ _|refine OK.c hr hw ?_ (λ y hr=>?_) _|refine Ol hr hw ?_ (λ y hr=>?_) _)
 |(with_reducible refine lp (Qj1 N _) hr N ?_ (λ ex hq hk=>⟨_,ex,hq,hk,?_⟩) _;clear hr;(try clear E);rintro n1 st ⟨v1,ex,hr,hk,⟨_,E⟩⟩<;>(obtain _|n1:=n1<;>rw[Qdt] at hr))
 |refine ⟨_,WH _,_,_,hr,hk,?_⟩
 |(with_reducible refine lp (Qj2 N _) hr N ?_ (λ ex hq hk=>⟨_,_,ex,hq,hk,?_⟩) _;clear hr;(try clear E);rintro n2 st ⟨v5,v6,ex,hr,hk,⟨_,E⟩⟩<;>(obtain _|n2:=n2<;>rw[Qal] at hr))
 |refine ⟨_,WH _,_,_,_,hr,hk,?_⟩
 |(with_reducible refine lp (Qj3 N _) hr N ?_ (λ ex hq hk=>⟨_,_,ex,hq,hk,?_⟩) _;clear hr;(try clear E);rintro n3 st ⟨v10,v11,ex,hr,hk,⟨_,E⟩⟩<;>(obtain _|n3:=n3<;>rw[Qai] at hr))
 |(with_reducible refine lp (Qj4 N _) hr N ?_ (λ ex hq hk=>⟨_,ex,hq,hk,?_⟩) _;clear hr;(try clear E);rintro n4 st ⟨v14,ex,hr,hk,⟨_,E⟩⟩<;>(obtain _|n4:=n4<;>rw[QcO] at hr))
 |(with_reducible refine lp (Qj5 N _ _) hr N ?_ (λ ex hq hk=>⟨_,_,ex,hq,hk,?_⟩) _;clear hr;(try clear E);rintro n1 st ⟨v2,v3,ex,hr,hk,⟨_,E⟩⟩<;>(obtain _|n1:=n1<;>rw[QbR] at hr))
 |(with_reducible refine lp (QlZ N _ _) hr N ?_ (λ ex hq hk=>⟨_,ex,hq,hk,?_⟩) _;clear hr;(try clear E);rintro n1 st ⟨v2,ex,hr,hk,⟨_,_,E⟩⟩<;>(obtain _|n1:=n1<;>rw[QbP] at hr))
 |(with_reducible refine lp (Qj6 N _ _) hr N ?_ (λ ex hq hk=>⟨_,_,ex,hq,hk,?_⟩) _;clear hr;(try clear E);rintro n1 st ⟨v1,v2,ex,hr,hk,E⟩<;>(obtain _|n1:=n1<;>rw[QbT] at hr))
 |(with_reducible refine lp (Qj7 N _) hr N ?_ (λ ex hq hk=>⟨_,_,_,ex,hq,hk,?_⟩) _;clear hr;(try clear E);rintro n2 st ⟨v5,v6,v7,ex,hr,hk,(⟨_,E⟩|⟨E,z0⟩)⟩<;>(try subst z0)<;>(obtain _|n2:=n2<;>rw[QbU] at hr))
 |refine ⟨_,WH _,_,_,_,_,hr,hk,?_⟩
 |(with_reducible refine lp (Qef N _) hr N ?_ (λ ex hq hk=>⟨_,ex,hq,hk,?_⟩) _;clear hr;(try clear E);rintro n1 st ⟨v1,ex,hr,hk,E⟩<;>(obtain _|n1:=n1<;>rw[Qaf] at hr))
 |(with_reducible refine lp (Qif N _) hr N ?_ (λ ex hq hk=>⟨_,_,ex,hq,hk,?_⟩) _;clear hr;(try clear E);rintro n1 st ⟨v2,v3,ex,hr,hk,E⟩<;>(obtain _|n1:=n1<;>rw[QbK] at hr))
 |(with_reducible refine lp (QeL N _) hr N ?_ (λ ex hq hk=>⟨_,ex,hq,hk,?_⟩) _;clear hr;(try clear E);rintro n1 st ⟨v1,ex,hr,hk,E⟩<;>(obtain _|n1:=n1<;>rw[Qaj] at hr))
 |(with_reducible refine lp (Qft N _ _) hr N ?_ (λ ex hq hk=>⟨_,ex,hq,hk,?_⟩) _;clear hr;(try clear E);rintro n1 st ⟨v1,ex,hr,hk,E⟩<;>(obtain _|n1:=n1<;>rw[Qar] at hr))
 |(with_reducible refine lp (Qjn N _ _) hr N ?_ (λ ex hq hk=>⟨_,ex,hq,hk,?_⟩) _;clear hr;(try clear E);rintro n1 st ⟨v1,ex,hr,hk,⟨_,_,E⟩⟩<;>(obtain _|n1:=n1<;>rw[Qdc] at hr))
 |refine dc 65 27 hf 156 [(0,130046,[]),(0,129929,[]),(2,129929,[]),(0,129927,[]),(14,129921,[]),(30,129921,[]),(62,129921,[]),(0,129407,[]),(0,129279,[]),(384,129151,[]),(1023,129024,[]),(0,10239,[]),(2048,10239,[]),(0,8191,[]),(14336,2047,[]),(30720,2047,[]),(63488,2047,[]),(131071,0,[])] ?_
 |refine dc 156 9 hf 5 [(0,4433230883192832,[]),(1,4433230883192832,[]),(0,4415638697148416,[[],[256]]),(0,404620279021569,[[],[256]]),(0,263882790666241,[[],[256]]),(24,123145302310913,[[],[256]]),(56,123145302310913,[[],[256]]),(120,123145302310913,[[],[256]]),(3,4433230883192832,[[256],[]]),(263,4362862139015168,[]),(1023,0,[]),(2047,0,[])] ?_
 |refine dc 30 6 hf 37 [(0,4036,[]),(1,4036,[]),(0,4035,[]),(7,4032,[]),(15,4032,[]),(31,4032,[]),(0,319,[]),(64,319,[]),(0,255,[]),(448,63,[]),(960,63,[]),(1984,63,[]),(4095,0,[]),(8191,0,[]),(16383,132186112,[]),(32767,132186112,[]),(16383,132169728,[]),(131071,132120576,[]),(262143,132120576,[]),(524287,132120576,[]),(1048575,132120576,[]),(16383,10469376,[]),(2113535,10469376,[]),(16383,8372224,[]),(14696447,2080768,[]),(31473663,2080768,[]),(65028095,2080768,[]),(134217727,0,[]),(268435455,0,[])] ?_
 |refine dc 30 8 hf 66 [(0,24,[]),(1,24,[]),(3,24,[]),(0,7,[]),(8,7,[]),(31,0,[]),(63,0,[]),(127,0,[]),(255,6144,[]),(511,6144,[]),(1023,6144,[]),(255,1792,[]),(2303,1792,[]),(8191,0,[]),(16383,0,[]),(32767,0,[]),(65535,0,[]),(131071,3145728,[]),(262143,3145728,[]),(524287,3145728,[]),(131071,917504,[]),(1179647,917504,[]),(4194303,0,[]),(8388607,0,[]),(16777215,0,[]),(33554431,0,[])] ?_
 |(refine Xo hr ?_;rintro rfl;with_reducible refine XP ?_)
 |exact Yw hr
 |exact XV hr
 |(apply XW;assumption)
 |((first|refine Xx (c:=true) hr rfl ?_|refine Xx (c:=false) hr rfl ?_|refine Xx hr (by assumption) ?_);intro hr)
 |fail)
abbrev QmR:=g10.1
abbrev QmS:=g10.2.1
abbrev QoF:=g10.2.2.1
abbrev QmT:=g10.2.2.2.1
abbrev QeC:=g10.2.2.2.2.1
abbrev QiE:=g10.2.2.2.2.2.1
abbrev Qe6:=g10.2.2.2.2.2.2.1
abbrev QfX:=g10.2.2.2.2.2.2.2.1
abbrev Ql0:=g10.2.2.2.2.2.2.2.2
attribute [instance] QmR QmS QoF QmT QeC QiE Qe6 QfX Ql0
end Go.Sx
