import Derived.Test.YtjmgebidnekjdaaGreatLG21
set_option linter.all false
namespace Go.Sx
open Go.Proofs
set_option maxRecDepth 10000
set_option maxHeartbeats 100000000
abbrev Qje:=λ N a0 y4 y5 y6 y7 y8 y9 (Q:(List U4)→Prop) n (st:St)=>∃ v10 v11 ex,QaP N a0 y4 y5 y6 y7 y8 y9 n v10 v11=some ex/\Q ex/\((∃ w3328 w7872 w64 w128 w192 w512 w640,st.n=127/\st.s 3328=some (w3328,.arr false 76 1 ((y4.2.1.take ((a0.Roots.length:Nat):Int).toNat).map e76) 0)/\st.s 7872=some (w7872,.arr false 92 2 (v11.map e92) 0)/\st.t 1=.ept 64 w64 13 0 0/\st.t 2=.ept 128 w128 13 0 0/\st.t 3=.ept 192 w192 6 0 0/\st.t 6=s76 y4.2.1/\st.t 8=.ept 512 w512 6 0 0/\st.t 10=.ept 640 w640 13 0 0/\st.t 11=vi a0.Roots.length/\st.t 12=vi y5.length/\st.t 13=vi y6.length/\st.t 14=vi v10/\st.s 64=some (w64,.arr true 38 13 [e38 a0] 0)/\st.s 128=some (w128,.arr true 38 13 [[vi 0,vi 0,.nsl,.nsl,vi 0,vi 0,.nsl,.nsl,.nsl,.nsl,.nsl,.nsl,.nsl]] 0)/\st.s 192=some (w192,.arr true 122 6 [[vi 0,vi 0,vi 0,vi 0,vi 0,vi 0]] 0)/\st.s 512=some (w512,.arr true 122 6 [Xmx y4.2.2.2.1] 0)/\st.s 640=some (w640,.arr true 38 13 [[vi y4.1.Conf.PageWords,vi y4.1.Conf.Pages,s76 y4.1.Words,Y3 y4.1.Pages,vi y4.1.Space,vi y4.1.Bump,s88 y7.1.Slots,s94 y7.1.Scopes,s3 y7.1.Issued,s90 y8.1.Entries,s90 y9.1.Entries,.osl 7872 w7872 2 0 v11.length,.osl 3328 w3328 1 0 (min (((a0.Roots.length:Nat):Int).toNat) y4.2.1.length)]] 0))\/(∃ w3328 w64 w128 w192 w512 w640,(st.n=127/\st.s 3328=some (w3328,.arr false 76 1 ((y4.2.1.take ((a0.Roots.length:Nat):Int).toNat).map e76) 0)/\st.t 1=.ept 64 w64 13 0 0/\st.t 2=.ept 128 w128 13 0 0/\st.t 3=.ept 192 w192 6 0 0/\st.t 6=s76 y4.2.1/\st.t 8=.ept 512 w512 6 0 0/\st.t 10=.ept 640 w640 13 0 0/\st.t 11=vi a0.Roots.length/\st.t 12=vi y5.length/\st.t 13=vi y6.length/\st.t 14=vi v10/\st.s 64=some (w64,.arr true 38 13 [e38 a0] 0)/\st.s 128=some (w128,.arr true 38 13 [[vi 0,vi 0,.nsl,.nsl,vi 0,vi 0,.nsl,.nsl,.nsl,.nsl,.nsl,.nsl,.nsl]] 0)/\st.s 192=some (w192,.arr true 122 6 [[vi 0,vi 0,vi 0,vi 0,vi 0,vi 0]] 0)/\st.s 512=some (w512,.arr true 122 6 [Xmx y4.2.2.2.1] 0)/\st.s 640=some (w640,.arr true 38 13 [[vi y4.1.Conf.PageWords,vi y4.1.Conf.Pages,s76 y4.1.Words,Y3 y4.1.Pages,vi y4.1.Space,vi y4.1.Bump,s88 y7.1.Slots,s94 y7.1.Scopes,s3 y7.1.Issued,s90 y8.1.Entries,s90 y9.1.Entries,.nsl,.osl 3328 w3328 1 0 (min (((a0.Roots.length:Nat):Int).toNat) y4.2.1.length)]] 0))/\v11=[]))
abbrev Qmn:=λ N a0 y2 (Q:(Ex Bool Unit)→Prop) n (st:St)=>∃ v3 ex,QeI N a0 y2 n v3=some ex/\Q ex/\((st.n=41/\st.t 5=s3 y2.1/\st.t 26=Y3 a0.Pages/\st.t 27=vi a0.Pages.length/\st.t 28=vi v3))
abbrev QkB:=λ N a0 a1 v12 v13 v8 y11 (w128:Nat) (w192:Nat) (Q:(Ex Unit Bool)→Prop) n (st:St)=>∃ v17 v18 ex,Qco N a0 a1 v12 v13 v8 y11 n v17 v18=some ex/\Q ex/\((∃ w1984,st.n=88/\st.s 1984=some (w1984,.arr false 115 2 (v13.map Xbq) 0)/\st.t 0=.osl 1984 w1984 2 0 v13.length/\st.t 1=s76 y11.1/\st.t 2=s76 y11.2.1/\st.t 8=vi v12/\st.t 9=.v (.bool v17)/\st.t 10=vi v18/\st.s 128=some (w128,.arr true 38 13 [e38 a0] 0)/\st.s 192=some (w192,.arr true 42 10 [e42 a1] 0)))
abbrev QkC:=λ N a0 a1 v8 y11 (w128:Nat) (w192:Nat) (Q:(Ex Unit (List WE))→Prop) n (st:St)=>∃ v12 v13 ex,Qcp N a0 a1 v8 y11 n v12 v13=some ex/\Q ex/\((∃ w1984,st.n=88/\st.s 1984=some (w1984,.arr false 115 2 (v13.map Xbq) 0)/\st.t 0=.osl 1984 w1984 2 0 v13.length/\st.t 1=s76 y11.1/\st.t 2=s76 y11.2.1/\st.t 8=vi v12/\st.s 128=some (w128,.arr true 38 13 [e38 a0] 0)/\st.s 192=some (w192,.arr true 42 10 [e42 a1] 0)))
abbrev QkD:=λ N a0 a1 (Q:(Ex (List WE × Bool) (Bool × List WE))→Prop) n (st:St)=>∃ v7 v8 v9 ex,Qa1 N a0 a1 n v7 v8 v9=some ex/\Q ex/\((∃ w1984 w128 w192,st.n=66/\st.s 1984=some (w1984,.arr false 115 2 (v9.map Xbq) 0)/\st.t 2=.ept 128 w128 13 0 0/\st.t 3=.ept 192 w192 10 0 0/\st.t 6=.osl 1984 w1984 2 0 v9.length/\st.t 7=.v (.bool v7)/\st.t 8=vi v8/\st.s 128=some (w128,.arr true 38 13 [e38 a0] 0)/\st.s 192=some (w192,.arr true 42 10 [e42 a1] 0))\/(∃ w128 w192,(st.n=66/\st.t 2=.ept 128 w128 13 0 0/\st.t 3=.ept 192 w192 10 0 0/\st.t 6=.nsl/\st.t 7=.v (.bool v7)/\st.t 8=vi v8/\st.s 128=some (w128,.arr true 38 13 [e38 a0] 0)/\st.s 192=some (w192,.arr true 42 10 [e42 a1] 0))/\v9=[]))
def g37:(∀ N a0,OK (Qbk N a0) 38 [.agg (e38 a0)] [] (λ r=>.tup [.agg (e38 r.1),.agg (Xmx r.2.1),vi r.2.2]) λ r=>[])/\(∀ N a0 a1,OK (Qhu N a0 a1) 44 [.agg (e27 a0),s92 a1] [] (λ r=>.v (.bool r)) λ r=>[])/\(∀ N a0 a1,OK (Qfe N a0 a1) 11 [.agg (e38 a0),.agg (e42 a1)] [] (λ r=>.tup [XoS r.1,.v (.bool r.2)]) λ r=>[]):=by
 refine ⟨λ N _=>rk Tryz.f38 [.cell 2 38,.cell 3 122,.tmp 4] [] 127 ?_,λ N _ _=>rk Tryz.f44 [.tmp 4] [] 41 ?_,λ N _ _=>rk Tryz.f11 [.tmp 4,.tmp 5] [] 66 ?_⟩<;>(rintro _ hw r hr C _ rfl hwf hf;simp only[Tryz.f38,Tryz.f44,Tryz.f11,Option.get!];(first|rw[Qbk] at hr|rw[Qhu] at hr|rw[Qfe] at hr);repeat' first
 |(refine El.el hr ?_;intro hr)
 |(with_reducible intro h;refine Xx hr h ?_;intro hr)
 |with_reducible intro _
 |(refine Xo hr ?_;rintro rfl;have hr:=hk;clear hk)
 |simp only[go_sem,simprocAttr,E,Fq,hl3,XS,ZC,XaF,XE,WC,WR,UM]
 |(with_reducible first|apply Xh|apply Xg|apply Xr|apply Xt|apply Xu)
 |((first|with_reducible refine Yn hr (by assumption) ?_ ?_|(with_reducible refine Yk hr ?_ ?_;rotate_left;intro p;rotate_right));(·simp only[go_sem,simprocAttr,WC,WR,UM]);intro hp hn hd hr;(try have hl3:=hd _ e3);(try simp only[go_sem,simprocAttr] at hl3);(try have XS:=hd _ e76);(try simp only[go_sem,simprocAttr] at XS);(try have ZC:=hd _ e92);(try simp only[go_sem,simprocAttr] at ZC);(try have XaF:=hd _ Xbq);(try simp only[go_sem,simprocAttr] at XaF);(try have XE:=hd _ Yp);(try simp only[go_sem,simprocAttr] at XE))
 |(refine Xs ?_ ?_;·first|assumption|omega|(dsimp only at *;omega))
 |(refine CallX.inl (f:=31) 2400 (fn:=Tryz.f31) (rs:=[.tmp 6,.tmp 7]) (nt:=88) 1000 (by kernel_rfl) (λ x=>?_) _;simp only[Tryz.f31,Option.get!])
 |(with_reducible first|refine CallX.c ?_ _|refine OK.c hr hw ?_ (λ y hr=>?_) _|refine Ol hr hw ?_ (λ y hr=>?_) _)
 |(with_reducible refine lp (Qje N _ _ _ _ _ _ _) hr N ?_ (λ ex hq hk=>⟨_,_,ex,hq,hk,?_⟩) _;clear hr;(try clear E);(try clear Fq);rintro n1 st ⟨v10,v11,ex,hr,hk,(⟨_,_,_,_,_,_,_,E⟩|⟨_,_,_,_,_,_,E,z0⟩)⟩<;>(try subst z0)<;>(obtain _|n1:=n1<;>rw[QaP] at hr))
 |refine ⟨_,WH _,_,_,_,hr,hk,?_⟩
 |(with_reducible refine lp (Qmn N _ _) hr N ?_ (λ ex hq hk=>⟨_,ex,hq,hk,?_⟩) _;clear hr;(try clear E);(try clear Fq);rintro n1 st ⟨v3,ex,hr,hk,E⟩<;>(obtain _|n1:=n1<;>rw[QeI] at hr))
 |refine ⟨_,WH _,_,_,hr,hk,?_⟩
 |((refine LoopG.v (id:=128) (v:=?_) ?_ ?_ _;rotate_left;·first|rfl|(simp only[go_sem,simprocAttr,E,Fq];rfl));intro w128 h128;(refine LoopG.v (id:=192) (v:=?_) ?_ ?_ _;rotate_left;·first|rfl|(simp only[go_sem,simprocAttr,E,Fq];rfl));intro w192 h192;with_reducible refine lp (QkB N _ _ _ _ _ _ w128 w192) hr N ?_ (λ ex hq hk=>⟨_,_,ex,hq,hk,?_⟩) _;(all_goals (subst h128;subst h192));clear hr;(try clear Fq);rintro n1 st ⟨v17,v18,ex,hr,hk,⟨_,Fq⟩⟩<;>(obtain _|n1:=n1<;>rw[Qco] at hr))
 |((refine LoopG.v (id:=128) (v:=?_) ?_ ?_ _;rotate_left;·first|rfl|(simp only[go_sem,simprocAttr,E,Fq];rfl));intro w128 h128;(refine LoopG.v (id:=192) (v:=?_) ?_ ?_ _;rotate_left;·first|rfl|(simp only[go_sem,simprocAttr,E,Fq];rfl));intro w192 h192;with_reducible refine lp (QkC N _ _ _ _ w128 w192) hr N ?_ (λ ex hq hk=>⟨_,_,ex,hq,hk,?_⟩) _;(all_goals (subst h128;subst h192));clear hr;(try clear Fq);rintro n2 st ⟨v12,v13,ex,hr,hk,⟨_,Fq⟩⟩<;>(obtain _|n2:=n2<;>rw[Qcp] at hr))
 |(with_reducible refine lp (QkD N _ _) hr N ?_ (λ ex hq hk=>⟨_,_,_,ex,hq,hk,?_⟩) _;clear hr;(try clear E);(try clear Fq);rintro n3 st ⟨v7,v8,v9,ex,hr,hk,(⟨_,_,_,E⟩|⟨_,_,E,z0⟩)⟩<;>(try subst z0)<;>(obtain _|n3:=n3<;>rw[Qa1] at hr))
 |refine ⟨_,WH _,_,_,_,_,hr,hk,?_⟩
 |refine dc 38 3 hf 5 [(0,8126473,[[],[320,512,1728]]),(1,8126473,[[],[320,512,1728]]),(0,3342345,[[],[320,512]]),(4,3342345,[[],[320,512]]),(0,983049,[[],[320,512]]),(16,983049,[[],[320,512]]),(60,196617,[[1728],[320,512]]),(127,9,[[1728],[320,512]]),(255,9,[[],[320,512]]),(511,503316489,[[],[320,512]]),(511,486539273,[[],[320,512]]),(511,452984843,[[],[320,512]]),(511,385875983,[[],[320,512]]),(511,251658255,[[],[320,512]]),(0,536838152,[[320],[512,1728]]),(0,536838145,[[512],[320,1728]]),(50175,503316480,[[320],[]]),(116735,469762048,[]),(249855,402653184,[]),(516095,268435456,[[512],[]]),(1048575,0,[])] ?_
 |refine dc 38 7 hf 11 [(0,2190433320960,[[],[3200]]),(1,2190433320960,[[],[3200]]),(3,2190433320960,[[],[3200]]),(0,419833053184,[]),(8,419833053184,[]),(24,419833053184,[]),(56,2069100494849,[[],[3200]]),(0,136365211648,[]),(128,136365211648,[]),(440,76235669504,[[3200],[]]),(952,76235669507,[]),(959,1168231104512,[]),(3071,1099511627776,[]),(8191,0,[])] ?_
 |refine dc 38 9 hf 59 [(0,252,[]),(1,252,[]),(0,123,[]),(0,119,[]),(0,47,[]),(0,31,[]),(48,15,[]),(124,3,[]),(255,0,[]),(511,0,[]),(1023,1024,[]),(1023,2560,[[],[640]]),(2047,1024,[]),(6143,1024,[[640],[]])] ?_
 |refine dc 38 10 hf 72 [(0,4092,[]),(1,4092,[]),(0,2043,[]),(0,2007,[]),(0,1999,[]),(24,1991,[]),(0,703,[]),(0,639,[]),(192,575,[]),(0,511,[]),(960,63,[]),(2044,3,[]),(4095,0,[]),(8191,0,[]),(16383,16384,[]),(16383,40960,[[],[640]]),(32767,16384,[]),(98303,16384,[[640],[]])] ?_
 |refine dc 38 15 hf 103 [(0,1048572,[[],[7808]]),(1,1048572,[[],[7808]]),(0,259067,[]),(0,258391,[]),(0,258383,[]),(24,258375,[]),(0,258367,[]),(120,258311,[]),(0,258303,[]),(504,258055,[]),(1020,258051,[]),(2044,258051,[]),(0,20479,[]),(4096,20479,[]),(0,16383,[]),(28672,4095,[]),(61440,4095,[]),(126976,4095,[]),(262140,3,[]),(524284,3,[[7808],[]]),(1048575,0,[[7872],[]]),(2097151,0,[]),(4194303,0,[[640],[]])] ?_
 |refine dc 38 16 hf 125 [(0,2,[]),(0,1,[[],[128]]),(1,2,[[128],[]]),(7,0,[[192],[]]),(15,0,[])] ?_
 |refine dc 44 9 hf 33 [(0,60,[]),(1,60,[]),(0,11,[]),(0,7,[]),(12,3,[]),(28,3,[]),(63,0,[])] ?_
 |refine dc 11 3 hf 6 [(0,8388608,[]),(1,8388608,[]),(0,6291456,[]),(7,0,[]),(15,0,[[1984],[]]),(31,0,[]),(63,134217728,[]),(63,67108865,[]),(127,134217728,[]),(511,0,[])] ?_
 |refine dc 11 7 hf 9 [(0,2130303778816,[]),(0,2095944040448,[]),(0,377957122048,[]),(0,240518168576,[]),(12,103079215104,[]),(28,103079215104,[]),(63,0,[]),(127,0,[]),(255,26388279066624,[]),(255,21990232555521,[]),(255,13194139533315,[]),(511,26388279066624,[]),(3071,17592186044416,[]),(8191,0,[])] ?_
 |(refine dbi 2400 31 4 ?_ ⟨⟩ 17 [(0,994,[]),(0,993,[]),(3,992,[]),(7,992,[]),(15,992,[]),(0,95,[]),(0,63,[]),(96,31,[]),(224,31,[]),(480,31,[]),(1023,0,[])] rfl rfl (by kernel_rfl) ?_ _;·rfl)
 |(refine dbi 2400 31 10 ?_ ⟨⟩ 39 [(0,1048034,[]),(0,1048033,[]),(3,1048032,[]),(7,1048032,[]),(15,1048032,[]),(0,1047647,[]),(0,1047615,[]),(96,1047583,[]),(224,1047583,[]),(511,1047552,[]),(0,494591,[]),(0,493567,[]),(3072,492543,[]),(7168,492543,[]),(15360,492543,[]),(0,98303,[]),(0,65535,[]),(98304,32767,[]),(229376,32767,[]),(523264,1023,[]),(1048575,0,[])] rfl rfl (by kernel_rfl) ?_ _;·rfl)
 |(refine dbi 2400 31 12 ?_ ⟨⟩ 62 [(0,0,[]),(1,0,[]),(3,482,[]),(3,481,[]),(15,480,[]),(31,480,[]),(63,480,[]),(3,95,[]),(3,63,[]),(387,31,[]),(899,31,[]),(2047,0,[]),(4095,0,[]),(8191,0,[])] rfl rfl (by kernel_rfl) ?_ _;·rfl)
 |(refine dbi 2400 31 14 ?_ ⟨⟩ 75 [(0,2046,[[],[159040]]),(0,485,[]),(0,483,[]),(6,481,[]),(14,481,[]),(0,95,[]),(0,63,[]),(96,31,[]),(224,31,[]),(510,1,[]),(1022,1,[[159040],[]]),(2047,0,[[1984],[]]),(4095,0,[])] rfl rfl (by kernel_rfl) ?_ _;·rfl)
 |(refine Xo hr ?_;rintro rfl;with_reducible refine XP ?_)
 |exact Yw hr
 |exact XV hr
 |(apply XW;assumption)
 |((first|refine Xx (c:=true) hr rfl ?_|refine Xx (c:=false) hr rfl ?_|refine Xx hr (by assumption) ?_);intro hr)
 |fail)
abbrev QlG:=g37.1
abbrev QoX:=g37.2.1
abbrev Qnv:=g37.2.2
attribute [instance] QlG QoX Qnv
def g36:(∀ N a0 a1,OK (Qbl N a0 a1) 153 [.agg (e38 a0),vu a1] [] (λ r=>.tup [vu r.1,vi r.2]) λ r=>[])/\(∀ N a0 a1,OK (Qgm N a0 a1) 49 [.agg (e27 a0),s76 a1] [] (λ r=>.v (.bool r)) λ r=>[]):=by
 refine ⟨λ N _ _=>rk Tryz.f153 [.tmp 4,.tmp 5] [] 54 ?_,λ N _ _=>rk Tryz.f49 [.tmp 4] [] 19 ?_⟩<;>(rintro _ hw r hr C _ rfl hwf hf;simp only[Tryz.f153,Tryz.f49,Option.get!];(first|rw[Qbl] at hr|rw[Qgm] at hr);repeat' first
 |(refine El.el hr ?_;intro hr)
 |(with_reducible intro h;refine Xx hr h ?_;intro hr)
 |with_reducible intro _
 |simp only[go_sem,simprocAttr]
 |(with_reducible first|apply Xh|apply Xg|apply Xr)
 |(refine Xs ?_ ?_;·first|assumption|omega)
 |(with_reducible first|refine CallX.c ?_ _|refine OK.c hr hw ?_ (λ y hr=>?_) _)
 |(refine Xo hr ?_;rintro rfl;with_reducible refine XP ?_)
 |exact Yw hr
 |exact XV hr
 |(apply XW;assumption)
 |fail)
abbrev QlH:=g36.1
abbrev Qmo:=g36.2
attribute [instance] QlH Qmo
end Go.Sx
