import Derived.Test.YtmpbhfnjjaocoaaGreatCF
set_option linter.all false
namespace Go.Sx
open Go.Proofs
set_option maxRecDepth 10000
set_option maxHeartbeats 100000000
abbrev Qj0:=λN a0 (Q:(Ex Bool Unit)→Prop) n (st:St)=>∃v1 ex,QcM N a0 n v1=some ex/\Q ex/\((∃w64,st.n=39/\st.t 1=.ept 64 w64 1 0 0/\st.t 3=vi v1/\st.s 64=some (w64,.arr true 35 1 [[K1 a0.e]] 0)))
abbrev Qmd:=λN a0 a1 (Q:(Ex Bool Unit)→Prop) n (st:St)=>∃v1 ex,Qfg N a0 a1 n v1=some ex/\Q ex/\((st.n=18/\st.t 0=s58 a0/\st.t 1=vu a1/\st.t 5=vi v1))
abbrev Qk3:=λN a0 (Q:Int→Prop) n (st:St)=>∃v1 ex,QdQ N a0 n v1=some ex/\Q ex/\((∃w128,st.n=15/\st.t 1=vi v1/\st.t 2=.ept 128 w128 6 0 0/\st.s 128=some (w128,.arr true 27 6 [e27 a0] 0)))
abbrev Qj1:=λN a0 a1 (Q:(Ex Bool Unit)→Prop) n (st:St)=>∃v1 ex,QcQ N a0 a1 n v1=some ex/\Q ex/\((∃w128,st.n=20/\st.t 1=vi a1/\st.t 2=.ept 128 w128 16 0 0/\st.t 5=vi v1/\st.s 128=some (w128,.arr true 138 16 [K0 a0] 0)))
abbrev Qk4:=λN a1 a2 a3 a4 (Q:(Ex (List Wt × Int) (List Wt))→Prop) n (st:St)=>∃v1 v2 ex,QdR N a1 a2 a3 a4 n v1 v2=some ex/\Q ex/\((∃w1920 w512 w576,st.n=57/\st.s 1920=some (w1920,.arr false 175 4 (v2.map XQ) 0)/\st.t 1=vi a1/\st.t 2=vi a2/\st.t 8=.ept 512 w512 4 0 0/\st.t 9=.ept 576 w576 4 0 0/\st.t 12=.osl 1920 w1920 4 0 v2.length/\st.t 13=vi v1/\st.s 512=some (w512,.arr true 175 4 [XQ a3] 0)/\st.s 576=some (w576,.arr true 175 4 [XQ a4] 0)))
abbrev Qjn:=λN a0 a1 (Q:(Ex Bool Unit)→Prop) n (st:St)=>∃v1 ex,Qc1 N a0 a1 n v1=some ex/\Q ex/\((∃w128,st.n=21/\st.t 1=s58 a1/\st.t 2=.ept 128 w128 10 0 0/\st.t 5=vi v1/\st.s 128=some (w128,.arr true 65 10 [e65 a0] 0)))
abbrev Qj2:=λN a0 (Q:Int→Prop) n (st:St)=>∃v1 v2 ex,Qbx N a0 n v1 v2=some ex/\Q ex/\((st.n=20/\st.t 0=Ye a0/\st.t 3=vi v1/\st.t 4=vi v2))
abbrev QhL:=λN a0 (Q:(Ex Bool Unit)→Prop) n (st:St)=>∃v1 v2 ex,Qa6 N a0 n v1 v2=some ex/\Q ex/\((∃w64,st.n=51/\st.t 1=.ept 64 w64 3 0 0/\st.t 3=vi v1/\st.t 8=Xbp a0.l.S/\st.t 9=vi a0.l.S.length/\st.t 10=vi v2/\st.s 64=some (w64,.arr true 180 3 [e32 a0.l] 0)))
abbrev QiG:=λN a0 (Q:(List Int)→Prop) n (st:St)=>∃v1 v2 ex,Qc9 N a0 n v1 v2=some ex/\Q ex/\((∃w1024,st.n=19/\st.s 1024=some (w1024,.arr false 58 1 (v2.map e58) 0)/\st.t 3=.osl 1024 w1024 1 0 v2.length/\st.t 6=XjE a0/\st.t 7=vi a0.length/\st.t 8=vi v1)\/((st.n=19/\st.t 3=.nsl/\st.t 6=XjE a0/\st.t 7=vi a0.length/\st.t 8=vi v1)/\v2=[]))
abbrev Qk5:=λN a0 (Q:Int→Prop) n (st:St)=>∃v1 ex,QeI N a0 n v1=some ex/\Q ex/\((∃w128,st.n=19/\st.t 1=vi v1/\st.t 2=.ept 128 w128 6 0 0/\st.s 128=some (w128,.arr true 27 6 [e27 a0] 0)))
abbrev QhM:=λN a0 a1 (Q:(Ex Int Unit)→Prop) n (st:St)=>∃v1 ex,QbA N a0 a1 n v1=some ex/\Q ex/\((st.n=19/\st.t 0=s3 a0/\st.t 1=vi a1/\st.t 7=vi a0.length/\st.t 8=vi v1))
abbrev Qme:=λN a0 (Q:(List IX)→Prop) n (st:St)=>∃v1 v2 ex,QcA N a0 n v1 v2=some ex/\Q ex/\((∃w1344,st.n=54/\st.s 1344=some (w1344,.arr false 318 2 (v2.map Xhp) 0)/\st.t 3=.osl 1344 w1344 2 0 v2.length/\st.t 7=Ye a0/\st.t 8=vi a0.length/\st.t 9=vi v1)\/((st.n=54/\st.t 3=.nsl/\st.t 7=Ye a0/\st.t 8=vi a0.length/\st.t 9=vi v1)/\v2=[]))
abbrev Qk6:=λN a0 a1 (Q:(Ex Bool Unit)→Prop) n (st:St)=>∃v1 ex,Qd3 N a0 a1 n v1=some ex/\Q ex/\((∃w128 w192,st.n=87/\st.t 2=.ept 128 w128 3 0 0/\st.t 3=.ept 192 w192 3 0 0/\st.t 5=vi v1/\st.s 128=some (w128,.arr true 32 3 [e32 a0] 0)/\st.s 192=some (w192,.arr true 32 3 [e32 a1] 0)))
abbrev Qk7:=λN a0 a1 (Q:(Ex Bool Unit)→Prop) n (st:St)=>∃v5 ex,Qd4 N a0 a1 n v5=some ex/\Q ex/\((∃w128 w192,st.n=87/\st.t 2=.ept 128 w128 3 0 0/\st.t 3=.ept 192 w192 3 0 0/\st.t 6=vi v5/\st.s 128=some (w128,.arr true 32 3 [e32 a0] 0)/\st.s 192=some (w192,.arr true 32 3 [e32 a1] 0)))
abbrev Qk8:=λN a0 a1 (Q:(Ex Bool Unit)→Prop) n (st:St)=>∃v9 ex,Qd5 N a0 a1 n v9=some ex/\Q ex/\((∃w128 w192,st.n=87/\st.t 2=.ept 128 w128 3 0 0/\st.t 3=.ept 192 w192 3 0 0/\st.t 7=vi v9/\st.s 128=some (w128,.arr true 32 3 [e32 a0] 0)/\st.s 192=some (w192,.arr true 32 3 [e32 a1] 0)))
abbrev Qk9:=λN a0 a1 (Q:(Ex Bool Unit)→Prop) n (st:St)=>∃v1 ex,Qd7 N a0 a1 n v1=some ex/\Q ex/\((st.n=26/\st.t 0=s84 a0/\st.t 1=s84 a1/\st.t 5=vi v1))
def g4:(∀N a0,OK (Qb4 N a0) 74 [.agg (e35 a0)] [] (λr=>.v (.bool r)) λr=>[])/\(∀N a0 a1,OK (QcO N a0 a1) 75 [s58 a0,vu a1] [] (λr=>.v (.bool r)) λr=>[])/\(∀N a0 a1,OK (Qfs N a0 a1) 312 [.agg (e27 a0),vi a1] [] (λr=>vi r) λr=>[])/\(∀N a0 a1,OK (QgD N a0 a1) 228 [.agg (K0 a0),vi a1] [] (λr=>.v (.bool r)) λr=>[])/\(∀N a0 a1 a2 a3 a4,OK (Qdt N a0 a1 a2 a3 a4) 242 [Ye a0,vi a1,vi a2,.agg (XQ a3),.agg (XQ a4)] [] (λr=>.tup [.fsl 175 4 (r.1.map XQ),vi r.2]) λr=>[])/\(∀N a0 a1,OK (Qc2 N a0 a1) 243 [.agg (e65 a0),s58 a1] [] (λr=>.v (.bool r)) λr=>[])/\(∀N a0,OK (QcX N a0) 167 [Ye a0] [] (λr=>vi r) λr=>[])/\(∀N a0,OK (Qc4 N a0) 113 [.agg (Xmx a0)] [] (λr=>.v (.bool r)) λr=>[])/\(∀N a0,OK (Qcc N a0) 199 [XjE a0] [] (λr=>s58 r) λr=>[])/\(∀N a0 a1,OK (Qg6 N a0 a1) 310 [.agg (e27 a0),vi a1] [] (λr=>vi r) λr=>[])/\(∀N a0 a1,OK (Qef N a0 a1) 303 [s3 a0,vi a1] [] (λr=>vi r) λr=>[])/\(∀N a0,OK (QhB N a0) 292 [Ye a0] [] (λr=>XmC r) λr=>[])/\(∀N a0 a1,OK (Qhb N a0 a1) 34 [.agg (e32 a0),.agg (e32 a1)] [] (λr=>.v (.bool r)) λr=>[])/\(∀N a0 a1,OK (Qhc N a0 a1) 36 [s84 a0,s84 a1] [] (λr=>.v (.bool r)) λr=>[]):=by
 refine⟨λN _=>rk Tryz.f74 [.tmp 2] [] 39 ?_,λN _ _=>rk Tryz.f75 [.tmp 4] [] 18 ?_,λN _ _=>rk Tryz.f312 [.tmp 4] [] 15 ?_,λN _ _=>rk Tryz.f228 [.tmp 4] [] 20 ?_,λN _ _ _ _ _=>rk Tryz.f242 [.tmp 10,.tmp 11] [1920] 57 ?_,λN _ _=>rk Tryz.f243 [.tmp 4] [] 21 ?_,λN _=>rk Tryz.f167 [.tmp 2] [] 20 ?_,λN _=>rk Tryz.f113 [.tmp 2] [] 51 ?_,λN _=>rk Tryz.f199 [.tmp 2] [] 19 ?_,λN _ _=>rk Tryz.f310 [.tmp 4] [] 19 ?_,λN _ _=>rk Tryz.f303 [.tmp 4] [] 19 ?_,λN _=>rk Tryz.f292 [.tmp 2] [] 54 ?_,λN _ _=>rk Tryz.f34 [.tmp 4] [] 87 ?_,λN _ _=>rk Tryz.f36 [.tmp 4] [] 26 ?_⟩<;>(rintro _ hw r hr C _ rfl hwf hf;simp only[Tryz.f74,Tryz.f75,Tryz.f312,Tryz.f228,Tryz.f242,Tryz.f243,Tryz.f167,Tryz.f113,Tryz.f199,Tryz.f310,Tryz.f303,Tryz.f292,Tryz.f34,Tryz.f36,Option.get!];(first|rw[Qb4]at hr|rw[QcO]at hr|rw[Qfs]at hr|rw[QgD]at hr|rw[Qdt]at hr|rw[Qc2]at hr|rw[QcX]at hr|rw[Qc4]at hr|rw[Qcc]at hr|rw[Qg6]at hr|rw[Qef]at hr|rw[QhB]at hr|rw[Qhb]at hr|rw[Qhc]at hr);repeat' first
 |(refine El.el hr ?_;clear hr;intro hr)
 |(with_reducible intro h;refine Xz hr h ?_;clear hr;intro hr)
 |with_reducible intro _
 |(refine Xn hr ?_;rintro rfl;have hr:=hk;clear hk)
 |simp only[go_sem,simprocAttr,Xtk,E,hl3,Xu,ZO,XU,Yl,YD,Xj,XaD,XaE]
 |(with_reducible first|apply Xi|apply Xh|apply Xq|apply Xs|apply Xt)
 |((first|with_reducible refine Yo hr ag ?_ ?_|(with_reducible refine Yk hr ?_ ?_;rotate_left;intro p;rotate_right));(·simp only[go_sem,simprocAttr]);intro hp hn hd hr;(try have hl3:=hd _ e3);(try simp only[go_sem,simprocAttr]at hl3);(try have Xu:=hd _ e58);(try simp only[go_sem,simprocAttr]at Xu);(try have ZO:=hd _ e84);(try simp only[go_sem,simprocAttr]at ZO);(try have XU:=hd _ ZN);(try simp only[go_sem,simprocAttr]at XU);(try have Yl:=hd _ Zs);(try simp only[go_sem,simprocAttr]at Yl);(try have YD:=hd _ K2);(try simp only[go_sem,simprocAttr]at YD);(try have Xj:=hd _ XQ);(try simp only[go_sem,simprocAttr]at Xj);(try have XaD:=hd _ Vp);(try simp only[go_sem,simprocAttr]at XaD);(try have XaE:=hd _ Xhp);(try simp only[go_sem,simprocAttr]at XaE))
 |(refine Xr ?_ ?_;.first|assumption|omega)
 |(with_reducible refine lp (Qj0 N _) hr N ?_ (λex hq hk=>⟨_,ex,hq,hk,?_⟩) _;clear hr;(try clear E);rintro n1 st ⟨v1,ex,hr,hk,⟨_,E⟩⟩<;>(obtain _|n1:=n1<;>rw[QcM]at hr))
 |refine⟨_,Wy _,_,_,hr,hk,?_⟩
 |(with_reducible refine lp (Qmd N _ _) hr N ?_ (λex hq hk=>⟨_,ex,hq,hk,?_⟩) _;clear hr;(try clear E);rintro n1 st ⟨v1,ex,hr,hk,E⟩<;>(obtain _|n1:=n1<;>rw[Qfg]at hr))
 |(with_reducible refine lp (Qk3 N _) hr N ?_ (λex hq hk=>⟨_,ex,hq,hk,?_⟩) _;clear hr;(try clear E);rintro n1 st ⟨v1,ex,hr,hk,⟨_,E⟩⟩<;>(obtain _|n1:=n1<;>rw[QdQ]at hr))
 |(with_reducible refine lp (Qj1 N _ _) hr N ?_ (λex hq hk=>⟨_,ex,hq,hk,?_⟩) _;clear hr;(try clear E);rintro n1 st ⟨v1,ex,hr,hk,⟨_,E⟩⟩<;>(obtain _|n1:=n1<;>rw[QcQ]at hr))
 |(with_reducible refine lp (Qk4 N _ _ _ _) hr N ?_ (λex hq hk=>⟨_,_,ex,hq,hk,?_⟩) _;clear hr;(try clear E);rintro n1 st ⟨v1,v2,ex,hr,hk,⟨_,_,_,E⟩⟩<;>(obtain _|n1:=n1<;>rw[QdR]at hr))
 |refine⟨_,Wy _,_,_,_,hr,hk,?_⟩
 |(with_reducible refine lp (Qjn N _ _) hr N ?_ (λex hq hk=>⟨_,ex,hq,hk,?_⟩) _;clear hr;(try clear E);rintro n1 st ⟨v1,ex,hr,hk,⟨_,E⟩⟩<;>(obtain _|n1:=n1<;>rw[Qc1]at hr))
 |(with_reducible refine lp (Qj2 N _) hr N ?_ (λex hq hk=>⟨_,_,ex,hq,hk,?_⟩) _;clear hr;(try clear E);rintro n1 st ⟨v1,v2,ex,hr,hk,E⟩<;>(obtain _|n1:=n1<;>rw[Qbx]at hr))
 |(with_reducible refine lp (QhL N _) hr N ?_ (λex hq hk=>⟨_,_,ex,hq,hk,?_⟩) _;clear hr;(try clear E);rintro n1 st ⟨v1,v2,ex,hr,hk,⟨_,E⟩⟩<;>(obtain _|n1:=n1<;>rw[Qa6]at hr))
 |(with_reducible refine lp (QiG N _) hr N ?_ (λex hq hk=>⟨_,_,ex,hq,hk,?_⟩) _;clear hr;(try clear E);rintro n1 st ⟨v1,v2,ex,hr,hk,(⟨_,E⟩|⟨E,z0⟩)⟩<;>(try subst z0)<;>(obtain _|n1:=n1<;>rw[Qc9]at hr))
 |(with_reducible refine lp (Qk5 N _) hr N ?_ (λex hq hk=>⟨_,ex,hq,hk,?_⟩) _;clear hr;(try clear E);rintro n1 st ⟨v1,ex,hr,hk,⟨_,E⟩⟩<;>(obtain _|n1:=n1<;>rw[QeI]at hr))
 |(with_reducible refine lp (QhM N _ _) hr N ?_ (λex hq hk=>⟨_,ex,hq,hk,?_⟩) _;clear hr;(try clear E);rintro n1 st ⟨v1,ex,hr,hk,E⟩<;>(obtain _|n1:=n1<;>rw[QbA]at hr))
 |(with_reducible refine lp (Qme N _) hr N ?_ (λex hq hk=>⟨_,_,ex,hq,hk,?_⟩) _;clear hr;(try clear E);rintro n1 st ⟨v1,v2,ex,hr,hk,(⟨_,E⟩|⟨E,z0⟩)⟩<;>(try subst z0)<;>(obtain _|n1:=n1<;>rw[QcA]at hr))
 |(with_reducible refine lp (Qk6 N _ _) hr N ?_ (λex hq hk=>⟨_,ex,hq,hk,?_⟩) _;clear hr;(try clear E);rintro n1 st ⟨v1,ex,hr,hk,⟨_,_,E⟩⟩<;>(obtain _|n1:=n1<;>rw[Qd3]at hr))
 |(with_reducible refine lp (Qk7 N _ _) hr N ?_ (λex hq hk=>⟨_,ex,hq,hk,?_⟩) _;clear hr;(try clear E);rintro n2 st ⟨v5,ex,hr,hk,⟨_,_,E⟩⟩<;>(obtain _|n2:=n2<;>rw[Qd4]at hr))
 |(with_reducible refine lp (Qk8 N _ _) hr N ?_ (λex hq hk=>⟨_,ex,hq,hk,?_⟩) _;clear hr;(try clear E);rintro n3 st ⟨v9,ex,hr,hk,⟨_,_,E⟩⟩<;>(obtain _|n3:=n3<;>rw[Qd5]at hr))
 |(with_reducible refine lp (Qk9 N _ _) hr N ?_ (λex hq hk=>⟨_,ex,hq,hk,?_⟩) _;clear hr;(try clear E);rintro n1 st ⟨v1,ex,hr,hk,E⟩<;>(obtain _|n1:=n1<;>rw[Qd7]at hr))
 |refine dc 243 4 hf 12 [(0,242,[]),(0,241,[]),(3,240,[]),(7,240,[]),(0,15,[]),(16,15,[]),(48,15,[]),(112,15,[]),(255,0,[])] ?_
 |refine dc 292 8 hf 30 [(0,0,[]),(1,0,[]),(3,0,[]),(7,3042,[]),(7,3041,[]),(31,3040,[]),(63,3040,[]),(127,3040,[]),(7,2143,[]),(7,2111,[]),(775,2079,[]),(1799,2079,[]),(3847,2079,[]),(8191,2048,[]),(7,2047,[]),(32767,0,[]),(65535,0,[]),(131071,0,[])] ?_
 |refine dc 34 6 hf 40 [(0,996,[]),(1,996,[]),(0,995,[]),(7,992,[]),(15,992,[]),(0,159,[]),(32,159,[]),(0,127,[]),(224,31,[]),(480,31,[]),(1023,0,[])] ?_
 |refine dc 34 11 hf 58 [(0,996,[]),(1,996,[]),(0,995,[]),(7,992,[]),(15,992,[]),(0,159,[]),(32,159,[]),(0,127,[]),(224,31,[]),(480,31,[]),(1023,0,[])] ?_
 |refine dc 34 16 hf 76 [(0,996,[]),(1,996,[]),(0,995,[]),(7,992,[]),(15,992,[]),(0,159,[]),(32,159,[]),(0,127,[]),(224,31,[]),(480,31,[]),(1023,0,[])] ?_
 |refine dc 36 6 hf 17 [(0,242,[]),(0,241,[]),(3,240,[]),(7,240,[]),(0,47,[]),(0,31,[]),(48,15,[]),(112,15,[]),(255,0,[])] ?_
 |(refine Xn hr ?_;rintro rfl;with_reducible refine XN ?_)
 |exact Yv hr
 |((first|refine Xz (c:=true) hr rfl ?_|refine Xz (c:=false) hr rfl ?_|refine Xz hr ag ?_);intro hr)
 |fail)
abbrev Qm6:=g4.1
abbrev Qpe:=g4.2.1
abbrev Qoi:=g4.2.2.1
abbrev Qm7:=g4.2.2.2.1
abbrev Qoj:=g4.2.2.2.2.1
abbrev Qmf:=g4.2.2.2.2.2.1
abbrev Qm8:=g4.2.2.2.2.2.2.1
abbrev Qih:=g4.2.2.2.2.2.2.2.1
abbrev Qj3:=g4.2.2.2.2.2.2.2.2.1
abbrev Qok:=g4.2.2.2.2.2.2.2.2.2.1
abbrev Qii:=g4.2.2.2.2.2.2.2.2.2.2.1
abbrev Qpf:=g4.2.2.2.2.2.2.2.2.2.2.2.1
abbrev Qol:=g4.2.2.2.2.2.2.2.2.2.2.2.2.1
abbrev Qom:=g4.2.2.2.2.2.2.2.2.2.2.2.2.2
attribute [instance] Qm6 Qpe Qoi Qm7 Qoj Qmf Qm8 Qih Qj3 Qok Qii Qpf Qol Qom
def g2:(∀N a0,OK (QaL N a0) 86 [.agg (e23 a0)] [] (λr=>.v (.bool r)) λr=>[])/\(∀N a0,OK (QgZ N a0) 143 [vi a0] [] (λr=>.v (.bool r)) λr=>[])/\(∀N a0 a1 a2,OK (QfI N a0 a1 a2) 315 [.agg (e27 a0),vi a1,vi a2] [] (λr=>vu r) λr=>[])/\(∀N a0,OK (QcF N a0) 224 [vu a0] [] (λr=>.tup [vu r.1,vi r.2]) λr=>[])/\(∀N a0,OK (Qht N a0) 294 [.agg (XoL a0)] [] (λr=>.v (.bool r)) λr=>[])/\(∀N a0 a1 a2 a3 a4,OK (QeF N a0 a1 a2 a3 a4) 105 [.agg (e38 a0),.agg (e38 a1),vi a2,vu a3,vi a4] [] (λr=>.agg (Xqt r)) λr=>[])/\(∀N a0,OK (QfN N a0) 116 [.agg (Zs a0)] [] (λr=>.v (.bool r)) λr=>[])/\(∀N a1,OK (Qbj N a1) 123 [.nsl,vi a1] [] (λr=>.fsl 58 1 (r.map e58)) λr=>[])/\(∀N a0,OK (QbV N a0) 237 [.agg (Xgn a0)] [] (λr=>.v (.bool r)) λr=>[])/\(∀N a0 a1 a2,OK (Qe6 N a0 a1 a2) 240 [s58 a0,vu a1,vi a2] [] (λr=>.tup [vi r.1,.v (.bool r.2)]) λr=>[])/\(∀N a0,OK (Qew N a0) 279 [vu a0] [] (λr=>.v (.bool r)) λr=>[])/\(∀N a0,OK (Qaj N a0) 58 [vi a0] [] (λr=>.tup []) λr=>[]):=by
 refine⟨λN _=>rk Tryz.f86 [.tmp 2] [] 27 ?_,λN _=>rk Tryz.f143 [.tmp 2] [] 9 ?_,λN _ _ _=>rk Tryz.f315 [.tmp 6] [] 16 ?_,λN _=>rk Tryz.f224 [.tmp 2,.tmp 3] [] 9 ?_,λN _=>rk Tryz.f294 [.tmp 2] [] 31 ?_,λN _ _ _ _ _=>rk Tryz.f105 [.cell 10 169] [] 44 ?_,λN _=>rk Tryz.f116 [.tmp 2] [] 21 ?_,λN _=>rk Tryz.f123 [.tmp 4] [1408] 27 ?_,λN _=>rk Tryz.f237 [.tmp 2] [] 11 ?_,λN _ _ _=>rk Tryz.f240 [.tmp 6,.tmp 7] [] 29 ?_,λN _=>rk Tryz.f279 [.tmp 2] [] 6 ?_,λN _=>rk Tryz.f58 [] [] 7 ?_⟩<;>(rintro _ hw r hr C _ rfl hwf hf;simp only[Tryz.f86,Tryz.f143,Tryz.f315,Tryz.f224,Tryz.f294,Tryz.f105,Tryz.f116,Tryz.f123,Tryz.f237,Tryz.f240,Tryz.f279,Tryz.f58,Option.get!];(first|rw[QaL]at hr|rw[QgZ]at hr|rw[QfI]at hr|rw[QcF]at hr|rw[Qht]at hr|rw[QeF]at hr|rw[QfN]at hr|rw[Qbj]at hr|rw[QbV]at hr|rw[Qe6]at hr|rw[Qew]at hr|rw[Qaj]at hr);repeat' first
 |(refine El.el hr ?_;clear hr;intro hr)
 |(with_reducible intro h;refine Xz hr h ?_;clear hr;intro hr)
 |with_reducible intro _
 |simp only[go_sem,simprocAttr,Wj,Wk,Wz]
 |(with_reducible first|apply Xi|apply Xh|apply Xq)
 |(refine Xr ?_ ?_;.first|assumption|omega)
 |(refine Xn hr ?_;rintro rfl;with_reducible refine XN ?_)
 |exact Yv hr
 |fail)
abbrev Qjo:=g2.1
abbrev Qon:=g2.2.1
abbrev Qla:=g2.2.2.1
abbrev Qlb:=g2.2.2.2.1
abbrev Qm9:=g2.2.2.2.2.1
abbrev Qlc:=g2.2.2.2.2.2.1
abbrev Qld:=g2.2.2.2.2.2.2.1
abbrev QgX:=g2.2.2.2.2.2.2.2.1
abbrev QiH:=g2.2.2.2.2.2.2.2.2.1
abbrev Qna:=g2.2.2.2.2.2.2.2.2.2.1
abbrev Qi1:=g2.2.2.2.2.2.2.2.2.2.2.1
abbrev Qmg:=g2.2.2.2.2.2.2.2.2.2.2.2
attribute [instance] Qjo Qon Qla Qlb Qm9 Qlc Qld QgX QiH Qna Qi1 Qmg
instance Qj4:∀N(a0:List Wt),OK (Qad N a0) 122 [.isl 175 4 (a0.map XQ)] [] (λr=>.fsl 175 4 (r.map XQ)) λr=>[]:=by
 refineλN a0=>⟨λG hw r hr=>?_⟩
 rw[Qad]at hr;obtain rfl:=WK hr;obtain _|⟨x,l⟩:=a0;refine YW λa cap=>?_;obtain _|a:=a
 all_goals
  refine Yr (fn:=Tryz.f122) (body:=(Tryz.f122.body).get!) (rs:=[.tmp 2]) 1000 [320] 8 ac ac ac ac ac ab λC _ hG hwf=>?_;subst hG;have hw2:=hwf;simp only[WfL,Wf,W4,and_true,Uo,Xc4,Xp]at hw2;simp only[Tryz.f122,Option.get!]
  simp only[go_sem,simprocAttr]
  try refine⟨aa,?_⟩
  with_reducible refine XN ?_
  simp only[go_sem,simprocAttr]
instance Qpg:∀N(a0:List Int),OK (QaI N a0) 135 [.isl 3 1 (a0.map e3)] [] (λr=>.fsl 3 1 (r.map e3)) λr=>[]:=by
 refineλN a0=>⟨λG hw r hr=>?_⟩
 rw[QaI]at hr;obtain rfl:=WK hr;obtain _|⟨x,l⟩:=a0;refine YW λa cap=>?_;obtain _|a:=a
 all_goals
  refine Yr (fn:=Tryz.f135) (body:=(Tryz.f135.body).get!) (rs:=[.tmp 2]) 1000 [320] 8 ac ac ac ac ac ab λC _ hG hwf=>?_;subst hG;have hw2:=hwf;simp only[WfL,Wf,W4,and_true,Uo,Xho,Xp]at hw2;simp only[Tryz.f135,Option.get!]
  simp only[go_sem,simprocAttr]
  try refine⟨aa,?_⟩
  with_reducible refine XN ?_
  simp only[go_sem,simprocAttr]
instance Qjp:∀N(a0:List UT),OK (QaE N a0) 134 [.isl 111 3 (a0.map K2)] [] (λr=>.fsl 111 3 (r.map K2)) λr=>[]:=by
 refineλN a0=>⟨λG hw r hr=>?_⟩
 rw[QaE]at hr;obtain rfl:=WK hr;obtain _|⟨x,l⟩:=a0;refine YW λa cap=>?_;obtain _|a:=a
 all_goals
  refine Yr (fn:=Tryz.f134) (body:=(Tryz.f134.body).get!) (rs:=[.tmp 2]) 1000 [320] 8 ac ac ac ac ac ab λC _ hG hwf=>?_;subst hG;have hw2:=hwf;simp only[WfL,Wf,W4,and_true,Uo,Xc3,Xp]at hw2;simp only[Tryz.f134,Option.get!]
  simp only[go_sem,simprocAttr]
  try refine⟨aa,?_⟩
  with_reducible refine XN ?_
  simp only[go_sem,simprocAttr]
instance Qj5:∀N(a0:List UK),OK (QaR N a0) 133 [.isl 107 3 (a0.map ZN)] [] (λr=>.fsl 107 3 (r.map ZN)) λr=>[]:=by
 refineλN a0=>⟨λG hw r hr=>?_⟩
 rw[QaR]at hr;obtain rfl:=WK hr;obtain _|⟨x,l⟩:=a0;refine YW λa cap=>?_;obtain _|a:=a
 all_goals
  refine Yr (fn:=Tryz.f133) (body:=(Tryz.f133.body).get!) (rs:=[.tmp 2]) 1000 [320] 8 ac ac ac ac ac ab λC _ hG hwf=>?_;subst hG;have hw2:=hwf;simp only[WfL,Wf,W4,and_true,Uo,Xc1,Xp]at hw2;simp only[Tryz.f133,Option.get!]
  simp only[go_sem,simprocAttr]
  try refine⟨aa,?_⟩
  with_reducible refine XN ?_
  simp only[go_sem,simprocAttr]
instance Qmh:∀N(a0:List Int),OK (Qac N a0) 69 [.isl 58 1 (a0.map e58)] [] (λr=>.fsl 58 1 (r.map e58)) λr=>[]:=by
 refineλN a0=>⟨λG hw r hr=>?_⟩
 rw[Qac]at hr;obtain rfl:=WK hr;obtain _|⟨x,l⟩:=a0;refine YW λa cap=>?_;obtain _|a:=a
 all_goals
  refine Yr (fn:=Tryz.f69) (body:=(Tryz.f69.body).get!) (rs:=[.tmp 2]) 1000 [320] 8 ac ac ac ac ac ab λC _ hG hwf=>?_;subst hG;have hw2:=hwf;simp only[WfL,Wf,W4,and_true,Uo,XeU,Xp]at hw2;simp only[Tryz.f69,Option.get!]
  simp only[go_sem,simprocAttr]
  try refine⟨aa,?_⟩
  with_reducible refine XN ?_
  simp only[go_sem,simprocAttr]
end Go.Sx
