import Derived.Test.YtmpbhfnjjaocoaaGreatAF
set_option linter.all false
namespace Go.Sx
open Go.Proofs
set_option maxRecDepth 10000
set_option maxHeartbeats 100000000
abbrev Qj5:=λN a0 (Q:(Ex Bool Unit)→Prop) n (st:St)=>∃v1 ex,QcR N a0 n v1=some ex/\Q ex/\((∃w64,st.n=39/\st.t 1=.ept 64 w64 1 0 0/\st.t 3=vi v1/\st.s 64=some (w64,.arr true 35 1 [[K5 a0.e]] 0)))
abbrev Qmi:=λN a0 a1 (Q:(Ex Bool Unit)→Prop) n (st:St)=>∃v1 ex,Qfm N a0 a1 n v1=some ex/\Q ex/\((st.n=18/\st.t 0=s58 a0/\st.t 1=vu a1/\st.t 5=vi v1))
abbrev Qk8:=λN a0 (Q:Int→Prop) n (st:St)=>∃v1 ex,QdV N a0 n v1=some ex/\Q ex/\((∃w128,st.n=15/\st.t 1=vi v1/\st.t 2=.ept 128 w128 6 0 0/\st.s 128=some (w128,.arr true 27 6 [e27 a0] 0)))
abbrev Qj6:=λN a0 a1 (Q:(Ex Bool Unit)→Prop) n (st:St)=>∃v1 ex,QcV N a0 a1 n v1=some ex/\Q ex/\((∃w128,st.n=20/\st.t 1=vi a1/\st.t 2=.ept 128 w128 16 0 0/\st.t 5=vi v1/\st.s 128=some (w128,.arr true 138 16 [K4 a0] 0)))
abbrev Qk9:=λN a1 a2 a3 a4 (Q:(Ex (List Wt × Int) (List Wt))→Prop) n (st:St)=>∃v1 v2 ex,QdW N a1 a2 a3 a4 n v1 v2=some ex/\Q ex/\((∃w1920 w512 w576,st.n=57/\st.s 1920=some (w1920,.arr false 175 4 (v2.map XS) 0)/\st.t 1=vi a1/\st.t 2=vi a2/\st.t 8=.ept 512 w512 4 0 0/\st.t 9=.ept 576 w576 4 0 0/\st.t 12=.osl 1920 w1920 4 0 v2.length/\st.t 13=vi v1/\st.s 512=some (w512,.arr true 175 4 [XS a3] 0)/\st.s 576=some (w576,.arr true 175 4 [XS a4] 0)))
abbrev Qjs:=λN a0 a1 (Q:(Ex Bool Unit)→Prop) n (st:St)=>∃v1 ex,Qc7 N a0 a1 n v1=some ex/\Q ex/\((∃w128,st.n=21/\st.t 1=s58 a1/\st.t 2=.ept 128 w128 10 0 0/\st.t 5=vi v1/\st.s 128=some (w128,.arr true 65 10 [e65 a0] 0)))
abbrev Qj7:=λN a0 (Q:Int→Prop) n (st:St)=>∃v1 v2 ex,Qbx N a0 n v1 v2=some ex/\Q ex/\((st.n=20/\st.t 0=Yg a0/\st.t 3=vi v1/\st.t 4=vi v2))
abbrev QhR:=λN a0 (Q:(Ex Bool Unit)→Prop) n (st:St)=>∃v1 v2 ex,Qa5 N a0 n v1 v2=some ex/\Q ex/\((∃w64,st.n=51/\st.t 1=.ept 64 w64 3 0 0/\st.t 3=vi v1/\st.t 8=XbD a0.l.S/\st.t 9=vi a0.l.S.length/\st.t 10=vi v2/\st.s 64=some (w64,.arr true 180 3 [e32 a0.l] 0)))
abbrev QiL:=λN a0 (Q:(List Int)→Prop) n (st:St)=>∃v1 v2 ex,Qde N a0 n v1 v2=some ex/\Q ex/\((∃w1024,st.n=19/\st.s 1024=some (w1024,.arr false 58 1 (v2.map e58) 0)/\st.t 3=.osl 1024 w1024 1 0 v2.length/\st.t 6=XjY a0/\st.t 7=vi a0.length/\st.t 8=vi v1)\/((st.n=19/\st.t 3=.nsl/\st.t 6=XjY a0/\st.t 7=vi a0.length/\st.t 8=vi v1)/\v2=[]))
abbrev Qla:=λN a0 (Q:Int→Prop) n (st:St)=>∃v1 ex,QeO N a0 n v1=some ex/\Q ex/\((∃w128,st.n=19/\st.t 1=vi v1/\st.t 2=.ept 128 w128 6 0 0/\st.s 128=some (w128,.arr true 27 6 [e27 a0] 0)))
abbrev QhS:=λN a0 a1 (Q:(Ex Int Unit)→Prop) n (st:St)=>∃v1 ex,QbC N a0 a1 n v1=some ex/\Q ex/\((st.n=19/\st.t 0=s3 a0/\st.t 1=vi a1/\st.t 7=vi a0.length/\st.t 8=vi v1))
abbrev Qmj:=λN a0 (Q:(List IY)→Prop) n (st:St)=>∃v1 v2 ex,QcD N a0 n v1 v2=some ex/\Q ex/\((∃w1344,st.n=54/\st.s 1344=some (w1344,.arr false 318 2 (v2.map XhP) 0)/\st.t 3=.osl 1344 w1344 2 0 v2.length/\st.t 7=Yg a0/\st.t 8=vi a0.length/\st.t 9=vi v1)\/((st.n=54/\st.t 3=.nsl/\st.t 7=Yg a0/\st.t 8=vi a0.length/\st.t 9=vi v1)/\v2=[]))
abbrev Qlb:=λN a0 a1 (Q:(Ex Bool Unit)→Prop) n (st:St)=>∃v1 ex,Qd8 N a0 a1 n v1=some ex/\Q ex/\((∃w128 w192,st.n=87/\st.t 2=.ept 128 w128 3 0 0/\st.t 3=.ept 192 w192 3 0 0/\st.t 5=vi v1/\st.s 128=some (w128,.arr true 32 3 [e32 a0] 0)/\st.s 192=some (w192,.arr true 32 3 [e32 a1] 0)))
abbrev Qlc:=λN a0 a1 (Q:(Ex Bool Unit)→Prop) n (st:St)=>∃v5 ex,Qd9 N a0 a1 n v5=some ex/\Q ex/\((∃w128 w192,st.n=87/\st.t 2=.ept 128 w128 3 0 0/\st.t 3=.ept 192 w192 3 0 0/\st.t 6=vi v5/\st.s 128=some (w128,.arr true 32 3 [e32 a0] 0)/\st.s 192=some (w192,.arr true 32 3 [e32 a1] 0)))
abbrev Qld:=λN a0 a1 (Q:(Ex Bool Unit)→Prop) n (st:St)=>∃v9 ex,Qea N a0 a1 n v9=some ex/\Q ex/\((∃w128 w192,st.n=87/\st.t 2=.ept 128 w128 3 0 0/\st.t 3=.ept 192 w192 3 0 0/\st.t 7=vi v9/\st.s 128=some (w128,.arr true 32 3 [e32 a0] 0)/\st.s 192=some (w192,.arr true 32 3 [e32 a1] 0)))
abbrev Qle:=λN a0 a1 (Q:(Ex Bool Unit)→Prop) n (st:St)=>∃v1 ex,Qec N a0 a1 n v1=some ex/\Q ex/\((st.n=26/\st.t 0=s84 a0/\st.t 1=s84 a1/\st.t 5=vi v1))
def g4:(∀N a0,OK (Qb7 N a0) 74 [.agg (e35 a0)] [] (λr=>.v (.bool r)) λr=>[])/\(∀N a0 a1,OK (QcT N a0 a1) 75 [s58 a0,vu a1] [] (λr=>.v (.bool r)) λr=>[])/\(∀N a0 a1,OK (Qfz N a0 a1) 312 [.agg (e27 a0),vi a1] [] (λr=>vi r) λr=>[])/\(∀N a0 a1,OK (QgK N a0 a1) 228 [.agg (K4 a0),vi a1] [] (λr=>.v (.bool r)) λr=>[])/\(∀N a0 a1 a2 a3 a4,OK (Qc6 N a0 a1 a2 a3 a4) 242 [Yg a0,vi a1,vi a2,.agg (XS a3),.agg (XS a4)] [] (λr=>.tup [.fsl 175 4 (r.1.map XS),vi r.2]) λr=>[])/\(∀N a0 a1,OK (Qc8 N a0 a1) 243 [.agg (e65 a0),s58 a1] [] (λr=>.v (.bool r)) λr=>[])/\(∀N a0,OK (Qcx N a0) 167 [Yg a0] [] (λr=>vi r) λr=>[])/\(∀N a0,OK (Qc9 N a0) 113 [.agg (XmL a0)] [] (λr=>.v (.bool r)) λr=>[])/\(∀N a0,OK (Qcg N a0) 199 [XjY a0] [] (λr=>s58 r) λr=>[])/\(∀N a0 a1,OK (Qhe N a0 a1) 310 [.agg (e27 a0),vi a1] [] (λr=>vi r) λr=>[])/\(∀N a0 a1,OK (Qej N a0 a1) 303 [s3 a0,vi a1] [] (λr=>vi r) λr=>[])/\(∀N a0,OK (QhH N a0) 292 [Yg a0] [] (λr=>XmQ r) λr=>[])/\(∀N a0 a1,OK (Qhi N a0 a1) 34 [.agg (e32 a0),.agg (e32 a1)] [] (λr=>.v (.bool r)) λr=>[])/\(∀N a0 a1,OK (Qhj N a0 a1) 36 [s84 a0,s84 a1] [] (λr=>.v (.bool r)) λr=>[]):=by
 refine⟨λN _=>rk Tryz.f74 [.tmp 2] [] 39 ?_,λN _ _=>rk Tryz.f75 [.tmp 4] [] 18 ?_,λN _ _=>rk Tryz.f312 [.tmp 4] [] 15 ?_,λN _ _=>rk Tryz.f228 [.tmp 4] [] 20 ?_,λN _ _ _ _ _=>rk Tryz.f242 [.tmp 10,.tmp 11] [1920] 57 ?_,λN _ _=>rk Tryz.f243 [.tmp 4] [] 21 ?_,λN _=>rk Tryz.f167 [.tmp 2] [] 20 ?_,λN _=>rk Tryz.f113 [.tmp 2] [] 51 ?_,λN _=>rk Tryz.f199 [.tmp 2] [] 19 ?_,λN _ _=>rk Tryz.f310 [.tmp 4] [] 19 ?_,λN _ _=>rk Tryz.f303 [.tmp 4] [] 19 ?_,λN _=>rk Tryz.f292 [.tmp 2] [] 54 ?_,λN _ _=>rk Tryz.f34 [.tmp 4] [] 87 ?_,λN _ _=>rk Tryz.f36 [.tmp 4] [] 26 ?_⟩<;>(rintro _ hw r hr C _ rfl hwf hf;simp only[Tryz.f74,Tryz.f75,Tryz.f312,Tryz.f228,Tryz.f242,Tryz.f243,Tryz.f167,Tryz.f113,Tryz.f199,Tryz.f310,Tryz.f303,Tryz.f292,Tryz.f34,Tryz.f36,Option.get!];(first|rw[Qb7]at hr|rw[QcT]at hr|rw[Qfz]at hr|rw[QgK]at hr|rw[Qc6]at hr|rw[Qc8]at hr|rw[Qcx]at hr|rw[Qc9]at hr|rw[Qcg]at hr|rw[Qhe]at hr|rw[Qej]at hr|rw[QhH]at hr|rw[Qhi]at hr|rw[Qhj]at hr);repeat' first
 |(refine El.el hr ?_;clear hr;intro hr)
 |(with_reducible intro h;refine XB hr h ?_;clear hr;intro hr)
 |with_reducible intro _
 |(refine Xn hr ?_;rintro rfl;have hr:=hk;clear hk)
 |simp only[go_sem,simprocAttr,Xtw,E,hl3,Xu,ZU,XX,Yo,YE,Xj,XaK,XaL]
 |(with_reducible first|apply Xi|apply Xh|apply Xs|apply Xq|apply Xr)
 |((first|with_reducible refine Yq hr ag ?_ ?_|(with_reducible refine Yn hr ?_ ?_;rotate_left;intro p;rotate_right));(·simp only[go_sem,simprocAttr]);intro hp hn hd hr;(try have hl3:=hd _ e3);(try simp only[go_sem,simprocAttr]at hl3);(try have Xu:=hd _ e58);(try simp only[go_sem,simprocAttr]at Xu);(try have ZU:=hd _ e84);(try simp only[go_sem,simprocAttr]at ZU);(try have XX:=hd _ ZT);(try simp only[go_sem,simprocAttr]at XX);(try have Yo:=hd _ Zv);(try simp only[go_sem,simprocAttr]at Yo);(try have YE:=hd _ K6);(try simp only[go_sem,simprocAttr]at YE);(try have Xj:=hd _ XS);(try simp only[go_sem,simprocAttr]at Xj);(try have XaK:=hd _ Vw);(try simp only[go_sem,simprocAttr]at XaK);(try have XaL:=hd _ XhP);(try simp only[go_sem,simprocAttr]at XaL))
 |(refine Xt ?_ ?_;.first|assumption|omega)
 |(with_reducible refine lp (Qj5 N _) hr N ?_ (λex hq hk=>⟨_,ex,hq,hk,?_⟩) _;clear hr;(try clear E);rintro n1 st ⟨v1,ex,hr,hk,⟨_,E⟩⟩<;>(obtain _|n1:=n1<;>rw[QcR]at hr))
 |refine⟨_,Wz _,_,_,hr,hk,?_⟩
 |(with_reducible refine lp (Qmi N _ _) hr N ?_ (λex hq hk=>⟨_,ex,hq,hk,?_⟩) _;clear hr;(try clear E);rintro n1 st ⟨v1,ex,hr,hk,E⟩<;>(obtain _|n1:=n1<;>rw[Qfm]at hr))
 |(with_reducible refine lp (Qk8 N _) hr N ?_ (λex hq hk=>⟨_,ex,hq,hk,?_⟩) _;clear hr;(try clear E);rintro n1 st ⟨v1,ex,hr,hk,⟨_,E⟩⟩<;>(obtain _|n1:=n1<;>rw[QdV]at hr))
 |(with_reducible refine lp (Qj6 N _ _) hr N ?_ (λex hq hk=>⟨_,ex,hq,hk,?_⟩) _;clear hr;(try clear E);rintro n1 st ⟨v1,ex,hr,hk,⟨_,E⟩⟩<;>(obtain _|n1:=n1<;>rw[QcV]at hr))
 |(with_reducible refine lp (Qk9 N _ _ _ _) hr N ?_ (λex hq hk=>⟨_,_,ex,hq,hk,?_⟩) _;clear hr;(try clear E);rintro n1 st ⟨v1,v2,ex,hr,hk,⟨_,_,_,E⟩⟩<;>(obtain _|n1:=n1<;>rw[QdW]at hr))
 |refine⟨_,Wz _,_,_,_,hr,hk,?_⟩
 |(with_reducible refine lp (Qjs N _ _) hr N ?_ (λex hq hk=>⟨_,ex,hq,hk,?_⟩) _;clear hr;(try clear E);rintro n1 st ⟨v1,ex,hr,hk,⟨_,E⟩⟩<;>(obtain _|n1:=n1<;>rw[Qc7]at hr))
 |(with_reducible refine lp (Qj7 N _) hr N ?_ (λex hq hk=>⟨_,_,ex,hq,hk,?_⟩) _;clear hr;(try clear E);rintro n1 st ⟨v1,v2,ex,hr,hk,E⟩<;>(obtain _|n1:=n1<;>rw[Qbx]at hr))
 |(with_reducible refine lp (QhR N _) hr N ?_ (λex hq hk=>⟨_,_,ex,hq,hk,?_⟩) _;clear hr;(try clear E);rintro n1 st ⟨v1,v2,ex,hr,hk,⟨_,E⟩⟩<;>(obtain _|n1:=n1<;>rw[Qa5]at hr))
 |(with_reducible refine lp (QiL N _) hr N ?_ (λex hq hk=>⟨_,_,ex,hq,hk,?_⟩) _;clear hr;(try clear E);rintro n1 st ⟨v1,v2,ex,hr,hk,(⟨_,E⟩|⟨E,z0⟩)⟩<;>(try subst z0)<;>(obtain _|n1:=n1<;>rw[Qde]at hr))
 |(with_reducible refine lp (Qla N _) hr N ?_ (λex hq hk=>⟨_,ex,hq,hk,?_⟩) _;clear hr;(try clear E);rintro n1 st ⟨v1,ex,hr,hk,⟨_,E⟩⟩<;>(obtain _|n1:=n1<;>rw[QeO]at hr))
 |(with_reducible refine lp (QhS N _ _) hr N ?_ (λex hq hk=>⟨_,ex,hq,hk,?_⟩) _;clear hr;(try clear E);rintro n1 st ⟨v1,ex,hr,hk,E⟩<;>(obtain _|n1:=n1<;>rw[QbC]at hr))
 |(with_reducible refine lp (Qmj N _) hr N ?_ (λex hq hk=>⟨_,_,ex,hq,hk,?_⟩) _;clear hr;(try clear E);rintro n1 st ⟨v1,v2,ex,hr,hk,(⟨_,E⟩|⟨E,z0⟩)⟩<;>(try subst z0)<;>(obtain _|n1:=n1<;>rw[QcD]at hr))
 |(with_reducible refine lp (Qlb N _ _) hr N ?_ (λex hq hk=>⟨_,ex,hq,hk,?_⟩) _;clear hr;(try clear E);rintro n1 st ⟨v1,ex,hr,hk,⟨_,_,E⟩⟩<;>(obtain _|n1:=n1<;>rw[Qd8]at hr))
 |(with_reducible refine lp (Qlc N _ _) hr N ?_ (λex hq hk=>⟨_,ex,hq,hk,?_⟩) _;clear hr;(try clear E);rintro n2 st ⟨v5,ex,hr,hk,⟨_,_,E⟩⟩<;>(obtain _|n2:=n2<;>rw[Qd9]at hr))
 |(with_reducible refine lp (Qld N _ _) hr N ?_ (λex hq hk=>⟨_,ex,hq,hk,?_⟩) _;clear hr;(try clear E);rintro n3 st ⟨v9,ex,hr,hk,⟨_,_,E⟩⟩<;>(obtain _|n3:=n3<;>rw[Qea]at hr))
 |(with_reducible refine lp (Qle N _ _) hr N ?_ (λex hq hk=>⟨_,ex,hq,hk,?_⟩) _;clear hr;(try clear E);rintro n1 st ⟨v1,ex,hr,hk,E⟩<;>(obtain _|n1:=n1<;>rw[Qec]at hr))
 |refine dc 243 4 hf 12 [(0,242,[]),(0,241,[]),(3,240,[]),(7,240,[]),(0,15,[]),(16,15,[]),(48,15,[]),(112,15,[]),(255,0,[])] ?_
 |refine dc 292 8 hf 30 [(0,0,[]),(1,0,[]),(3,0,[]),(7,3042,[]),(7,3041,[]),(31,3040,[]),(63,3040,[]),(127,3040,[]),(7,2143,[]),(7,2111,[]),(775,2079,[]),(1799,2079,[]),(3847,2079,[]),(8191,2048,[]),(7,2047,[]),(32767,0,[]),(65535,0,[]),(131071,0,[])] ?_
 |refine dc 34 6 hf 40 [(0,996,[]),(1,996,[]),(0,995,[]),(7,992,[]),(15,992,[]),(0,159,[]),(32,159,[]),(0,127,[]),(224,31,[]),(480,31,[]),(1023,0,[])] ?_
 |refine dc 34 11 hf 58 [(0,996,[]),(1,996,[]),(0,995,[]),(7,992,[]),(15,992,[]),(0,159,[]),(32,159,[]),(0,127,[]),(224,31,[]),(480,31,[]),(1023,0,[])] ?_
 |refine dc 34 16 hf 76 [(0,996,[]),(1,996,[]),(0,995,[]),(7,992,[]),(15,992,[]),(0,159,[]),(32,159,[]),(0,127,[]),(224,31,[]),(480,31,[]),(1023,0,[])] ?_
 |refine dc 36 6 hf 17 [(0,242,[]),(0,241,[]),(3,240,[]),(7,240,[]),(0,47,[]),(0,31,[]),(48,15,[]),(112,15,[]),(255,0,[])] ?_
 |(refine Xn hr ?_;rintro rfl;with_reducible refine XP ?_)
 |exact Yw hr
 |((first|refine XB (c:=true) hr rfl ?_|refine XB (c:=false) hr rfl ?_|refine XB hr ag ?_);intro hr)
 |fail)
abbrev Qnb:=g4.1
abbrev Qpj:=g4.2.1
abbrev Qon:=g4.2.2.1
abbrev Qnc:=g4.2.2.2.1
abbrev Qoo:=g4.2.2.2.2.1
abbrev Qmk:=g4.2.2.2.2.2.1
abbrev Qnd:=g4.2.2.2.2.2.2.1
abbrev Qim:=g4.2.2.2.2.2.2.2.1
abbrev Qj8:=g4.2.2.2.2.2.2.2.2.1
abbrev Qop:=g4.2.2.2.2.2.2.2.2.2.1
abbrev Qin:=g4.2.2.2.2.2.2.2.2.2.2.1
abbrev Qpk:=g4.2.2.2.2.2.2.2.2.2.2.2.1
abbrev Qoq:=g4.2.2.2.2.2.2.2.2.2.2.2.2.1
abbrev Qor:=g4.2.2.2.2.2.2.2.2.2.2.2.2.2
attribute [instance] Qnb Qpj Qon Qnc Qoo Qmk Qnd Qim Qj8 Qop Qin Qpk Qoq Qor
def g2:(∀N a0,OK (QaM N a0) 86 [.agg (e23 a0)] [] (λr=>.v (.bool r)) λr=>[])/\(∀N a0,OK (Qg7 N a0) 143 [vi a0] [] (λr=>.v (.bool r)) λr=>[])/\(∀N a0 a1 a2,OK (QfP N a0 a1 a2) 315 [.agg (e27 a0),vi a1,vi a2] [] (λr=>vu r) λr=>[])/\(∀N a0,OK (QcI N a0) 224 [vu a0] [] (λr=>.tup [vu r.1,vi r.2]) λr=>[])/\(∀N a0,OK (QhA N a0) 294 [.agg (XoY a0)] [] (λr=>.v (.bool r)) λr=>[])/\(∀N a0 a1 a2 a3 a4,OK (QeL N a0 a1 a2 a3 a4) 105 [.agg (e38 a0),.agg (e38 a1),vi a2,vu a3,vi a4] [] (λr=>.agg (XqD r)) λr=>[])/\(∀N a0,OK (QfU N a0) 116 [.agg (Zv a0)] [] (λr=>.v (.bool r)) λr=>[])/\(∀N a1,OK (Qbk N a1) 123 [.nsl,vi a1] [] (λr=>.fsl 58 1 (r.map e58)) λr=>[])/\(∀N a0,OK (QbX N a0) 237 [.agg (XgM a0)] [] (λr=>.v (.bool r)) λr=>[])/\(∀N a0 a1 a2,OK (Qfb N a0 a1 a2) 240 [s58 a0,vu a1,vi a2] [] (λr=>.tup [vi r.1,.v (.bool r.2)]) λr=>[])/\(∀N a0,OK (QeC N a0) 279 [vu a0] [] (λr=>.v (.bool r)) λr=>[])/\(∀N a0,OK (Qaj N a0) 58 [vi a0] [] (λr=>.tup []) λr=>[]):=by
 refine⟨λN _=>rk Tryz.f86 [.tmp 2] [] 27 ?_,λN _=>rk Tryz.f143 [.tmp 2] [] 9 ?_,λN _ _ _=>rk Tryz.f315 [.tmp 6] [] 16 ?_,λN _=>rk Tryz.f224 [.tmp 2,.tmp 3] [] 9 ?_,λN _=>rk Tryz.f294 [.tmp 2] [] 31 ?_,λN _ _ _ _ _=>rk Tryz.f105 [.cell 10 169] [] 44 ?_,λN _=>rk Tryz.f116 [.tmp 2] [] 21 ?_,λN _=>rk Tryz.f123 [.tmp 4] [1408] 27 ?_,λN _=>rk Tryz.f237 [.tmp 2] [] 11 ?_,λN _ _ _=>rk Tryz.f240 [.tmp 6,.tmp 7] [] 29 ?_,λN _=>rk Tryz.f279 [.tmp 2] [] 6 ?_,λN _=>rk Tryz.f58 [] [] 7 ?_⟩<;>(rintro _ hw r hr C _ rfl hwf hf;simp only[Tryz.f86,Tryz.f143,Tryz.f315,Tryz.f224,Tryz.f294,Tryz.f105,Tryz.f116,Tryz.f123,Tryz.f237,Tryz.f240,Tryz.f279,Tryz.f58,Option.get!];(first|rw[QaM]at hr|rw[Qg7]at hr|rw[QfP]at hr|rw[QcI]at hr|rw[QhA]at hr|rw[QeL]at hr|rw[QfU]at hr|rw[Qbk]at hr|rw[QbX]at hr|rw[Qfb]at hr|rw[QeC]at hr|rw[Qaj]at hr);repeat' first
 |(refine El.el hr ?_;clear hr;intro hr)
 |(with_reducible intro h;refine XB hr h ?_;clear hr;intro hr)
 |with_reducible intro _
 |simp only[go_sem,simprocAttr,Wj,Wl,WA]
 |(with_reducible first|apply Xi|apply Xh|apply Xs)
 |(refine Xt ?_ ?_;.first|assumption|omega)
 |(refine Xn hr ?_;rintro rfl;with_reducible refine XP ?_)
 |exact Yw hr
 |fail)
abbrev Qjt:=g2.1
abbrev Qos:=g2.2.1
abbrev Qlf:=g2.2.2.1
abbrev Qlg:=g2.2.2.2.1
abbrev Qne:=g2.2.2.2.2.1
abbrev Qlh:=g2.2.2.2.2.2.1
abbrev Qli:=g2.2.2.2.2.2.2.1
abbrev Qg5:=g2.2.2.2.2.2.2.2.1
abbrev QiM:=g2.2.2.2.2.2.2.2.2.1
abbrev Qnf:=g2.2.2.2.2.2.2.2.2.2.1
abbrev Qi5:=g2.2.2.2.2.2.2.2.2.2.2.1
abbrev Qml:=g2.2.2.2.2.2.2.2.2.2.2.2
attribute [instance] Qjt Qos Qlf Qlg Qne Qlh Qli Qg5 QiM Qnf Qi5 Qml
instance Qj9:∀N(a0:List Wt),OK (Qac N a0) 122 [.isl 175 4 (a0.map XS)] [] (λr=>.fsl 175 4 (r.map XS)) λr=>[]:=by
 refineλN a0=>⟨λG hw r hr=>?_⟩
 rw[Qac]at hr;obtain rfl:=WK hr;obtain _|⟨x,l⟩:=a0;refine YY λa cap=>?_;obtain _|a:=a
 all_goals
  refine Ys (fn:=Tryz.f122) (body:=(Tryz.f122.body).get!) (rs:=[.tmp 2]) 1000 [320] 8 ac ac ac ac ac ab λC _ hG hwf=>?_;subst hG;have hw2:=hwf;simp only[WfL,Wf,W4,and_true,Uo,Xdj,Xp]at hw2;simp only[Tryz.f122,Option.get!]
  simp only[go_sem,simprocAttr]
  try refine⟨aa,?_⟩
  with_reducible refine XP ?_
  simp only[go_sem,simprocAttr]
instance Qpl:∀N(a0:List Int),OK (QaD N a0) 135 [.isl 3 1 (a0.map e3)] [] (λr=>.fsl 3 1 (r.map e3)) λr=>[]:=by
 refineλN a0=>⟨λG hw r hr=>?_⟩
 rw[QaD]at hr;obtain rfl:=WK hr;obtain _|⟨x,l⟩:=a0;refine YY λa cap=>?_;obtain _|a:=a
 all_goals
  refine Ys (fn:=Tryz.f135) (body:=(Tryz.f135.body).get!) (rs:=[.tmp 2]) 1000 [320] 8 ac ac ac ac ac ab λC _ hG hwf=>?_;subst hG;have hw2:=hwf;simp only[WfL,Wf,W4,and_true,Uo,XhO,Xp]at hw2;simp only[Tryz.f135,Option.get!]
  simp only[go_sem,simprocAttr]
  try refine⟨aa,?_⟩
  with_reducible refine XP ?_
  simp only[go_sem,simprocAttr]
instance Qju:∀N(a0:List UU),OK (Qaz N a0) 134 [.isl 111 3 (a0.map K6)] [] (λr=>.fsl 111 3 (r.map K6)) λr=>[]:=by
 refineλN a0=>⟨λG hw r hr=>?_⟩
 rw[Qaz]at hr;obtain rfl:=WK hr;obtain _|⟨x,l⟩:=a0;refine YY λa cap=>?_;obtain _|a:=a
 all_goals
  refine Ys (fn:=Tryz.f134) (body:=(Tryz.f134.body).get!) (rs:=[.tmp 2]) 1000 [320] 8 ac ac ac ac ac ab λC _ hG hwf=>?_;subst hG;have hw2:=hwf;simp only[WfL,Wf,W4,and_true,Uo,Xdi,Xp]at hw2;simp only[Tryz.f134,Option.get!]
  simp only[go_sem,simprocAttr]
  try refine⟨aa,?_⟩
  with_reducible refine XP ?_
  simp only[go_sem,simprocAttr]
instance Qka:∀N(a0:List UM),OK (QaE N a0) 133 [.isl 107 3 (a0.map ZT)] [] (λr=>.fsl 107 3 (r.map ZT)) λr=>[]:=by
 refineλN a0=>⟨λG hw r hr=>?_⟩
 rw[QaE]at hr;obtain rfl:=WK hr;obtain _|⟨x,l⟩:=a0;refine YY λa cap=>?_;obtain _|a:=a
 all_goals
  refine Ys (fn:=Tryz.f133) (body:=(Tryz.f133.body).get!) (rs:=[.tmp 2]) 1000 [320] 8 ac ac ac ac ac ab λC _ hG hwf=>?_;subst hG;have hw2:=hwf;simp only[WfL,Wf,W4,and_true,Uo,Xdg,Xp]at hw2;simp only[Tryz.f133,Option.get!]
  simp only[go_sem,simprocAttr]
  try refine⟨aa,?_⟩
  with_reducible refine XP ?_
  simp only[go_sem,simprocAttr]
instance Qmm:∀N(a0:List Int),OK (Qad N a0) 69 [.isl 58 1 (a0.map e58)] [] (λr=>.fsl 58 1 (r.map e58)) λr=>[]:=by
 refineλN a0=>⟨λG hw r hr=>?_⟩
 rw[Qad]at hr;obtain rfl:=WK hr;obtain _|⟨x,l⟩:=a0;refine YY λa cap=>?_;obtain _|a:=a
 all_goals
  refine Ys (fn:=Tryz.f69) (body:=(Tryz.f69.body).get!) (rs:=[.tmp 2]) 1000 [320] 8 ac ac ac ac ac ab λC _ hG hwf=>?_;subst hG;have hw2:=hwf;simp only[WfL,Wf,W4,and_true,Uo,Xfd,Xp]at hw2;simp only[Tryz.f69,Option.get!]
  simp only[go_sem,simprocAttr]
  try refine⟨aa,?_⟩
  with_reducible refine XP ?_
  simp only[go_sem,simprocAttr]
end Go.Sx
