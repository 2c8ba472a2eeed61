import Derived.Test.YtjmgebidnekjdaaGreatLF
set_option linter.all false
namespace Go.Sx
open Go.Proofs
set_option maxRecDepth 10000
set_option maxHeartbeats 100000000
abbrev Qin:=λ N a0 (Q:(Ex Bool Unit)→Prop) n (st:St)=>∃ v1 ex,QcL N a0 n v1=some ex/\Q ex/\((∃ w64,st.n=70/\st.t 1=.ept 64 w64 10 0 0/\st.t 3=vi v1/\st.s 64=some (w64,.arr true 42 10 [e42 a0] 0)))
abbrev Qk0:=λ N a0 (Q:Int→Prop) n (st:St)=>∃ v1 ex,Qdh N a0 n v1=some ex/\Q ex/\((∃ w128,st.n=15/\st.t 1=vi v1/\st.t 2=.ept 128 w128 6 0 0/\st.s 128=some (w128,.arr true 27 6 [e27 a0] 0)))
abbrev QjX:=λ N a0 (Q:(Ex Bool Unit)→Prop) n (st:St)=>∃ v1 ex,QcP N a0 n v1=some ex/\Q ex/\((∃ w64,st.n=39/\st.t 1=.ept 64 w64 1 0 0/\st.t 3=vi v1/\st.s 64=some (w64,.arr true 35 1 [[s90 a0.Entries]] 0)))
abbrev Qk1:=λ N a1 a2 a3 a4 (Q:(Ex (List WM × Int) (List WM))→Prop) n (st:St)=>∃ v1 v2 ex,Qdj N a1 a2 a3 a4 n v1 v2=some ex/\Q ex/\((∃ w1920 w512 w576,st.n=57/\st.s 1920=some (w1920,.arr false 136 4 (v2.map Yp) 0)/\st.t 1=vi a1/\st.t 2=vi a2/\st.t 8=.ept 512 w512 4 0 0/\st.t 9=.ept 576 w576 4 0 0/\st.t 12=.osl 1920 w1920 4 0 v2.length/\st.t 13=vi v1/\st.s 512=some (w512,.arr true 136 4 [Yp a3] 0)/\st.s 576=some (w576,.arr true 136 4 [Yp a4] 0)))
abbrev Qk2:=λ N a0 a1 (Q:(Ex Int Unit)→Prop) n (st:St)=>∃ v1 ex,QeO N a0 a1 n v1=some ex/\Q ex/\((∃ w128,st.n=22/\st.t 1=vu a1/\st.t 2=.ept 128 w128 10 0 0/\st.t 5=vi v1/\st.s 128=some (w128,.arr true 42 10 [e42 a0] 0)))
abbrev QlX:=λ N a0 (Q:Int→Prop) n (st:St)=>∃ v1 v2 ex,Qfp N a0 n v1 v2=some ex/\Q ex/\((st.n=14/\st.t 3=vu v1/\st.t 6=vi (if 64 < (if a0 < 0 then 0 else a0) then 64 else (if a0 < 0 then 0 else a0))/\st.t 7=vi v2))
abbrev QhH:=λ N a0 (Q:(Ex Bool Unit)→Prop) n (st:St)=>∃ v1 v2 ex,QaR N a0 n v1 v2=some ex/\Q ex/\((∃ w64,st.n=51/\st.t 1=.ept 64 w64 3 0 0/\st.t 3=vi v1/\st.t 8=s88 a0.Locals.Slots/\st.t 9=vi a0.Locals.Slots.length/\st.t 10=vi v2/\st.s 64=some (w64,.arr true 195 3 [e32 a0.Locals] 0)))
abbrev Qgc:=λ N a0 a1 (Q:(Ex Bool Unit)→Prop) n (st:St)=>∃ v1 ex,Qas N a0 a1 n v1=some ex/\Q ex/\((st.n=26/\st.t 0=s94 a0/\st.t 1=s94 a1/\st.t 12=vi a0.length/\st.t 13=vi v1))
abbrev Qk3:=λ N a0 a1 (Q:(Ex Bool Unit)→Prop) n (st:St)=>∃ v1 ex,Qd9 N a0 a1 n v1=some ex/\Q ex/\((∃ w128 w192,st.n=87/\st.t 2=.ept 128 w128 3 0 0/\st.t 3=.ept 192 w192 3 0 0/\st.t 5=vi v1/\st.s 128=some (w128,.arr true 32 3 [e32 a0] 0)/\st.s 192=some (w192,.arr true 32 3 [e32 a1] 0)))
abbrev Qk4:=λ N a0 a1 (Q:(Ex Bool Unit)→Prop) n (st:St)=>∃ v5 ex,Qea N a0 a1 n v5=some ex/\Q ex/\((∃ w128 w192,st.n=87/\st.t 2=.ept 128 w128 3 0 0/\st.t 3=.ept 192 w192 3 0 0/\st.t 6=vi v5/\st.s 128=some (w128,.arr true 32 3 [e32 a0] 0)/\st.s 192=some (w192,.arr true 32 3 [e32 a1] 0)))
abbrev Qk5:=λ N a0 a1 (Q:(Ex Bool Unit)→Prop) n (st:St)=>∃ v9 ex,Qeb N a0 a1 n v9=some ex/\Q ex/\((∃ w128 w192,st.n=87/\st.t 2=.ept 128 w128 3 0 0/\st.t 3=.ept 192 w192 3 0 0/\st.t 7=vi v9/\st.s 128=some (w128,.arr true 32 3 [e32 a0] 0)/\st.s 192=some (w192,.arr true 32 3 [e32 a1] 0)))
abbrev QjY:=λ N (Q:(List Uj)→Prop) n (st:St)=>∃ v1 v2 ex,QdF N n v1 v2=some ex/\Q ex/\((∃ w320 w128,st.n=21/\st.s 320=some (w320,.arr false 90 3 (v2.map e90) 0)/\st.t 2=.ept 128 w128 1 0 0/\st.t 3=.osl 320 w320 3 0 v2.length/\st.t 4=vi v1/\st.s 128=some (w128,.arr true 35 1 [[.nsl]] 0)))
def g4:(∀ N a0,OK (QeT N a0) 5 [.agg (e42 a0)] [] (λ r=>.v (.bool r)) λ r=>[])/\(∀ N a0 a1,OK (QeW N a0 a1) 271 [.agg (e27 a0),vi a1] [] (λ r=>vi r) λ r=>[])/\(∀ N a0,OK (Qcd N a0) 66 [.agg (e35 a0)] [] (λ r=>.v (.bool r)) λ r=>[])/\(∀ N a0 a1 a2 a3 a4,OK (Qeh N a0 a1 a2 a3 a4) 276 [Y3 a0,vi a1,vi a2,.agg (Yp a3),.agg (Yp a4)] [] (λ r=>.tup [.fsl 136 4 (r.1.map Yp),vi r.2]) λ r=>[])/\(∀ N a0 a1,OK (QfF N a0 a1) 75 [.agg (e42 a0),vu a1] [] (λ r=>vi r) λ r=>[])/\(∀ N a0,OK (Qe3 N a0) 188 [vi a0] [] (λ r=>vu r) λ r=>[])/\(∀ N a0,OK (Qdb N a0) 112 [.agg (Xmy a0)] [] (λ r=>.v (.bool r)) λ r=>[])/\(∀ N a0 a1,OK (QaD N a0 a1) 58 [s94 a0,s94 a1] [] (λ r=>.v (.bool r)) λ r=>[])/\(∀ N a0 a1,OK (Qhc N a0 a1) 76 [.agg (e32 a0),.agg (e32 a1)] [] (λ r=>.v (.bool r)) λ r=>[])/\(∀ N a0,OK (Qew N a0) 79 [.agg (e35 a0)] [] (λ r=>.agg (e35 r)) λ r=>[]):=by
 refine ⟨λ N _=>rk Tryz.f5 [.tmp 2] [] 70 ?_,λ N _ _=>rk Tryz.f271 [.tmp 4] [] 15 ?_,λ N _=>rk Tryz.f66 [.tmp 2] [] 39 ?_,λ N _ _ _ _ _=>rk Tryz.f276 [.tmp 10,.tmp 11] [1920] 57 ?_,λ N _ _=>rk Tryz.f75 [.tmp 4] [] 22 ?_,λ N _=>rk Tryz.f188 [.tmp 2] [] 14 ?_,λ N _=>rk Tryz.f112 [.tmp 2] [] 51 ?_,λ N _ _=>rk Tryz.f58 [.tmp 4] [] 26 ?_,λ N _ _=>rk Tryz.f76 [.tmp 4] [] 87 ?_,λ N _=>rk Tryz.f79 [.cell 2 35] [] 21 ?_⟩<;>(rintro _ hw r hr C _ rfl hwf hf;simp only[Tryz.f5,Tryz.f271,Tryz.f66,Tryz.f276,Tryz.f75,Tryz.f188,Tryz.f112,Tryz.f58,Tryz.f76,Tryz.f79,Option.get!];(first|rw[QeT] at hr|rw[QeW] at hr|rw[Qcd] at hr|rw[Qeh] at hr|rw[QfF] at hr|rw[Qe3] at hr|rw[Qdb] at hr|rw[QaD] at hr|rw[Qhc] at hr|rw[Qew] at hr);repeat' first
 |(refine El.el hr ?_;intro hr)
 |(with_reducible intro h;refine Xx hr h ?_;intro hr)
 |with_reducible intro _
 |(refine Xo hr ?_;rintro rfl;have hr:=hk;clear hk)
 |simp only[go_sem,simprocAttr,E,hl3,Z6,Y2,ZR,Kn,JO,XE]
 |(with_reducible first|apply Xh|apply Xg|apply Xr|apply Xt|apply Xu)
 |((first|with_reducible refine Yn hr (by assumption) ?_ ?_|(with_reducible refine Yk hr ?_ ?_;rotate_left;intro p;rotate_right));(·simp only[go_sem,simprocAttr]);intro hp hn hd hr;(try have hl3:=hd _ e3);(try simp only[go_sem,simprocAttr] at hl3);(try have Z6:=hd _ e74);(try simp only[go_sem,simprocAttr] at Z6);(try have Y2:=hd _ e88);(try simp only[go_sem,simprocAttr] at Y2);(try have ZR:=hd _ e90);(try simp only[go_sem,simprocAttr] at ZR);(try have Kn:=hd _ e94);(try simp only[go_sem,simprocAttr] at Kn);(try have JO:=hd _ e96);(try simp only[go_sem,simprocAttr] at JO);(try have XE:=hd _ Yp);(try simp only[go_sem,simprocAttr] at XE))
 |(refine Xs ?_ ?_;·first|assumption|omega)
 |(with_reducible refine lp (Qin N _) hr N ?_ (λ ex hq hk=>⟨_,ex,hq,hk,?_⟩) _;clear hr;(try clear E);rintro n1 st ⟨v1,ex,hr,hk,⟨_,E⟩⟩<;>(obtain _|n1:=n1<;>rw[QcL] at hr))
 |refine ⟨_,WH _,_,_,hr,hk,?_⟩
 |(with_reducible refine lp (Qk0 N _) hr N ?_ (λ ex hq hk=>⟨_,ex,hq,hk,?_⟩) _;clear hr;(try clear E);rintro n1 st ⟨v1,ex,hr,hk,⟨_,E⟩⟩<;>(obtain _|n1:=n1<;>rw[Qdh] at hr))
 |(with_reducible refine lp (QjX N _) hr N ?_ (λ ex hq hk=>⟨_,ex,hq,hk,?_⟩) _;clear hr;(try clear E);rintro n1 st ⟨v1,ex,hr,hk,⟨_,E⟩⟩<;>(obtain _|n1:=n1<;>rw[QcP] at hr))
 |(with_reducible refine lp (Qk1 N _ _ _ _) hr N ?_ (λ ex hq hk=>⟨_,_,ex,hq,hk,?_⟩) _;clear hr;(try clear E);rintro n1 st ⟨v1,v2,ex,hr,hk,⟨_,_,_,E⟩⟩<;>(obtain _|n1:=n1<;>rw[Qdj] at hr))
 |refine ⟨_,WH _,_,_,_,hr,hk,?_⟩
 |(with_reducible refine lp (Qk2 N _ _) hr N ?_ (λ ex hq hk=>⟨_,ex,hq,hk,?_⟩) _;clear hr;(try clear E);rintro n1 st ⟨v1,ex,hr,hk,⟨_,E⟩⟩<;>(obtain _|n1:=n1<;>rw[QeO] at hr))
 |(with_reducible refine lp (QlX N _) hr N ?_ (λ ex hq hk=>⟨_,_,ex,hq,hk,?_⟩) _;clear hr;(try clear E);rintro n1 st ⟨v1,v2,ex,hr,hk,E⟩<;>(obtain _|n1:=n1<;>rw[Qfp] at hr))
 |(with_reducible refine lp (QhH N _) hr N ?_ (λ ex hq hk=>⟨_,_,ex,hq,hk,?_⟩) _;clear hr;(try clear E);rintro n1 st ⟨v1,v2,ex,hr,hk,⟨_,E⟩⟩<;>(obtain _|n1:=n1<;>rw[QaR] at hr))
 |(with_reducible refine lp (Qgc N _ _) hr N ?_ (λ ex hq hk=>⟨_,ex,hq,hk,?_⟩) _;clear hr;(try clear E);rintro n1 st ⟨v1,ex,hr,hk,E⟩<;>(obtain _|n1:=n1<;>rw[Qas] at hr))
 |(with_reducible refine lp (Qk3 N _ _) hr N ?_ (λ ex hq hk=>⟨_,ex,hq,hk,?_⟩) _;clear hr;(try clear E);rintro n1 st ⟨v1,ex,hr,hk,⟨_,_,E⟩⟩<;>(obtain _|n1:=n1<;>rw[Qd9] at hr))
 |(with_reducible refine lp (Qk4 N _ _) hr N ?_ (λ ex hq hk=>⟨_,ex,hq,hk,?_⟩) _;clear hr;(try clear E);rintro n2 st ⟨v5,ex,hr,hk,⟨_,_,E⟩⟩<;>(obtain _|n2:=n2<;>rw[Qea] at hr))
 |(with_reducible refine lp (Qk5 N _ _) hr N ?_ (λ ex hq hk=>⟨_,ex,hq,hk,?_⟩) _;clear hr;(try clear E);rintro n3 st ⟨v9,ex,hr,hk,⟨_,_,E⟩⟩<;>(obtain _|n3:=n3<;>rw[Qeb] at hr))
 |(with_reducible refine lp (QjY N) hr N ?_ (λ ex hq hk=>⟨_,_,ex,hq,hk,?_⟩) _;clear hr;(try clear E);rintro n1 st ⟨v1,v2,ex,hr,hk,⟨_,_,E⟩⟩<;>(obtain _|n1:=n1<;>rw[QdF] at hr))
 |refine dc 58 6 hf 16 [(0,242,[]),(0,241,[]),(3,240,[]),(7,240,[]),(0,47,[]),(0,31,[]),(48,15,[]),(112,15,[]),(255,0,[])] ?_
 |refine dc 76 6 hf 40 [(0,996,[]),(1,996,[]),(0,995,[]),(7,992,[]),(15,992,[]),(0,159,[]),(32,159,[]),(0,127,[]),(224,31,[]),(480,31,[]),(1023,0,[])] ?_
 |refine dc 76 11 hf 58 [(0,996,[]),(1,996,[]),(0,995,[]),(7,992,[]),(15,992,[]),(0,159,[]),(32,159,[]),(0,127,[]),(224,31,[]),(480,31,[]),(1023,0,[])] ?_
 |refine dc 76 16 hf 76 [(0,996,[]),(1,996,[]),(0,995,[]),(7,992,[]),(15,992,[]),(0,159,[]),(32,159,[]),(0,127,[]),(224,31,[]),(480,31,[]),(1023,0,[])] ?_
 |(refine Xo hr ?_;rintro rfl;with_reducible refine XP ?_)
 |exact Yw hr
 |exact XV hr
 |(apply XW;assumption)
 |((first|refine Xx (c:=true) hr rfl ?_|refine Xx (c:=false) hr rfl ?_|refine Xx hr (by assumption) ?_);intro hr)
 |fail)
abbrev Qjm:=g4.1
abbrev QnT:=g4.2.1
abbrev QmO:=g4.2.2.1
abbrev QnU:=g4.2.2.2.1
abbrev QnV:=g4.2.2.2.2.1
abbrev QoD:=g4.2.2.2.2.2.1
abbrev Qie:=g4.2.2.2.2.2.2.1
abbrev QgL:=g4.2.2.2.2.2.2.2.1
abbrev QnW:=g4.2.2.2.2.2.2.2.2.1
abbrev QmP:=g4.2.2.2.2.2.2.2.2.2
attribute [instance] Qjm QnT QmO QnU QnV QoD Qie QgL QnW QmP
def g2:(∀ N a0 a1,OK (Qaa N a0 a1) 19 [.ept 1000000 0 2 0 0,vi a1] [.arr true 50 2 [[s3 a0.L,vi a0.at_]] 0] (λ r=>vi r.1) λ r=>[.arr true 50 2 [[s3 r.2.L,vi r.2.at_]] 0])/\(∀ N a0,OK (Qg5 N a0) 201 [vi a0] [] (λ r=>.v (.bool r)) λ r=>[])/\(∀ N a0 a1 a2,OK (QfM N a0 a1 a2) 274 [.agg (e27 a0),vi a1,vi a2] [] (λ r=>vu r) λ r=>[])/\(∀ N a0 a1,OK (QeZ N a0 a1) 243 [.agg (KR a0),vu a1] [] (λ r=>.agg (KR r)) λ r=>[])/\(∀ N a0 a1 a2,OK (Qcg N a0 a1 a2) 99 [vi a0,vu a1,vu a2] [] (λ r=>.tup [.agg (e72 r.1),.v (.bool r.2)]) λ r=>[])/\(∀ N a0 a1,OK (QgZ N a0 a1) 173 [.agg (e32 a0),vi a1] [] (λ r=>.agg (e32 r)) λ r=>[])/\(∀ N a0,OK (QaZ N a0) 52 [.agg (e23 a0)] [] (λ r=>.v (.bool r)) λ r=>[])/\(∀ N a0,OK (Qdf N a0) 257 [.agg (Xgh a0)] [] (λ r=>.v (.bool r)) λ r=>[])/\(∀ N a0,OK (Qha N a0) 269 [vu a0] [] (λ r=>.v (.bool r)) λ r=>[])/\(∀ N a0,OK (Qdo N a0) 187 [vu a0] [] (λ r=>.v (.bool r)) λ r=>[])/\(∀ N a0,OK (QfT N a0) 110 [vi a0] [] (λ r=>.v (.bool r)) λ r=>[])/\(∀ N a0 a1,OK (Qd1 N a0 a1) 125 [vu a0,.ept 1000000 0 10 0 0] [.arr true 61 10 [[vi a1.Conf.PageWords,vi a1.Conf.Pages,K8 a1.Things,s88 a1.Locals.Slots,s94 a1.Locals.Scopes,s3 a1.Locals.Issued,s90 a1.Globals.Entries,s90 a1.Weaks.Entries,KS a1.Marks,s76 a1.Roots]] 0] (λ r=>.v (.bool r)) λ r=>[.arr true 61 10 [[vi a1.Conf.PageWords,vi a1.Conf.Pages,K8 a1.Things,s88 a1.Locals.Slots,s94 a1.Locals.Scopes,s3 a1.Locals.Issued,s90 a1.Globals.Entries,s90 a1.Weaks.Entries,KS a1.Marks,s76 a1.Roots]] 0]):=by
 refine ⟨λ N _ _=>rk Tryz.f19 [.tmp 4] [] 48 ?_,λ N _=>rk Tryz.f201 [.tmp 2] [] 9 ?_,λ N _ _ _=>rk Tryz.f274 [.tmp 6] [] 16 ?_,λ N _ _=>rk Tryz.f243 [.cell 4 216] [] 20 ?_,λ N _ _ _=>rk Tryz.f99 [.cell 6 72,.tmp 7] [] 29 ?_,λ N _ _=>rk Tryz.f173 [.cell 4 32] [] 25 ?_,λ N _=>rk Tryz.f52 [.tmp 2] [] 27 ?_,λ N _=>rk Tryz.f257 [.tmp 2] [] 11 ?_,λ N _=>rk Tryz.f269 [.tmp 2] [] 5 ?_,λ N _=>rk Tryz.f187 [.tmp 2] [] 6 ?_,λ N _=>rk Tryz.f110 [.tmp 2] [] 9 ?_,λ N _ _=>rk Tryz.f125 [.tmp 3] [] 10 ?_⟩<;>(rintro _ hw r hr C _ rfl hwf hf;simp only[Tryz.f19,Tryz.f201,Tryz.f274,Tryz.f243,Tryz.f99,Tryz.f173,Tryz.f52,Tryz.f257,Tryz.f269,Tryz.f187,Tryz.f110,Tryz.f125,Option.get!];(first|rw[Qaa] at hr|rw[Qg5] at hr|rw[QfM] at hr|rw[QeZ] at hr|rw[Qcg] at hr|rw[QgZ] at hr|rw[QaZ] at hr|rw[Qdf] at hr|rw[Qha] at hr|rw[Qdo] at hr|rw[QfT] at hr|rw[Qd1] at hr);repeat' first
 |(refine El.el hr ?_;intro hr)
 |(with_reducible intro h;refine Xx hr h ?_;intro hr)
 |with_reducible intro _
 |simp only[go_sem,simprocAttr,hl3,Kn,WC,WR,UM]
 |(with_reducible first|apply Xh|apply Xg|apply Xr|apply Xt|apply Xu)
 |((first|with_reducible refine Yn hr (by assumption) ?_ ?_|(with_reducible refine Yk hr ?_ ?_;rotate_left;intro p;rotate_right));(·simp only[go_sem,simprocAttr,WC,WR,UM]);intro hp hn hd hr;(try have hl3:=hd _ e3);(try simp only[go_sem,simprocAttr] at hl3);(try have Kn:=hd _ e94);(try simp only[go_sem,simprocAttr] at Kn))
 |(refine Xs ?_ ?_;·first|assumption|omega)
 |refine dc 19 4 hf 14 [(0,496,[]),(1,496,[]),(3,496,[]),(7,496,[]),(0,15,[]),(16,15,[]),(48,15,[]),(112,15,[]),(240,15,[]),(511,0,[])] ?_
 |refine dc 19 5 hf 24 [(0,240,[]),(1,240,[]),(3,240,[]),(7,240,[]),(0,15,[]),(16,15,[]),(48,15,[]),(112,15,[]),(255,0,[]),(511,0,[]),(1023,0,[])] ?_
 |refine dc 173 1 hf 5 [(0,1022,[[320],[]]),(0,505,[[],[320]]),(2,505,[[],[320]]),(0,39,[[],[320]]),(8,39,[[],[320]]),(0,31,[[],[320]]),(56,7,[[],[320]]),(120,7,[[],[320]]),(248,7,[[],[320]]),(510,1,[[],[320]]),(1023,0,[[320],[]]),(2047,0,[]),(4095,0,[[128],[]])] ?_
 |(refine Xo hr ?_;rintro rfl;with_reducible refine XP ?_)
 |exact Yw hr
 |exact XV hr
 |(apply XW;assumption)
 |fail)
abbrev QjZ:=g2.1
abbrev QnX:=g2.2.1
abbrev Qk6:=g2.2.2.1
abbrev QnY:=g2.2.2.2.1
abbrev QmQ:=g2.2.2.2.2.1
abbrev QoE:=g2.2.2.2.2.2.1
abbrev Qj0:=g2.2.2.2.2.2.2.1
abbrev QiD:=g2.2.2.2.2.2.2.2.1
abbrev QlY:=g2.2.2.2.2.2.2.2.2.1
abbrev Qik:=g2.2.2.2.2.2.2.2.2.2.1
abbrev Qk7:=g2.2.2.2.2.2.2.2.2.2.2.1
abbrev Qh5:=g2.2.2.2.2.2.2.2.2.2.2.2
attribute [instance] QjZ QnX Qk6 QnY QmQ QoE Qj0 QiD QlY Qik Qk7 Qh5
end Go.Sx
