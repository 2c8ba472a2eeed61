import Derived.Test.YtokkmapiallffaaGreatWG7
set_option linter.all false
namespace Go.Sx
open Go.Proofs Tryz
set_option maxRecDepth 10000
set_option maxHeartbeats 100000000
def g27:(∀N(a0:Wh)(a1:Int),O1 (Qd9 N a0 a1) 297 [.agg (e28 a0),vi a1] (λr=>.agg (XqH r)))/\(∀N(a0:Wh)(a1:Int)(a2:Int)(a3:Int),O1 (Qci N a0 a1 a2 a3) 199 [.agg (e28 a0),vu a1,vi a2,vu a3] (λr=>.tup [.agg (e28 r.1),vi r.2]))/\(∀N(a0:WQ)(a1:Int)(a2:Int)(a3:Int)(a4:Int)(a5:Bool),O1 (QfC N a0 a1 a2 a3 a4 a5) 123 [.agg (e42 a0),vi a1,vu a2,vu a3,vu a4,.v (.bool a5)] (λr=>vi r))/\(∀N(a0:Wh)(a1:Int)(a2:Int),O1 (Qhf N a0 a1 a2) 142 [.agg (e28 a0),vu a1,vi a2] (λr=>.tup [.agg (e28 r.1),vi r.2]))/\(∀N(a0:Wh)(a1:Wx),O1 (Qhh N a0 a1) 38 [.agg (e28 a0),.agg (e59 a1)] (λr=>.tup [.agg (e28 r.1),vu r.2.1,vi r.2.2])):=by
 refine⟨λN _ _=>rk f297 ?_,λN _ _ _ _=>rk f199 ?_,λN _ _ _ _ _ _=>rk f123 ?_,λN _ _ _=>rk f142 ?_,λN _ _=>rk f38 ?_⟩<;>(rintro _ hw r hr C _ rfl hwf hf;have hse:=@Z3 _ hw;simp only[f297,f199,f123,f142,f38,Option.get!,Qd9,Qci,QfC,Qhf,Qhh]at hr⊢;repeat' first
 |(refine El.el hr ?_;clear hr;intro hr)
 |(with_reducible intro h;refine XJ hr h ?_;clear hr;intro hr)
 |with_reducible intro _
 |simp only[go_sem,simprocAttr,Xk,hse]
 |(with_reducible first|apply Xj|apply Xi|apply Xw|apply Xs|apply Xt)
 |((first|with_reducible refine Yy hr ah ?_ ?_|(with_reducible refine Yr hr ?_ ?_;rotate_left;intro p;rotate_right));(·simp only[go_sem,simprocAttr,hse]);intro hp hn hd hr;(try have Xk:=hd _ XX;simp only[go_sem,simprocAttr]at Xk))
 |(refine Xx ?_ ?_;.first|assumption|omega)
 |(with_reducible first|refine CallX.c ?_ _|refine OK.c hr hw ?_ (λy hr=>?_) _|refine OK.d hr hw ?_ (λy hr=>?_) _)
 |refine dq 38 3 hf [(0,[],[448,512]),(1,[],[448,512]),(2,[],[448,512]),(3,[],[448,512]),(4,[],[448,512]),(5,[],[448,512]),(6,[],[448,512]),(7,[],[448,512]),(8,[448],[512]),(9,[512],[448]),(10,[448],[]),(11,[512],[])] ?_
 |refine dp ?_
 |(refine Xp hr ?_;rintro rfl;with_reducible refine XT ?_)
 |exact YH hr)
abbrev Qm3:=g27.1
abbrev Qjb:=g27.2.1
abbrev Qkl:=g27.2.2.1
abbrev QnA:=g27.2.2.2.1
abbrev QnB:=g27.2.2.2.2
attribute [instance] Qm3 Qjb Qkl QnA QnB
def Iwl(N:Nat)(a0:Wh)(a1:Int)(p1:Wr)(r:List UV × Int)(l kk vh vi v4 v5 v6:Nat)(rc:Loop)(n:Nat)(st:St):Prop:=
  ∃(at_:Int) (out:List UV) (vp:Nat),Qb0 N a0 a1 p1 n at_ out = some r /\ st.n = 58 /\ st.t 0 = .clo (.yield l) [] [] /\ st.t 1 = .ept 51328 vh 6 0 0 /\ st.t 2 = .ept 51392 vi 1 0 0 /\ st.t 4 = .ept 25856 vp 4 0 0 /\ st.t 5 = .v (.int .i64 at_) /\
    st.s 51328 = some (vh,.arr true 28 6 [e28 a0] 0) /\ st.s 51392 = some (vi,.arr true 3 1 [[.v (.int .i64 a1)]] 0) /\ st.s 25856 = some (vp,.arr true 122 4 [XX p1] 0) /\
    st.s 256 = some (v4,.arr true 256 1 [[.nsl]] 0) /\ st.s 320 = some (v5,.arr true 48 1 [[.v (.int .i64 0)]] 0) /\ st.s 1 = some (kk + 1,.raw (.loop rc)) /\ st.s 2 = some (kk,.raw (.deferred (some []))) /\
    ((out = [] /\ st.s 384 = some (v6,.arr true 256 1 [[.nsl]] 0)) \/ ∃vo,st.s 384 = some (v6,.arr true 256 1 [[.osl 26880 vo 4 0 out.length]] 0) /\ st.s 26880 = some (vo,.arr false 262 4 (out.map Xac) 0))
def Qwl(a0:Wh)(a1:Int)(st:St):Prop:=∃vh vi v4 v5 v6:Nat,st.n = 22 /\ st.t 11 = .clo (.func 293) [] [.ept 51328 vh 6 0 0,.ept 51392 vi 1 0 0] /\ st.t 4 = .ept 256 v4 1 0 0 /\ st.t 5 = .ept 320 v5 1 0 0 /\ st.t 6 = .ept 384 v6 1 0 0 /\
    st.s 51328 = some (vh,.arr true 28 6 [e28 a0] 0) /\ st.s 51392 = some (vi,.arr true 3 1 [[.v (.int .i64 a1)]] 0) /\ st.s 256 = some (v4,.arr true 256 1 [[.nsl]] 0) /\ st.s 320 = some (v5,.arr true 48 1 [[.v (.int .i64 0)]] 0) /\ st.s 384 = some (v6,.arr true 256 1 [[.nsl]] 0)
instance Qo5:∀N(a0:Wh)(a1:Int),OK (QfM N a0 a1) 229 [.agg (e28 a0),.v (.int .i64 a1)] [] (λr=>.tup [.isl 262 4 (r.1.map Xac),.v (.int .i64 r.2)]) λr=>[]:=by
 refineλN a0 a1=>⟨λG hw r hr=>?_⟩
 rw [QfM]at hr;refine Xdf (fn:=f229) (body:=(f229.body).get!) (rs:=[.cell 4 256,.cell 5 48]) [] 22 ae ae ae ae ae ac λC x hG hlb hwf a w hrel=>?_;subst hG;simp only [f229,Option.get!];refine Vq 5 _ none a w ?_;simp only [Xdd,UH,Ij,List.cons_append,Ue];refine Xbe XpH [_,_] none a w ?_;refine XcA (Q:=Qwl a0 a1) ?_ [_,_,_] none a w (KI (R':=Zy prog (C.sub 0 x) λ_=>False) (λa w h=>by obtain⟨_,_,hf⟩:=h;exact hf.elim) _ rfl _ _ _ (Yt 1000 _ hrel ?_));rotate_left
 .simp only [go_sem,simprocAttr,UH,Ij,List.cons_append,Ue];refine CallX.inl (f:=274) 800 (fn:=f274) (rs:=[.tmp 4]) (nt:=6) 1000 ae (λx=>?_) _;simp only [f274,Option.get!];simp only [go_sem,simprocAttr];refine⟨7,8,2,3,4,?_,?_,?_,?_,?_,?_,?_,?_,?_,?_⟩ <;> first|rfl|(simp only [go_sem,simprocAttr,e28];done)
 clear hrel a w;rintro sO a w hrel ⟨vh,vi,v4,v5,v6,q0,q1,q2,q3,q4,q5,q6,q7,q8,q9⟩;refine XkW (XrJ (C:=C.sub 0 x) (gf:=293) (caps:=[.ept 51328 vh 6 0 0,.ept 51392 vi 1 0 0]) rfl rfl hrel q1 1 2 ag (fn:=f293) (nt:=58) ae 400 1000 ?_);intro l D rc y hst hpe hps hA hB hsz hkr hkd hO hb0;have hrc:(⟨.ready,none,rc.fn,rc.tmps,rc.params,rc.assign,rc.body,rc.defers⟩:Loop) = rc:=by cases rc;simp only at hst hpe;rw [hst,hpe]
 have hsz2:rc.tmps.size = 22:=hsz.trans q0;-- behind the range
 have fin:∀(S:Heap) (K vo:Nat) (out:List UV) (a':Act) (w':World),r = (out,0) → S 256 = some (v4,.arr true 256 1 [[.nsl]] 0) → S 320 = some (v5,.arr true 48 1 [[.v (.int .i64 0)]] 0) → S 2 = some (sO.k,.raw (.deferred (some []))) →
     ((out = [] /\ S 384 = some (v6,.arr true 256 1 [[.nsl]] 0)) \/ (S 384 = some (v6,.arr true 256 1 [[.osl 26880 vo 4 0 out.length]] 0) /\ S 26880 = some (vo,.arr false 262 4 (out.map Xac) 0))) →
     Rel prog ((C.sub 0 x).mk' y.2 D) ⟨sO.t,S,sO.n,K⟩ a' w' → sem prog (C.sub 0 x) (λa w=>Zy prog (C.sub 0 x) (JM prog [.cell 4 256,.cell 5 48] [] 0 (Eqs (.tup [.isl 262 4 (r.1.map Xac),.v (.int .i64 r.2)]) [])) a w \/
       Xiq prog (C.sub 0 x) (JM prog [.cell 4 256,.cell 5 48] [] 0 (Eqs (.tup [.isl 262 4 (r.1.map Xac),.v (.int .i64 r.2)]) [])) a w) (.blk 0 :: ((Xdd 5 (f229.body).get!).drop 3).map It.code) none a' w':=by
   intro S K vo out a' w' hr g1 g2 g3 g4 hrel'
   simp only [f229,Option.get!,Xdd,List.drop_succ_cons,W3,UH,Ij]
   refine Js (C:=C.sub 0 x) (C':=(C.sub 0 x).mk' y.2 D) (R':=Zy prog ((C.sub 0 x).mk' y.2 D) λst=>st.s 2 = some (sO.k,.raw (.deferred (some []))) /\ JM prog [.cell 4 256,.cell 5 48] [] 0 (Eqs (.tup [.isl 262 4 (r.1.map Xac),.v (.int .i64 r.2)]) []) ⟨st.t,upd st.s 2 (some (sO.k,.raw (.deferred none))),st.n,st.k⟩) rfl ?_ _ ?_ none a' w' (Yt 1000 _ hrel' ?_)
   · exactλa w h=>Or.inr ⟨D,2,sO.k,y.2,hb0,hkd,h⟩
   · rfl
   subst hr
   rcases g4 with⟨rfl,g4⟩|⟨g4,g5⟩
   · simp only [go_sem,simprocAttr,q0,q2,q3,q4,g1,g2,g3,g4]
     with_reducible refine XT ?_
     simp only [go_sem,simprocAttr,Ij]
   · simp only [go_sem,simprocAttr,q0,q2,q3,q4,g1,g2,g3,g4,g5]
     with_reducible refine XT ?_
     simp only [go_sem,simprocAttr]
 simp only [f293,Option.get!]
 repeat' first
   |(refine El.el hr ?_;clear hr;intro hr)
   |(with_reducible intro h;refine XJ hr h ?_;clear hr;intro hr)
   |with_reducible intro _
   |simp only [go_sem,simprocAttr,q5,q6,Xk]
   |(with_reducible first|apply Xj|apply Xi|apply Xw)
   |(refine Xx ?_ ?_;· first|assumption|omega)
   |((with_reducible refine Yr hr ?_ ?_;rotate_left;intro p;rotate_right);(· simp only [go_sem,simprocAttr]);clear hr;intro hp hn hd hr;have Xk:=hd _ XX;simp only [go_sem,simprocAttr]at Xk)
   |fail
 .refine Xp hr ?_;intro hr;refine⟨rc,?_,by rw [hst];simp,.inl ⟨hpe,λa' w' h=>fin _ _ 0 [] a' w' hr.symm ?_ ?_ ?_ (.inl ⟨rfl,?_⟩) h⟩⟩;all_goals first|rfl|(simp only [go_sem,simprocAttr,q7,q8,q9];done)
 all_goals
   clear hn hd Xk hp
   refine LoopG.of (Iwl N a0 a1 p r l sO.k vh vi v4 v5 v6 rc) 1000 N ?_ ?_ _
   · refine⟨0,[],sO.k + 2 + 1 + 1 + 1 + 1 + 1,hr,?_,?_,?_,?_,?_,?_,?_,?_,?_,?_,?_,?_,?_,.inl ⟨rfl,?_⟩⟩ <;> first|rfl|(simp only [go_sem,simprocAttr,q5,q6,q7,q8,q9,e28,XX];done)
   clear hr
   rintro n st ⟨at_,out,vp,hr,f0,f1,f2,f3,f4,f5,f6,f7,f8,f9,f10,f11,f12,hor⟩
   obtain _|n:=n
   · rw [Qb0]at hr;cases hr
   rw [Qb0]at hr
   rcases hor with⟨rfl,g⟩|⟨vo,g,g'⟩
   all_goals
     repeat' first
       |(refine El.el hr ?_;clear hr;intro hr)
       |(with_reducible intro h;refine XJ hr h ?_;clear hr;intro hr)
       |with_reducible intro _
       |simp only [go_sem,simprocAttr,f0,f1,f2,f3,f4,f5,f6,f7,f8,f9,f10,f11,g,q2,q3,q4,hrc,e28,XX,Xac,upd]
       |simp only [go_sem,simprocAttr,g']
       |(with_reducible first|apply Xj|apply Xi|apply Xw)
       |(refine Xx ?_ ?_;· first|assumption|omega)
       |(with_reducible first|refine CallX.c ?_ _|refine OK.c hr hw ?_ (λz hr=>?_) _)
       |(refine YieldX.of (l:=l) (kr:=1) (v:=sO.k + 1) (r:=rc) (p1:=12) (p2:=13) sO.t 22 1000 ?_ hst hA hB hps ag ag rfl hkr hsz2 hO (λx2=>?_) _;· (simp only [go_sem,simprocAttr,f11]))
       |fail
   all_goals first
     | (refine ⟨n, Wz _, _, _, vp, hr, ?_, ?_, ?_, ?_, ?_, ?_, ?_, ?_, ?_, ?_, ?_, ?_, ?_, .inr ?_⟩
        all_goals first
          |rfl
          |(simp only [go_sem,simprocAttr,f1,f2,f3,f4,f6,f7,f8,f9,f10,f11,f12,g,upd,hrc,e28,XX,Xac,WM,UO,IL,Uu,Ij,UH,Ue];done))
     | (refine Xp hr ?_
        intro hr
        refine⟨⟨.done,some .ret,rc.fn,rc.tmps,rc.params,rc.assign,rc.body,rc.defers⟩,?_,by simp,.inr ⟨rfl,λa' w' h=>Or.inr ⟨D,2,sO.k,y.2,hb0,hkd,_,h,?_,?_⟩⟩⟩
        rotate_right
        · subst hr
          simp only [go_sem,simprocAttr,f0,f1,f2,f3,f4,f9,f10,f11,f12,g,q0,q2,q3,q4,upd]
          with_reducible refine XT ?_
          simp only [go_sem,simprocAttr,Ij]
        all_goals first
          |rfl
          |(simp only [go_sem,simprocAttr,f11,f12,upd];done))
     | (refine Xp hr ?_
        intro hr
        refine⟨rc,?_,by rw [hst];simp,.inl ⟨hpe,λa' w' h=>fin _ _ 0 [] a' w' hr.symm ?_ ?_ ?_ (.inl ⟨rfl,?_⟩) h⟩⟩
        all_goals first
          |rfl
          |(simp only [go_sem,simprocAttr,f9,f10,f11,f12,g,upd];done))
     | (refine Xp hr ?_
        intro hr
        refine⟨rc,?_,by rw [hst];simp,.inl ⟨hpe,λa' w' h=>fin _ _ vo out a' w' hr.symm ?_ ?_ ?_ (.inr ⟨?_,?_⟩) h⟩⟩
        all_goals first
          |rfl
          |(simp only [go_sem,simprocAttr,f9,f10,f11,f12,g,g',upd];done))
     |trace_state

abbrev QhY:=λN e c Q n (st:St)=>∃f d,Iv (Qa6 N e c n f d) Q ((∃a b,st.n=42/\st.s 2496=some (a,.arr false 52 1 (d.map e52) 0)/\st.t 1=.ept 64 b 6 0 0/\st.t 4=s52 c.1/\st.t 5=vi c.2/\st.t 6=.osl 2496 a 1 0 d.length/\st.t 7=vi f/\st.s 64=some (b,.arr true 28 6 [e28 e] 0))\/(∃b,(st.n=42/\st.t 1=.ept 64 b 6 0 0/\st.t 4=s52 c.1/\st.t 5=vi c.2/\st.t 6=.nsl/\st.t 7=vi f/\st.s 64=some (b,.arr true 28 6 [e28 e] 0))/\d=[]))
abbrev Qjc:=λN c d b Q n (st:St)=>∃e,Iv (Qcl N c d b n e) Q ((∃a,st.n=58/\st.t 1=vi d/\st.t 3=.ept 192 a 6 0 0/\st.t 13=s52 b/\st.t 14=vi b.length/\st.t 15=vi e/\st.s 192=some (a,.arr true 28 6 [e28 c] 0)))
abbrev Qkm:=λN d e Q n (st:St)=>∃f c,Iv (Qd4 N d e n f c) Q ((∃b a,st.n=40/\st.s 2432=some (b,.arr false 52 1 (c.map e52) 0)/\st.t 5=.ept 320 a 3 0 0/\st.t 7=s52 e.1/\st.t 9=.osl 2432 b 1 0 c.length/\st.t 10=vi f/\st.s 320=some (a,.arr true 59 3 [e59 d.1] 0))\/(∃a,(st.n=40/\st.t 5=.ept 320 a 3 0 0/\st.t 7=s52 e.1/\st.t 9=.nsl/\st.t 10=vi f/\st.s 320=some (a,.arr true 59 3 [e59 d.1] 0))/\c=[]))
def g28:(∀N(a0:Wh),O1 (Qal N a0) 79 [.agg (e28 a0)] (λr=>.tup [s52 r.1,vi r.2]))/\(∀N(a0:Wh)(a1:Int)(a2:List Int),O1 (QfN N a0 a1 a2) 280 [.agg (e28 a0),vi a1,s52 a2] (λr=>.tup [vu r.1,.v (.bool r.2)]))/\(∀N(a0:Wh)(a1:Int),O1 (QgR N a0 a1) 81 [.agg (e28 a0),vu a1] (λr=>s52 r)):=by
 refine⟨λN _=>rk f79 ?_,λN _ _ _=>rk f280 ?_,λN _ _=>rk f81 ?_⟩<;>(rintro _ hw r hr C _ rfl hwf hf;have hse:=@Z3 _ hw;simp only[f79,f280,f81,Option.get!,Qal,QfN,QgR]at hr⊢;repeat' first
 |(refine El.el hr ?_;clear hr;intro hr)
 |(with_reducible intro h;refine XJ hr h ?_;clear hr;intro hr)
 |with_reducible intro _
 |(refine Xp hr ?_;rintro rfl;have hr:=hk;clear hk)
 |simp only[go_sem,simprocAttr,E,XA,Xk,hse]
 |(with_reducible first|apply Xj|apply Xi|apply Xw|apply Xs|apply Xt)
 |((first|with_reducible refine Yy hr ah ?_ ?_|(with_reducible refine Yr hr ?_ ?_;rotate_left;intro p;rotate_right));(·simp only[go_sem,simprocAttr,hse]);intro hp hn hd hr;(try have XA:=hd _ e52;simp only[go_sem,simprocAttr]at XA);(try have Xk:=hd _ XX;simp only[go_sem,simprocAttr]at Xk))
 |(refine Xx ?_ ?_;.first|assumption|omega)
 |(with_reducible first|refine CallX.c ?_ _|refine OK.c hr hw ?_ (λy hr=>?_) _|refine OK.d hr hw ?_ (λy hr=>?_) _)
 |(with_reducible refine lp (QhY N _ _) hr N ?_ (λ_ p q=>⟨_,_,_,p,q,?_⟩) _;rintro n1 st ⟨_,_,_,hr,hk,(⟨_,_,E⟩|⟨_,E,z0⟩)⟩<;>(try subst z0)<;>(obtain _|n1:=n1<;>rw[Qa6]at hr))
 |refine⟨_,Wz _,_,_,_,hr,hk,?_⟩
 |(with_reducible refine lp (Qjc N _ _ _) hr N ?_ (λ_ p q=>⟨_,_,p,q,?_⟩) _;rintro n1 st ⟨_,_,hr,hk,⟨_,E⟩⟩<;>(obtain _|n1:=n1<;>rw[Qcl]at hr))
 |refine⟨_,Wz _,_,_,hr,hk,?_⟩
 |(with_reducible refine lp (Qkm N _ _) hr N ?_ (λ_ p q=>⟨_,_,_,p,q,?_⟩) _;rintro n1 st ⟨_,_,_,hr,hk,(⟨_,_,E⟩|⟨_,E,z0⟩)⟩<;>(try subst z0)<;>(obtain _|n1:=n1<;>rw[Qd4]at hr))
 |refine dq 79 6 hf [(0,[],[512]),(1,[],[512]),(2,[],[512]),(3,[],[512]),(4,[],[512]),(5,[],[512]),(6,[],[512]),(7,[],[512]),(8,[],[512]),(9,[512],[]),(10,[512],[])] ?_
 |refine dp ?_
 |(refine Xp hr ?_;rintro rfl;with_reducible refine XT ?_)
 |exact YH hr
 |((first|refine XJ (c:=true) hr rfl ?_|refine XJ (c:=false) hr rfl ?_|refine XJ hr ah ?_);intro hr))
abbrev Qkn:=g28.1
abbrev QlX:=g28.2.1
abbrev Qm4:=g28.2.2
attribute [instance] Qkn QlX Qm4
end Go.Sx
