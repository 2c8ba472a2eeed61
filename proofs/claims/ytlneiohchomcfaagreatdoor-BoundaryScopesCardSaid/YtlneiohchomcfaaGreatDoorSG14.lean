import Derived.Test.YtlneiohchomcfaaGreatDoorSG12
set_option linter.all false
namespace Go.Sx
open Go.Proofs Tryz
set_option maxRecDepth 10000
set_option maxHeartbeats 100000000
def g27:(∀N(a0:Wk)(a1:Int),O1 (Qes N a0 a1) 243 [.agg (e28 a0),vi a1] (λr=>.agg (Xqz r)))/\(∀N(a0:Wk)(a1:Int)(a2:Int)(a3:Int),O1 (QbN N a0 a1 a2 a3) 186 [.agg (e28 a0),vu a1,vi a2,vu a3] (λr=>.tup [.agg (e28 r.1),vi r.2]))/\(∀N(a0:WM)(a1:Int)(a2:Int)(a3:Int)(a4:Int)(a5:Bool),O1 (QfZ N a0 a1 a2 a3 a4 a5) 110 [.agg (e42 a0),vi a1,vu a2,vu a3,vu a4,.v (.bool a5)] (λr=>vi r))/\(∀N(a0:Wk)(a1:Wv),O1 (QeF N a0 a1) 275 [.agg (e28 a0),.agg (Z7 a1)] (λr=>.tup [.agg (e28 r.1),vu r.2.1,vi r.2.2]))/\(∀N(a0:Wk)(a1:Int)(a2:Int),O1 (QhA N a0 a1 a2) 356 [.agg (e28 a0),vu a1,vi a2] (λr=>.tup [.agg (e28 r.1),vi r.2]))/\(∀N(a0:Wk)(a1:Int),O1 (Qfe N a0 a1) 224 [.agg (e28 a0),vu a1] (λr=>.tup [.agg (Z7 r.1),vi r.2])):=by
 refine⟨λN _ _=>rk f243 ?_,λN _ _ _ _=>rk f186 ?_,λN _ _ _ _ _ _=>rk f110 ?_,λN _ _=>rk f275 ?_,λN _ _ _=>rk f356 ?_,λN _ _=>rk f224 ?_⟩<;>(rintro _ hw r hr C _ rfl hwf hf;have hse:=@ZZ _ hw;simp only[f243,f186,f110,f275,f356,f224,Option.get!,Qes,QbN,QfZ,QeF,QhA,Qfe]at hr⊢;repeat' first
 |(refine El.el hr ?_;clear hr;intro hr)
 |(with_reducible intro h;refine XH hr h ?_;clear hr;intro hr)
 |with_reducible intro _
 |simp only[go_sem,simprocAttr,Xm,hse]
 |(with_reducible first|apply Xi|apply Xh|apply Xt|apply Xx|apply Xy)
 |((first|with_reducible refine Yy hr ag ?_ ?_|(with_reducible refine Yt hr ?_ ?_;rotate_left;intro p;rotate_right));(·simp only[go_sem,simprocAttr,hse]);intro hp hn hd hr;(try have Xm:=hd _ X0;simp only[go_sem,simprocAttr]at Xm))
 |(refine Xu ?_ ?_;.first|assumption|omega)
 |(with_reducible first|refine CallX.c ?_ _|refine OK.c hr hw ?_ (λy hr=>?_) _|refine OK.d hr hw ?_ (λy hr=>?_) _)
 |refine dq 275 3 hf [(0,[],[448,512]),(1,[],[448,512]),(2,[],[448,512]),(3,[],[448,512]),(4,[],[448,512]),(5,[],[448,512]),(6,[],[448,512]),(7,[],[448,512]),(8,[448],[512]),(9,[512],[448]),(10,[448],[]),(11,[512],[])] ?_
 |refine dp ?_
 |(refine Xq hr ?_;rintro rfl;with_reducible refine XQ ?_)
 |exact YE hr)
abbrev Qns:=g27.1
abbrev Qjw:=g27.2.1
abbrev QkF:=g27.2.2.1
abbrev Qn1:=g27.2.2.2.1
abbrev Qn2:=g27.2.2.2.2.1
abbrev Qnt:=g27.2.2.2.2.2
attribute [instance] Qns Qjw QkF Qn1 Qn2 Qnt
def Iwl(N:Nat)(a0:Wk)(a1:Int)(p1:Ws)(r:List UT × Int)(l kk vh vi v4 v5 v6:Nat)(rc:Loop)(n:Nat)(st:St):Prop:=
  ∃(at_:Int) (out:List UT) (vp:Nat),Qb8 N a0 a1 p1 n at_ out = some r /\ st.n = 58 /\ st.t 0 = .clo (.yield l) [] [] /\ st.t 1 = .ept 51328 vh 6 0 0 /\ st.t 2 = .ept 51392 vi 1 0 0 /\ st.t 4 = .ept 25856 vp 4 0 0 /\ st.t 5 = .v (.int .i64 at_) /\
    st.s 51328 = some (vh,.arr true 28 6 [e28 a0] 0) /\ st.s 51392 = some (vi,.arr true 3 1 [[.v (.int .i64 a1)]] 0) /\ st.s 25856 = some (vp,.arr true 139 4 [X0 p1] 0) /\
    st.s 256 = some (v4,.arr true 277 1 [[.nsl]] 0) /\ st.s 320 = some (v5,.arr true 53 1 [[.v (.int .i64 0)]] 0) /\ st.s 1 = some (kk + 1,.raw (.loop rc)) /\ st.s 2 = some (kk,.raw (.deferred (some []))) /\
    ((out = [] /\ st.s 384 = some (v6,.arr true 277 1 [[.nsl]] 0)) \/ ∃vo,st.s 384 = some (v6,.arr true 277 1 [[.osl 26880 vo 4 0 out.length]] 0) /\ st.s 26880 = some (vo,.arr false 283 4 (out.map Xaj) 0))
def Qwl(a0:Wk)(a1:Int)(st:St):Prop:=∃vh vi v4 v5 v6:Nat,st.n = 22 /\ st.t 11 = .clo (.func 330) [] [.ept 51328 vh 6 0 0,.ept 51392 vi 1 0 0] /\ st.t 4 = .ept 256 v4 1 0 0 /\ st.t 5 = .ept 320 v5 1 0 0 /\ st.t 6 = .ept 384 v6 1 0 0 /\
    st.s 51328 = some (vh,.arr true 28 6 [e28 a0] 0) /\ st.s 51392 = some (vi,.arr true 3 1 [[.v (.int .i64 a1)]] 0) /\ st.s 256 = some (v4,.arr true 277 1 [[.nsl]] 0) /\ st.s 320 = some (v5,.arr true 53 1 [[.v (.int .i64 0)]] 0) /\ st.s 384 = some (v6,.arr true 277 1 [[.nsl]] 0)
instance Qpv:∀N(a0:Wk)(a1:Int),OK (Qf9 N a0 a1) 269 [.agg (e28 a0),.v (.int .i64 a1)] [] (λr=>.tup [.isl 283 4 (r.1.map Xaj),.v (.int .i64 r.2)]) λr=>[]:=by
 refineλN a0 a1=>⟨λG hw r hr=>?_⟩
 rw [Qf9]at hr;refine Xdj (fn:=f269) (body:=(f269.body).get!) (rs:=[.cell 4 277,.cell 5 53]) [] 22 ac ac ac ac ac ab λC x hG hlb hwf a w hrel=>?_;subst hG;simp only [f269,Option.get!];refine Vq 5 _ none a w ?_;simp only [Xdh,US,IA,Oi,Ue];refine Xbk Xpx [_,_] none a w ?_;refine XcD (Q:=Qwl a0 a1) ?_ [_,_,_] none a w (KS (R':=Z2 prog (C.sub 0 x) λ_=>False) (λa w h=>by obtain⟨_,_,hf⟩:=h;exact hf.elim) _ rfl _ _ _ (Yz 1000 _ hrel ?_));rotate_left
 .simp only [go_sem,simprocAttr,US,IA,Oi,Ue];refine CallX.inl (f:=299) 800 (fn:=f299) (rs:=[.tmp 4]) (nt:=6) 1000 ac (λx=>?_) _;simp only [f299,Option.get!];simp only [go_sem,simprocAttr];refine⟨7,8,2,3,4,?_,?_,?_,?_,?_,?_,?_,?_,?_,?_⟩ <;> first|rfl|(simp only [go_sem,simprocAttr,e28];done)
 clear hrel a w;rintro sO a w hrel ⟨vh,vi,v4,v5,v6,q0,q1,q2,q3,q4,q5,q6,q7,q8,q9⟩;refine XkZ (XrL (C:=C.sub 0 x) (gf:=330) (caps:=[.ept 51328 vh 6 0 0,.ept 51392 vi 1 0 0]) rfl rfl hrel q1 1 2 ae (fn:=f330) (nt:=58) ac 400 1000 ?_);intro l D rc y hst hpe hps hA hB hsz hkr hkd hO hb0;have hrc:(⟨.ready,none,rc.fn,rc.tmps,rc.params,rc.assign,rc.body,rc.defers⟩:Loop) = rc:=by cases rc;simp only at hst hpe;rw [hst,hpe]
 have hsz2:rc.tmps.size = 22:=hsz.trans q0;-- behind the range
 have fin:∀(S:Heap) (K vo:Nat) (out:List UT) (a':Act) (w':World),r = (out,0) → S 256 = some (v4,.arr true 277 1 [[.nsl]] 0) → S 320 = some (v5,.arr true 53 1 [[.v (.int .i64 0)]] 0) → S 2 = some (sO.k,.raw (.deferred (some []))) →
     ((out = [] /\ S 384 = some (v6,.arr true 277 1 [[.nsl]] 0)) \/ (S 384 = some (v6,.arr true 277 1 [[.osl 26880 vo 4 0 out.length]] 0) /\ S 26880 = some (vo,.arr false 283 4 (out.map Xaj) 0))) →
     Rel prog ((C.sub 0 x).mk' y.2 D) ⟨sO.t,S,sO.n,K⟩ a' w' → sem prog (C.sub 0 x) (λa w=>Z2 prog (C.sub 0 x) (JN prog [.cell 4 277,.cell 5 53] [] 0 (Eqs (.tup [.isl 283 4 (r.1.map Xaj),.v (.int .i64 r.2)]) [])) a w \/
       XiA prog (C.sub 0 x) (JN prog [.cell 4 277,.cell 5 53] [] 0 (Eqs (.tup [.isl 283 4 (r.1.map Xaj),.v (.int .i64 r.2)]) [])) a w) (.blk 0 :: ((Xdh 5 (f269.body).get!).drop 3).map It.code) none a' w':=by
   intro S K vo out a' w' hr g1 g2 g3 g4 hrel'
   simp only [f269,Option.get!,Xdh,List.drop_succ_cons,W4,US,IA]
   refine Jz (C:=C.sub 0 x) (C':=(C.sub 0 x).mk' y.2 D) (R':=Z2 prog ((C.sub 0 x).mk' y.2 D) λst=>st.s 2 = some (sO.k,.raw (.deferred (some []))) /\ JN prog [.cell 4 277,.cell 5 53] [] 0 (Eqs (.tup [.isl 283 4 (r.1.map Xaj),.v (.int .i64 r.2)]) []) ⟨st.t,upd st.s 2 (some (sO.k,.raw (.deferred none))),st.n,st.k⟩) rfl ?_ _ ?_ none a' w' (Yz 1000 _ hrel' ?_)
   · exactλa w h=>Or.inr ⟨D,2,sO.k,y.2,hb0,hkd,h⟩
   · rfl
   subst hr
   rcases g4 with⟨rfl,g4⟩|⟨g4,g5⟩
   · simp only [go_sem,simprocAttr,q0,q2,q3,q4,g1,g2,g3,g4]
     with_reducible refine XQ ?_
     simp only [go_sem,simprocAttr,IA]
   · simp only [go_sem,simprocAttr,q0,q2,q3,q4,g1,g2,g3,g4,g5]
     with_reducible refine XQ ?_
     simp only [go_sem,simprocAttr]
 simp only [f330,Option.get!]
 repeat' first
   |(refine El.el hr ?_;clear hr;intro hr)
   |(with_reducible intro h;refine XH hr h ?_;clear hr;intro hr)
   |with_reducible intro _
   |simp only [go_sem,simprocAttr,q5,q6,Xm]
   |(with_reducible first|apply Xi|apply Xh|apply Xt)
   |(refine Xu ?_ ?_;· first|assumption|omega)
   |((with_reducible refine Yt hr ?_ ?_;rotate_left;intro p;rotate_right);(· simp only [go_sem,simprocAttr]);clear hr;intro hp hn hd hr;have Xm:=hd _ X0;simp only [go_sem,simprocAttr]at Xm)
   |fail
 .refine Xq hr ?_;intro hr;refine⟨rc,?_,by rw [hst];simp,.inl ⟨hpe,λa' w' h=>fin _ _ 0 [] a' w' hr.symm ?_ ?_ ?_ (.inl ⟨rfl,?_⟩) h⟩⟩;all_goals first|rfl|(simp only [go_sem,simprocAttr,q7,q8,q9];done)
 all_goals
   clear hn hd Xm hp
   refine LoopG.of (Iwl N a0 a1 p r l sO.k vh vi v4 v5 v6 rc) 1000 N ?_ ?_ _
   · refine⟨0,[],sO.k + 2 + 1 + 1 + 1 + 1 + 1,hr,?_,?_,?_,?_,?_,?_,?_,?_,?_,?_,?_,?_,?_,.inl ⟨rfl,?_⟩⟩ <;> first|rfl|(simp only [go_sem,simprocAttr,q5,q6,q7,q8,q9,e28,X0];done)
   clear hr
   rintro n st ⟨at_,out,vp,hr,f0,f1,f2,f3,f4,f5,f6,f7,f8,f9,f10,f11,f12,hor⟩
   obtain _|n:=n
   · rw [Qb8]at hr;cases hr
   rw [Qb8]at hr
   rcases hor with⟨rfl,g⟩|⟨vo,g,g'⟩
   all_goals
     repeat' first
       |(refine El.el hr ?_;clear hr;intro hr)
       |(with_reducible intro h;refine XH hr h ?_;clear hr;intro hr)
       |with_reducible intro _
       |simp only [go_sem,simprocAttr,f0,f1,f2,f3,f4,f5,f6,f7,f8,f9,f10,f11,g,q2,q3,q4,hrc,e28,X0,Xaj,upd]
       |simp only [go_sem,simprocAttr,g']
       |(with_reducible first|apply Xi|apply Xh|apply Xt)
       |(refine Xu ?_ ?_;· first|assumption|omega)
       |(with_reducible first|refine CallX.c ?_ _|refine OK.c hr hw ?_ (λz hr=>?_) _)
       |(refine YieldX.of (l:=l) (kr:=1) (v:=sO.k + 1) (r:=rc) (p1:=12) (p2:=13) sO.t 22 1000 ?_ hst hA hB hps ae ae rfl hkr hsz2 hO (λx2=>?_) _;· (simp only [go_sem,simprocAttr,f11]))
       |fail
   all_goals first
     | (refine ⟨n, WD _, _, _, vp, hr, ?_, ?_, ?_, ?_, ?_, ?_, ?_, ?_, ?_, ?_, ?_, ?_, ?_, .inr ?_⟩
        all_goals first
          |rfl
          |(simp only [go_sem,simprocAttr,f1,f2,f3,f4,f6,f7,f8,f9,f10,f11,f12,g,upd,hrc,e28,X0,Xaj,WJ,U1,II,Uz,IA,US,Ue];done))
     | (refine Xq hr ?_
        intro hr
        refine⟨⟨.done,some .ret,rc.fn,rc.tmps,rc.params,rc.assign,rc.body,rc.defers⟩,?_,by simp,.inr ⟨rfl,λa' w' h=>Or.inr ⟨D,2,sO.k,y.2,hb0,hkd,_,h,?_,?_⟩⟩⟩
        rotate_right
        · subst hr
          simp only [go_sem,simprocAttr,f0,f1,f2,f3,f4,f9,f10,f11,f12,g,q0,q2,q3,q4,upd]
          with_reducible refine XQ ?_
          simp only [go_sem,simprocAttr,IA]
        all_goals first
          |rfl
          |(simp only [go_sem,simprocAttr,f11,f12,upd];done))
     | (refine Xq hr ?_
        intro hr
        refine⟨rc,?_,by rw [hst];simp,.inl ⟨hpe,λa' w' h=>fin _ _ 0 [] a' w' hr.symm ?_ ?_ ?_ (.inl ⟨rfl,?_⟩) h⟩⟩
        all_goals first
          |rfl
          |(simp only [go_sem,simprocAttr,f9,f10,f11,f12,g,upd];done))
     | (refine Xq hr ?_
        intro hr
        refine⟨rc,?_,by rw [hst];simp,.inl ⟨hpe,λa' w' h=>fin _ _ vo out a' w' hr.symm ?_ ?_ ?_ (.inr ⟨?_,?_⟩) h⟩⟩
        all_goals first
          |rfl
          |(simp only [go_sem,simprocAttr,f9,f10,f11,f12,g,g',upd];done))
     |trace_state

abbrev Qig:=λN e c Q n (st:St)=>∃f d,Iv (Qbc N e c n f d) Q ((∃a b,st.n=42/\st.s 2496=some (a,.arr false 49 1 (d.map e49) 0)/\st.t 1=.ept 64 b 6 0 0/\st.t 4=s49 c.1/\st.t 5=vi c.2/\st.t 6=.osl 2496 a 1 0 d.length/\st.t 7=vi f/\st.s 64=some (b,.arr true 28 6 [e28 e] 0))\/(∃b,(st.n=42/\st.t 1=.ept 64 b 6 0 0/\st.t 4=s49 c.1/\st.t 5=vi c.2/\st.t 6=.nsl/\st.t 7=vi f/\st.s 64=some (b,.arr true 28 6 [e28 e] 0))/\d=[]))
abbrev Qjx:=λN c d b Q n (st:St)=>∃e,Iv (Qcz N c d b n e) Q ((∃a,st.n=58/\st.t 1=vi d/\st.t 3=.ept 192 a 6 0 0/\st.t 13=s49 b/\st.t 14=vi b.length/\st.t 15=vi e/\st.s 192=some (a,.arr true 28 6 [e28 c] 0)))
def g28:(∀N(a0:Wk),O1 (Qap N a0) 81 [.agg (e28 a0)] (λr=>.tup [s49 r.1,vi r.2]))/\(∀N(a0:Wk)(a1:Int)(a2:List Int),O1 (Qga N a0 a1 a2) 296 [.agg (e28 a0),vi a1,s49 a2] (λr=>.tup [vu r.1,.v (.bool r.2)])):=by
 refine⟨λN _=>rk f81 ?_,λN _ _ _=>rk f296 ?_⟩<;>(rintro _ hw r hr C _ rfl hwf hf;have hse:=@ZZ _ hw;simp only[f81,f296,Option.get!,Qap,Qga]at hr⊢;repeat' first
 |(refine El.el hr ?_;clear hr;intro hr)
 |(with_reducible intro h;refine XH hr h ?_;clear hr;intro hr)
 |with_reducible intro _
 |(refine Xq hr ?_;rintro rfl;have hr:=hk;clear hk)
 |simp only[go_sem,simprocAttr,E,XB,Xm,hse]
 |(with_reducible first|apply Xi|apply Xh|apply Xt|apply Xx|apply Xy)
 |((first|with_reducible refine Yy hr ag ?_ ?_|(with_reducible refine Yt hr ?_ ?_;rotate_left;intro p;rotate_right));(·simp only[go_sem,simprocAttr,hse]);intro hp hn hd hr;(try have XB:=hd _ e49;simp only[go_sem,simprocAttr]at XB);(try have Xm:=hd _ X0;simp only[go_sem,simprocAttr]at Xm))
 |(refine Xu ?_ ?_;.first|assumption|omega)
 |(with_reducible first|refine CallX.c ?_ _|refine OK.c hr hw ?_ (λy hr=>?_) _|refine OK.d hr hw ?_ (λy hr=>?_) _)
 |(with_reducible refine lp (Qig N _ _) hr N ?_ (λ_ p q=>⟨_,_,_,p,q,?_⟩) _;rintro n1 st ⟨_,_,_,hr,hk,(⟨_,_,E⟩|⟨_,E,z0⟩)⟩<;>(try subst z0)<;>(obtain _|n1:=n1<;>rw[Qbc]at hr))
 |refine⟨_,WD _,_,_,_,hr,hk,?_⟩
 |(with_reducible refine lp (Qjx N _ _ _) hr N ?_ (λ_ p q=>⟨_,_,p,q,?_⟩) _;rintro n1 st ⟨_,_,hr,hk,⟨_,E⟩⟩<;>(obtain _|n1:=n1<;>rw[Qcz]at hr))
 |refine⟨_,WD _,_,_,hr,hk,?_⟩
 |refine dq 81 6 hf [(0,[],[512]),(1,[],[512]),(2,[],[512]),(3,[],[512]),(4,[],[512]),(5,[],[512]),(6,[],[512]),(7,[],[512]),(8,[],[512]),(9,[512],[]),(10,[512],[])] ?_
 |refine dp ?_
 |(refine Xq hr ?_;rintro rfl;with_reducible refine XQ ?_)
 |exact YE hr
 |((first|refine XH (c:=true) hr rfl ?_|refine XH (c:=false) hr rfl ?_|refine XH hr ag ?_);intro hr))
abbrev QkG:=g28.1
abbrev Qml:=g28.2
attribute [instance] QkG Qml
end Go.Sx
