import Derived.Test.YtgbmffljpneflaaGreatDoorBG14
set_option linter.all false
namespace Go.Sx
open Go.Proofs
set_option maxRecDepth 10000
set_option maxHeartbeats 100000000
def g28:(∀N a0 a1,OK (Qgo N a0 a1) 279 [.agg (e27 a0),vi a1] [] (λr=>.agg (Xp6 r)) λr=>[])/\(∀N a0 a1 a2 a3,OK (Qbr N a0 a1 a2 a3) 92 [.agg (e27 a0),vu a1,vi a2,vu a3] [] (λr=>.tup [.agg (e27 r.1),vi r.2]) λr=>[])/\(∀N a0 a1 a2 a3 a4 a5,OK (QgE N a0 a1 a2 a3 a4 a5) 113 [.agg (e43 a0),vi a1,vu a2,vu a3,vu a4,.v (.bool a5)] [] (λr=>vi r) λr=>[])/\(∀N a0 a1,OK (Qfa N a0 a1) 268 [.agg (e27 a0),.agg (ZS a1)] [] (λr=>.tup [.agg (e27 r.1),vu r.2.1,vi r.2.2]) λr=>[])/\(∀N a0 a1 a2,OK (Qi5 N a0 a1 a2) 357 [.agg (e27 a0),vu a1,vi a2] [] (λr=>.tup [.agg (e27 r.1),vi r.2]) λr=>[])/\(∀N a0 a1,OK (Qdk N a0 a1) 217 [.agg (e27 a0),vu a1] [] (λr=>.tup [.agg (ZS r.1),vi r.2]) λr=>[]):=by
 refine⟨λN _ _=>rk Tryz.f279 ?_,λN _ _ _ _=>rk Tryz.f92 ?_,λN _ _ _ _ _ _=>rk Tryz.f113 ?_,λN _ _=>rk Tryz.f268 ?_,λN _ _ _=>rk Tryz.f357 ?_,λN _ _=>rk Tryz.f217 ?_⟩<;>(rintro _ hw r hr C _ rfl hwf hf;have hse:=@Za _ hw;simp only[Tryz.f279,Tryz.f92,Tryz.f113,Tryz.f268,Tryz.f357,Tryz.f217,Option.get!];(first|rw[Qgo]at hr|rw[Qbr]at hr|rw[QgE]at hr|rw[Qfa]at hr|rw[Qi5]at hr|rw[Qdk]at hr);repeat' first
 |(refine El.el hr ?_;clear hr;intro hr)
 |(with_reducible intro h;refine Xx hr h ?_;clear hr;intro hr)
 |with_reducible intro _
 |simp only[go_sem,simprocAttr,Xk,hse]
 |(with_reducible first|apply Xi|apply Xh|apply Xs|apply Xq|apply Xr)
 |((first|with_reducible refine Yo hr ag ?_ ?_|(with_reducible refine Ye hr ?_ ?_;rotate_left;intro p;rotate_right));(·simp only[go_sem,simprocAttr,hse]);intro hp hn hd hr;(try have Xk:=hd _ XU);(try simp only[go_sem,simprocAttr]at Xk))
 |(refine Xt ?_ ?_;.first|assumption|omega)
 |(with_reducible first|refine CallX.c ?_ _|refine OK.c hr hw ?_ (λy hr=>?_) _|refine IK hr hw ?_ (λy hr=>?_) _)
 |refine dc 279 1 hf 9 [(0,4,[]),(1,4,[]),(0,3,[]),(7,0,[]),(15,0,[]),(31,0,[]),(63,0,[]),(127,0,[]),(255,50176,[]),(511,50176,[]),(255,49920,[]),(2047,49152,[]),(4095,49152,[]),(8191,49152,[]),(255,16128,[]),(16639,16128,[]),(65535,0,[]),(131071,0,[])] ?_
 |refine dc 268 3 hf 7 [(0,393219,[[],[448,512]]),(0,65539,[[],[448,512]]),(2,65539,[[],[448,512]]),(7,3,[[],[448,512]]),(15,3,[[],[448,512]]),(31,6291459,[[],[448,512]]),(31,5242883,[[],[448,512]]),(31,3145731,[[],[448,512]]),(0,8355842,[[448],[512]]),(0,8355841,[[512],[448]]),(831,6291456,[[448],[]]),(1919,4194304,[[512],[]]),(4095,0,[])] ?_
 |(refine Xn hr ?_;rintro rfl;with_reducible refine XK ?_)
 |exact Yr hr
 |fail)
abbrev Qqz:=g28.1
abbrev QlH:=g28.2.1
abbrev Qm6:=g28.2.2.1
abbrev Qra:=g28.2.2.2.1
abbrev Qrb:=g28.2.2.2.2.1
abbrev QqA:=g28.2.2.2.2.2
attribute [instance] Qqz QlH Qm6 Qra Qrb QqA
def Iwl(N:Nat)(a0:Wm)(a1:Int)(p1:Wv)(r:List UQ × Int)(l kk vh vi v4 v5 v6:Nat)(rc:Loop)(n:Nat)(st:St):Prop:=
  ∃(at_:Int) (out:List UQ) (vp:Nat),Qcd N a0 a1 p1 n at_ out = some r /\ st.n = 58 /\ st.t 0 = .clo (.yield l) [] [] /\ st.t 1 = .ept 51328 vh 6 0 0 /\ st.t 2 = .ept 51392 vi 1 0 0 /\ st.t 4 = .ept 25856 vp 4 0 0 /\ st.t 5 = .v (.int .i64 at_) /\
    st.s 51328 = some (vh,.arr true 27 6 [e27 a0] 0) /\ st.s 51392 = some (vi,.arr true 3 1 [[.v (.int .i64 a1)]] 0) /\ st.s 25856 = some (vp,.arr true 114 4 [XU p1] 0) /\
    st.s 256 = some (v4,.arr true 266 1 [[.nsl]] 0) /\ st.s 320 = some (v5,.arr true 57 1 [[.v (.int .i64 0)]] 0) /\ st.s 1 = some (kk + 1,.raw (.loop rc)) /\ st.s 2 = some (kk,.raw (.deferred (some []))) /\
    ((out = [] /\ st.s 384 = some (v6,.arr true 266 1 [[.nsl]] 0)) \/ ∃vo,st.s 384 = some (v6,.arr true 266 1 [[.osl 26880 vo 4 0 out.length]] 0) /\ st.s 26880 = some (vo,.arr false 272 4 (out.map V1) 0))
def Qwl(a0:Wm)(a1:Int)(st:St):Prop:=∃vh vi v4 v5 v6:Nat,st.n = 22 /\ st.t 11 = .clo (.func 328) [] [.ept 51328 vh 6 0 0,.ept 51392 vi 1 0 0] /\ st.t 4 = .ept 256 v4 1 0 0 /\ st.t 5 = .ept 320 v5 1 0 0 /\ st.t 6 = .ept 384 v6 1 0 0 /\
    st.s 51328 = some (vh,.arr true 27 6 [e27 a0] 0) /\ st.s 51392 = some (vi,.arr true 3 1 [[.v (.int .i64 a1)]] 0) /\ st.s 256 = some (v4,.arr true 266 1 [[.nsl]] 0) /\ st.s 320 = some (v5,.arr true 57 1 [[.v (.int .i64 0)]] 0) /\ st.s 384 = some (v6,.arr true 266 1 [[.nsl]] 0)
instance QrA:∀N(a0:Wm)(a1:Int),OK (QgN N a0 a1) 262 [.agg (e27 a0),.v (.int .i64 a1)] [] (λr=>.tup [.isl 272 4 (r.1.map V1),.v (.int .i64 r.2)]) λr=>[]:=by
 refineλN a0 a1=>⟨λG hw r hr=>?_⟩
 rw [QgN]at hr;refine Xc2 (fn:=Tryz.f262) (body:=(Tryz.f262.body).get!) (rs:=[.cell 4 266,.cell 5 57]) [] 22 ac ac ac ac ac ab λC x hG hlb hwf a w hrel=>?_;subst hG;simp only [Tryz.f262,Option.get!];refine Jo 5 _ none a w ?_;simp only [XbK,Ub,Uy,IO,Uk];refine Xbc Xo4 [_,_] none a w ?_;refine Xbb (Q:=Qwl a0 a1) ?_ [_,_,_] none a w (KD (R':=Z8 Tryz.prog (C.sub 0 x) λ_=>False) (λa w h=>by obtain⟨_,_,hf⟩:=h;exact hf.elim) _ rfl _ _ _ (Ym 1000 _ hrel ?_));rotate_left
 .simp only [go_sem,simprocAttr,Ub,Uy,IO,Uk];refine CallX.inl (f:=299) 800 (fn:=Tryz.f299) (rs:=[.tmp 4]) (nt:=6) 1000 ac (λx=>?_) _;simp only [Tryz.f299,Option.get!];simp only [go_sem,simprocAttr];refine⟨7,8,2,3,4,?_,?_,?_,?_,?_,?_,?_,?_,?_,?_⟩ <;> first|rfl|(simp only [go_sem,simprocAttr,e27];done)
 clear hrel a w;rintro sO a w hrel ⟨vh,vi,v4,v5,v6,q0,q1,q2,q3,q4,q5,q6,q7,q8,q9⟩;refine Xkn (Xq8 (C:=C.sub 0 x) (gf:=328) (caps:=[.ept 51328 vh 6 0 0,.ept 51392 vi 1 0 0]) rfl rfl hrel q1 1 2 ae (fn:=Tryz.f328) (nt:=58) ac 400 1000 ?_);intro l D rc y hst hpe hps hA hB hsz hkr hkd hO hb0;have hrc:(⟨.ready,none,rc.fn,rc.tmps,rc.params,rc.assign,rc.body,rc.defers⟩:Loop) = rc:=by cases rc;simp only at hst hpe;rw [hst,hpe]
 have hsz2:rc.tmps.size = 22:=hsz.trans q0;-- behind the range
 have fin:∀(S:Heap) (K vo:Nat) (out:List UQ) (a':Act) (w':World),r = (out,0) → S 256 = some (v4,.arr true 266 1 [[.nsl]] 0) → S 320 = some (v5,.arr true 57 1 [[.v (.int .i64 0)]] 0) → S 2 = some (sO.k,.raw (.deferred (some []))) →
     ((out = [] /\ S 384 = some (v6,.arr true 266 1 [[.nsl]] 0)) \/ (S 384 = some (v6,.arr true 266 1 [[.osl 26880 vo 4 0 out.length]] 0) /\ S 26880 = some (vo,.arr false 272 4 (out.map V1) 0))) →
     Rel Tryz.prog ((C.sub 0 x).mk' y.2 D) ⟨sO.t,S,sO.n,K⟩ a' w' → sem Tryz.prog (C.sub 0 x) (λa w=>Z8 Tryz.prog (C.sub 0 x) (JM Tryz.prog [.cell 4 266,.cell 5 57] [] 0 (Eqs (.tup [.isl 272 4 (r.1.map V1),.v (.int .i64 r.2)]) [])) a w \/
       Xh4 Tryz.prog (C.sub 0 x) (JM Tryz.prog [.cell 4 266,.cell 5 57] [] 0 (Eqs (.tup [.isl 272 4 (r.1.map V1),.v (.int .i64 r.2)]) [])) a w) (.blk 0 :: ((XbK 5 (Tryz.f262.body).get!).drop 3).map It.code) none a' w':=by
   intro S K vo out a' w' hr g1 g2 g3 g4 hrel'
   simp only [Tryz.f262,Option.get!,XbK,List.drop_succ_cons,W0,Ub,Uy]
   refine Jq (C:=C.sub 0 x) (C':=(C.sub 0 x).mk' y.2 D) (R':=Z8 Tryz.prog ((C.sub 0 x).mk' y.2 D) λst=>st.s 2 = some (sO.k,.raw (.deferred (some []))) /\ JM Tryz.prog [.cell 4 266,.cell 5 57] [] 0 (Eqs (.tup [.isl 272 4 (r.1.map V1),.v (.int .i64 r.2)]) []) ⟨st.t,upd st.s 2 (some (sO.k,.raw (.deferred none))),st.n,st.k⟩) rfl ?_ _ ?_ none a' w' (Ym 1000 _ hrel' ?_)
   · exactλa w h=>Or.inr ⟨D,2,sO.k,y.2,hb0,hkd,h⟩
   · rfl
   subst hr
   rcases g4 with⟨rfl,g4⟩|⟨g4,g5⟩
   · simp only [go_sem,simprocAttr,q0,q2,q3,q4,g1,g2,g3,g4]
     with_reducible refine XK ?_
     simp only [go_sem,simprocAttr,Uy]
   · simp only [go_sem,simprocAttr,q0,q2,q3,q4,g1,g2,g3,g4,g5]
     with_reducible refine XK ?_
     simp only [go_sem,simprocAttr]
 simp only [Tryz.f328,Option.get!]
 repeat' first
   |(refine El.el hr ?_;clear hr;intro hr)
   |(with_reducible intro h;refine Xx hr h ?_;clear hr;intro hr)
   |with_reducible intro _
   |simp only [go_sem,simprocAttr,q5,q6,Xk]
   |(with_reducible first|apply Xi|apply Xh|apply Xs)
   |(refine Xt ?_ ?_;· first|assumption|omega)
   |((with_reducible refine Ye hr ?_ ?_;rotate_left;intro p;rotate_right);(· simp only [go_sem,simprocAttr]);clear hr;intro hp hn hd hr;have Xk:=hd _ XU;simp only [go_sem,simprocAttr]at Xk)
   |fail
 .refine Xn hr ?_;intro hr;refine⟨rc,?_,by rw [hst];simp,.inl ⟨hpe,λa' w' h=>fin _ _ 0 [] a' w' hr.symm ?_ ?_ ?_ (.inl ⟨rfl,?_⟩) h⟩⟩;all_goals first|rfl|(simp only [go_sem,simprocAttr,q7,q8,q9];done)
 all_goals
   clear hn hd Xk hp
   refine LoopG.of (Iwl N a0 a1 p r l sO.k vh vi v4 v5 v6 rc) 1000 N ?_ ?_ _
   · refine⟨0,[],sO.k + 2 + 1 + 1 + 1 + 1 + 1,hr,?_,?_,?_,?_,?_,?_,?_,?_,?_,?_,?_,?_,?_,.inl ⟨rfl,?_⟩⟩ <;> first|rfl|(simp only [go_sem,simprocAttr,q5,q6,q7,q8,q9,e27,XU];done)
   clear hr
   rintro n st ⟨at_,out,vp,hr,f0,f1,f2,f3,f4,f5,f6,f7,f8,f9,f10,f11,f12,hor⟩
   obtain _|n:=n
   · rw [Qcd]at hr;cases hr
   rw [Qcd]at hr
   rcases hor with⟨rfl,g⟩|⟨vo,g,g'⟩
   all_goals
     repeat' first
       |(refine El.el hr ?_;clear hr;intro hr)
       |(with_reducible intro h;refine Xx hr h ?_;clear hr;intro hr)
       |with_reducible intro _
       |simp only [go_sem,simprocAttr,f0,f1,f2,f3,f4,f5,f6,f7,f8,f9,f10,f11,g,q2,q3,q4,hrc,e27,XU,V1,upd]
       |simp only [go_sem,simprocAttr,g']
       |(with_reducible first|apply Xi|apply Xh|apply Xs)
       |(refine Xt ?_ ?_;· first|assumption|omega)
       |(with_reducible first|refine CallX.c ?_ _|refine OK.c hr hw ?_ (λz hr=>?_) _)
       |(refine YieldX.of (l:=l) (kr:=1) (v:=sO.k + 1) (r:=rc) (p1:=12) (p2:=13) sO.t 22 1000 ?_ hst hA hB hps ae ae rfl hkr hsz2 hO (λx2=>?_) _;· (simp only [go_sem,simprocAttr,f11]))
       |fail
   all_goals first
     | (refine ⟨n, WA _, _, _, vp, hr, ?_, ?_, ?_, ?_, ?_, ?_, ?_, ?_, ?_, ?_, ?_, ?_, ?_, .inr ?_⟩
        all_goals first
          |rfl
          |(simp only [go_sem,simprocAttr,f1,f2,f3,f4,f6,f7,f8,f9,f10,f11,f12,g,upd,hrc,e27,XU,V1,WR,List.map_append,Ig,Um,Uy,Ub,Uk];done))
     | (refine Xn hr ?_
        intro hr
        refine⟨⟨.done,some .ret,rc.fn,rc.tmps,rc.params,rc.assign,rc.body,rc.defers⟩,?_,by simp,.inr ⟨rfl,λa' w' h=>Or.inr ⟨D,2,sO.k,y.2,hb0,hkd,_,h,?_,?_⟩⟩⟩
        rotate_right
        · subst hr
          simp only [go_sem,simprocAttr,f0,f1,f2,f3,f4,f9,f10,f11,f12,g,q0,q2,q3,q4,upd]
          with_reducible refine XK ?_
          simp only [go_sem,simprocAttr,Uy]
        all_goals first
          |rfl
          |(simp only [go_sem,simprocAttr,f11,f12,upd];done))
     | (refine Xn hr ?_
        intro hr
        refine⟨rc,?_,by rw [hst];simp,.inl ⟨hpe,λa' w' h=>fin _ _ 0 [] a' w' hr.symm ?_ ?_ ?_ (.inl ⟨rfl,?_⟩) h⟩⟩
        all_goals first
          |rfl
          |(simp only [go_sem,simprocAttr,f9,f10,f11,f12,g,upd];done))
     | (refine Xn hr ?_
        intro hr
        refine⟨rc,?_,by rw [hst];simp,.inl ⟨hpe,λa' w' h=>fin _ _ vo out a' w' hr.symm ?_ ?_ ?_ (.inr ⟨?_,?_⟩) h⟩⟩
        all_goals first
          |rfl
          |(simp only [go_sem,simprocAttr,f9,f10,f11,f12,g,g',upd];done))
     |trace_state

abbrev Qkd:=λN e c (Q:(List Int)→Prop) n (st:St)=>∃f d g,Qa1 N e c n f d=some g/\Q g/\((∃a b,st.n=42/\st.s 2496=some (a,.arr false 39 1 (d.map e39) 0)/\st.t 1=.ept 64 b 6 0 0/\st.t 4=s39 c.1/\st.t 5=vi c.2/\st.t 6=.osl 2496 a 1 0 d.length/\st.t 7=vi f/\st.s 64=some (b,.arr true 27 6 [e27 e] 0))\/(∃b,(st.n=42/\st.t 1=.ept 64 b 6 0 0/\st.t 4=s39 c.1/\st.t 5=vi c.2/\st.t 6=.nsl/\st.t 7=vi f/\st.s 64=some (b,.arr true 27 6 [e27 e] 0))/\d=[]))
abbrev QlI:=λN c d b (Q:(Ex (Int × Bool) Unit)→Prop) n (st:St)=>∃e f,QcF N c d b n e=some f/\Q f/\((∃a,st.n=58/\st.t 1=vi d/\st.t 3=.ept 192 a 6 0 0/\st.t 13=s39 b/\st.t 14=vi b.length/\st.t 15=vi e/\st.s 192=some (a,.arr true 27 6 [e27 c] 0)))
def g29:(∀N a0,OK (QaK N a0) 159 [.agg (e27 a0)] [] (λr=>.tup [s39 r.1,vi r.2]) λr=>[])/\(∀N a0 a1 a2,OK (QgO N a0 a1 a2) 296 [.agg (e27 a0),vi a1,s39 a2] [] (λr=>.tup [vu r.1,.v (.bool r.2)]) λr=>[]):=by
 refine⟨λN _=>rk Tryz.f159 ?_,λN _ _ _=>rk Tryz.f296 ?_⟩<;>(rintro _ hw r hr C _ rfl hwf hf;have hse:=@Za _ hw;simp only[Tryz.f159,Tryz.f296,Option.get!];(first|rw[QaK]at hr|rw[QgO]at hr);repeat' first
 |(refine El.el hr ?_;clear hr;intro hr)
 |(with_reducible intro h;refine Xx hr h ?_;clear hr;intro hr)
 |with_reducible intro _
 |(refine Xn hr ?_;rintro rfl;have hr:=hk;clear hk)
 |simp only[go_sem,simprocAttr,E,Xz,Xk,hse]
 |(with_reducible first|apply Xi|apply Xh|apply Xs|apply Xq|apply Xr)
 |((first|with_reducible refine Yo hr ag ?_ ?_|(with_reducible refine Ye hr ?_ ?_;rotate_left;intro p;rotate_right));(·simp only[go_sem,simprocAttr,hse]);intro hp hn hd hr;(try have Xz:=hd _ e39);(try simp only[go_sem,simprocAttr]at Xz);(try have Xk:=hd _ XU);(try simp only[go_sem,simprocAttr]at Xk))
 |(refine Xt ?_ ?_;.first|assumption|omega)
 |(with_reducible first|refine CallX.c ?_ _|refine OK.c hr hw ?_ (λy hr=>?_) _|refine IK hr hw ?_ (λy hr=>?_) _)
 |(with_reducible refine lp (Qkd N _ _) hr N ?_ (λex hq hk=>⟨_,_,ex,hq,hk,?_⟩) _;clear hr;(try clear E);rintro n1 st ⟨v2,v3,ex,hr,hk,(⟨_,_,E⟩|⟨_,E,z0⟩)⟩<;>(try subst z0)<;>(obtain _|n1:=n1<;>rw[Qa1]at hr))
 |refine⟨_,WA _,_,_,_,hr,hk,?_⟩
 |(with_reducible refine lp (QlI N _ _ _) hr N ?_ (λex hq hk=>⟨_,ex,hq,hk,?_⟩) _;clear hr;(try clear E);rintro n1 st ⟨v1,ex,hr,hk,⟨_,E⟩⟩<;>(obtain _|n1:=n1<;>rw[QcF]at hr))
 |refine⟨_,WA _,_,_,hr,hk,?_⟩
 |refine dc 159 6 hf 8 [(0,491521,[[],[512]]),(0,81921,[[],[512]]),(0,49153,[[],[512]]),(6,16385,[[],[512]]),(14,16385,[[],[512]]),(31,1,[[],[512]]),(63,1,[[],[512]]),(127,2097153,[[],[512]]),(127,1048577,[[],[512]]),(0,4186112,[[512],[]]),(767,2097152,[[512],[]]),(2047,0,[])] ?_
 |refine dc 296 5 hf 25 [(0,12,[]),(1,12,[]),(0,3,[]),(4,3,[]),(15,0,[]),(31,0,[]),(63,0,[])] ?_
 |(refine Xn hr ?_;rintro rfl;with_reducible refine XK ?_)
 |exact Yr hr
 |((first|refine Xx (c:=true) hr rfl ?_|refine Xx (c:=false) hr rfl ?_|refine Xx hr ag ?_);intro hr)
 |fail)
abbrev Qm7:=g29.1
abbrev Qpa:=g29.2
attribute [instance] Qm7 Qpa
end Go.Sx
