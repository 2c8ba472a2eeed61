import Derived.Test.YtcclgbgphjofaaaGreatHG12
set_option linter.all false
namespace Go.Sx
open Go.Proofs
set_option maxRecDepth 10000
set_option maxHeartbeats 100000000
def g22:(∀N a0 a1,OK (Qd5 N a0 a1) 244 [.agg (e28 a0),vi a1] [] (λr=>.agg (Xqu r)) λr=>[])/\(∀N a0 a1 a2 a3,OK (Qci N a0 a1 a2 a3) 147 [.agg (e28 a0),vu a1,vi a2,vu a3] [] (λr=>.tup [.agg (e28 r.1),vi r.2]) λr=>[])/\(∀N a0 a1 a2 a3 a4 a5,OK (Qey N a0 a1 a2 a3 a4 a5) 84 [.agg (e42 a0),vi a1,vu a2,vu a3,vu a4,.v (.bool a5)] [] (λr=>vi r) λr=>[])/\(∀N a0 a1,OK (QdQ N a0 a1) 47 [.agg (e52 a0),.agg (e87 a1)] [] (λr=>.v (.bool r)) λr=>[])/\(∀N a0 a1,OK (QeP N a0 a1) 55 [.agg (e28 a0),vu a1] [] (λr=>.tup [.agg (e84 r.1),vi r.2]) λr=>[]):=by
 refine⟨λN _ _=>rk Tryz.f244 ?_,λN _ _ _ _=>rk Tryz.f147 ?_,λN _ _ _ _ _ _=>rk Tryz.f84 ?_,λN _ _=>rk Tryz.f47 ?_,λN _ _=>rk Tryz.f55 ?_⟩<;>(rintro _ hw r hr C _ rfl hwf hf;simp only[Tryz.f244,Tryz.f147,Tryz.f84,Tryz.f47,Tryz.f55,Option.get!];(first|rw[Qd5]at hr|rw[Qci]at hr|rw[Qey]at hr|rw[QdQ]at hr|rw[QeP]at hr);repeat' first
 |(refine El.el hr ?_;intro hr)
 |(with_reducible intro h;refine XH hr h ?_;intro hr)
 |with_reducible intro _
 |simp only[go_sem,simprocAttr,XS]
 |(with_reducible first|apply Xk|apply Xj|apply XA|apply XF|apply XG)
 |((first|with_reducible refine Y1 hr ag ?_ ?_|(with_reducible refine YN hr ?_ ?_;rotate_left;intro p;rotate_right));(·simp only[go_sem,simprocAttr]);intro hp hn hd hr;(try have XS:=hd _ Y8);(try simp only[go_sem,simprocAttr]at XS))
 |(refine XB ?_ ?_;.first|assumption|omega)
 |(with_reducible first|refine CallX.c ?_ _|refine OK.c hr hw ?_ (λy hr=>?_) _)
 |refine dc 244 1 hf 9 [(0,4,[]),(1,4,[]),(0,3,[]),(7,0,[]),(15,0,[]),(31,0,[]),(63,0,[]),(127,0,[]),(255,50176,[]),(511,50176,[]),(255,49920,[]),(2047,49152,[]),(4095,49152,[]),(8191,49152,[]),(255,16128,[]),(16639,16128,[]),(65535,0,[]),(131071,0,[])] ?_
 |(refine Xu hr ?_;rintro rfl;with_reducible refine X4 ?_)
 |exact Za hr
 |exact Yb hr
 |(apply Yc;assumption)
 |fail)
abbrev Qny:=g22.1
abbrev QjK:=g22.2.1
abbrev QkN:=g22.2.2.1
abbrev QhW:=g22.2.2.2.1
abbrev Qnz:=g22.2.2.2.2
attribute [instance] Qny QjK QkN QhW Qnz
def Iwl(N:Nat)(a0:Wp)(a1:Int)(p1:WJ)(r:List U8 × Int)(l kk vh vi v4 v5 v6:Nat)(rc:Loop)(n:Nat)(st:St):Prop:=
  ∃(at_:Int) (out:List U8) (vp:Nat),QbV N a0 a1 p1 n at_ out = some r /\ st.n = 58 /\ st.t 0 = .clo (.yield l) [] [] /\ st.t 1 = .ept 51328 vh 6 0 0 /\ st.t 2 = .ept 51392 vi 1 0 0 /\ st.t 4 = .ept 25856 vp 4 0 0 /\ st.t 5 = .v (.int .i64 at_) /\
    st.s 51328 = some (vh,.arr true 28 6 [e28 a0] 0) /\ st.s 51392 = some (vi,.arr true 3 1 [[.v (.int .i64 a1)]] 0) /\ st.s 25856 = some (vp,.arr true 144 4 [Y8 p1] 0) /\
    st.s 256 = some (v4,.arr true 255 1 [[.nsl]] 0) /\ st.s 320 = some (v5,.arr true 58 1 [[.v (.int .i64 0)]] 0) /\ st.s 1 = some (kk + 1,.raw (.loop rc)) /\ st.s 2 = some (kk,.raw (.deferred (some []))) /\
    ((out = [] /\ st.s 384 = some (v6,.arr true 255 1 [[.nsl]] 0)) \/ ∃vo,st.s 384 = some (v6,.arr true 255 1 [[.osl 26880 vo 4 0 out.length]] 0) /\ st.s 26880 = some (vo,.arr false 261 4 (out.map Xam) 0))
def Qwl(a0:Wp)(a1:Int)(st:St):Prop:=∃vh vi v4 v5 v6:Nat,st.n = 22 /\ st.t 11 = .clo (.func 254) [] [.ept 51328 vh 6 0 0,.ept 51392 vi 1 0 0] /\ st.t 4 = .ept 256 v4 1 0 0 /\ st.t 5 = .ept 320 v5 1 0 0 /\ st.t 6 = .ept 384 v6 1 0 0 /\
    st.s 51328 = some (vh,.arr true 28 6 [e28 a0] 0) /\ st.s 51392 = some (vi,.arr true 3 1 [[.v (.int .i64 a1)]] 0) /\ st.s 256 = some (v4,.arr true 255 1 [[.nsl]] 0) /\ st.s 320 = some (v5,.arr true 58 1 [[.v (.int .i64 0)]] 0) /\ st.s 384 = some (v6,.arr true 255 1 [[.nsl]] 0)
instance Qof:∀N(a0:Wp)(a1:Int),OK (QfF N a0 a1) 217 [.agg (e28 a0),.v (.int .i64 a1)] [] (λr=>.tup [.isl 261 4 (r.1.map Xam),.v (.int .i64 r.2)]) λr=>[]:=by
 refineλN a0 a1=>⟨λG hw r hr=>?_⟩
 rw [QfF]at hr;refine Xdq (fn:=Tryz.f217) (body:=(Tryz.f217.body).get!) (rs:=[.cell 4 255,.cell 5 58]) [] 22 ac ac ac ac ac ab λC x hG hlb hwf a w hrel=>?_;subst hG;simp only [Tryz.f217,Option.get!];refine Vu 5 _ none a w ?_;simp only [Xdo,UA,U9,IA,Um];refine Xbq Xo9 [_,_] none a w ?_;refine XcI (Q:=Qwl a0 a1) ?_ [_,_,_] none a w (KQ (R':=KX Tryz.prog (C.sub 0 x) λ_=>False) (λa w h=>by obtain⟨_,_,hf⟩:=h;exact hf.elim) _ rfl _ _ _ (YJ 1000 _ hrel ?_));rotate_left
 .simp only [go_sem,simprocAttr,UA,U9,IA,Um];refine CallX.inl (f:=240) 800 (fn:=Tryz.f240) (rs:=[.tmp 4]) (nt:=6) 1000 ac (λx=>?_) _;simp only [Tryz.f240,Option.get!];simp only [go_sem,simprocAttr];refine⟨7,8,2,3,4,?_,?_,?_,?_,?_,?_,?_,?_,?_,?_⟩ <;> first|rfl|(simp only [go_sem,simprocAttr,e28];done)
 clear hrel a w;rintro sO a w hrel ⟨vh,vi,v4,v5,v6,q0,q1,q2,q3,q4,q5,q6,q7,q8,q9⟩;refine Xkz (Xru (C:=C.sub 0 x) (gf:=254) (caps:=[.ept 51328 vh 6 0 0,.ept 51392 vi 1 0 0]) rfl rfl hrel q1 1 2 ae (fn:=Tryz.f254) (nt:=58) ac 400 1000 ?_);intro l D rc y hst hpe hps hA hB hsz hkr hkd hO hb0;have hrc:(⟨.ready,none,rc.fn,rc.tmps,rc.params,rc.assign,rc.body,rc.defers⟩:Loop) = rc:=by cases rc;simp only at hst hpe;rw [hst,hpe]
 have hsz2:rc.tmps.size = 22:=hsz.trans q0;-- behind the range
 have fin:∀(S:Heap) (K vo:Nat) (out:List U8) (a':Act) (w':World),r = (out,0) → S 256 = some (v4,.arr true 255 1 [[.nsl]] 0) → S 320 = some (v5,.arr true 58 1 [[.v (.int .i64 0)]] 0) → S 2 = some (sO.k,.raw (.deferred (some []))) →
     ((out = [] /\ S 384 = some (v6,.arr true 255 1 [[.nsl]] 0)) \/ (S 384 = some (v6,.arr true 255 1 [[.osl 26880 vo 4 0 out.length]] 0) /\ S 26880 = some (vo,.arr false 261 4 (out.map Xam) 0))) →
     Rel Tryz.prog ((C.sub 0 x).mk' y.2 D) ⟨sO.t,S,sO.n,K⟩ a' w' → sem Tryz.prog (C.sub 0 x) (λa w=>KX Tryz.prog (C.sub 0 x) (XaP Tryz.prog [.cell 4 255,.cell 5 58] [] 0 (Eqs (.tup [.isl 261 4 (r.1.map Xam),.v (.int .i64 r.2)]) [])) a w \/
       Xif Tryz.prog (C.sub 0 x) (XaP Tryz.prog [.cell 4 255,.cell 5 58] [] 0 (Eqs (.tup [.isl 261 4 (r.1.map Xam),.v (.int .i64 r.2)]) [])) a w) (.blk 0 :: ((Xdo 5 (Tryz.f217.body).get!).drop 3).map It.code) none a' w':=by
   intro S K vo out a' w' hr g1 g2 g3 g4 hrel'
   simp only [Tryz.f217,Option.get!,Xdo,List.drop_succ_cons,WL,UA,U9]
   refine Jx (C:=C.sub 0 x) (C':=(C.sub 0 x).mk' y.2 D) (R':=KX Tryz.prog ((C.sub 0 x).mk' y.2 D) λst=>st.s 2 = some (sO.k,.raw (.deferred (some []))) /\ XaP Tryz.prog [.cell 4 255,.cell 5 58] [] 0 (Eqs (.tup [.isl 261 4 (r.1.map Xam),.v (.int .i64 r.2)]) []) ⟨st.t,upd st.s 2 (some (sO.k,.raw (.deferred none))),st.n,st.k⟩) rfl ?_ _ ?_ none a' w' (YJ 1000 _ hrel' ?_)
   · exactλa w h=>Or.inr ⟨D,2,sO.k,y.2,hb0,hkd,h⟩
   · rfl
   subst hr
   rcases g4 with⟨rfl,g4⟩|⟨g4,g5⟩
   · simp only [go_sem,simprocAttr,q0,q2,q3,q4,g1,g2,g3,g4]
     with_reducible refine X4 ?_
     simp only [go_sem,simprocAttr,U9]
   · simp only [go_sem,simprocAttr,q0,q2,q3,q4,g1,g2,g3,g4,g5]
     with_reducible refine X4 ?_
     simp only [go_sem,simprocAttr]
 simp only [Tryz.f254,Option.get!]
 repeat' first
   |(refine El.el hr ?_;clear hr;intro hr)
   |(with_reducible intro h;refine XH hr h ?_;clear hr;intro hr)
   |with_reducible intro _
   |simp only [go_sem,simprocAttr,q5,q6,XS]
   |(with_reducible first|apply Xk|apply Xj|apply XA)
   |(refine XB ?_ ?_;· first|assumption|omega)
   |((with_reducible refine YN hr ?_ ?_;rotate_left;intro p;rotate_right);(· simp only [go_sem,simprocAttr]);clear hr;intro hp hn hd hr;have XS:=hd _ Y8;simp only [go_sem,simprocAttr]at XS)
   |fail
 .refine Xu hr ?_;intro hr;refine⟨rc,?_,by rw [hst];simp,.inl ⟨hpe,λa' w' h=>fin _ _ 0 [] a' w' hr.symm ?_ ?_ ?_ (.inl ⟨rfl,?_⟩) h⟩⟩;all_goals first|rfl|(simp only [go_sem,simprocAttr,q7,q8,q9];done)
 all_goals
   clear hn hd XS hp
   refine LoopG.of (Iwl N a0 a1 p r l sO.k vh vi v4 v5 v6 rc) 1000 N ?_ ?_ _
   · refine⟨0,[],sO.k + 2 + 1 + 1 + 1 + 1 + 1,hr,?_,?_,?_,?_,?_,?_,?_,?_,?_,?_,?_,?_,?_,.inl ⟨rfl,?_⟩⟩ <;> first|rfl|(simp only [go_sem,simprocAttr,q5,q6,q7,q8,q9,e28,Y8];done)
   clear hr
   rintro n st ⟨at_,out,vp,hr,f0,f1,f2,f3,f4,f5,f6,f7,f8,f9,f10,f11,f12,hor⟩
   obtain _|n:=n
   · rw [QbV]at hr;cases hr
   rw [QbV]at hr
   rcases hor with⟨rfl,g⟩|⟨vo,g,g'⟩
   all_goals
     repeat' first
       |(refine El.el hr ?_;clear hr;intro hr)
       |(with_reducible intro h;refine XH hr h ?_;clear hr;intro hr)
       |with_reducible intro _
       |simp only [go_sem,simprocAttr,f0,f1,f2,f3,f4,f5,f6,f7,f8,f9,f10,f11,g,q2,q3,q4,hrc,e28,Y8,Xam,upd]
       |simp only [go_sem,simprocAttr,g']
       |(with_reducible first|apply Xk|apply Xj|apply XA)
       |(refine XB ?_ ?_;· first|assumption|omega)
       |(with_reducible first|refine CallX.c ?_ _|refine OK.c hr hw ?_ (λz hr=>?_) _)
       |(refine YieldX.of (l:=l) (kr:=1) (v:=sO.k + 1) (r:=rc) (p1:=12) (p2:=13) sO.t 22 1000 ?_ hst hA hB hps ae ae rfl hkr hsz2 hO (λx2=>?_) _;· (simp only [go_sem,simprocAttr,f11]))
       |fail
   all_goals first
     | (refine ⟨n, WK _, _, _, vp, hr, ?_, ?_, ?_, ?_, ?_, ?_, ?_, ?_, ?_, ?_, ?_, ?_, ?_, .inr ?_⟩
        all_goals first
          |rfl
          |(simp only [go_sem,simprocAttr,f1,f2,f3,f4,f6,f7,f8,f9,f10,f11,f12,g,upd,hrc,e28,Y8,Xam,Wu,UV,Ib,Uq,U9,UA,Um];done))
     | (refine Xu hr ?_
        intro hr
        refine⟨⟨.done,some .ret,rc.fn,rc.tmps,rc.params,rc.assign,rc.body,rc.defers⟩,?_,by simp,.inr ⟨rfl,λa' w' h=>Or.inr ⟨D,2,sO.k,y.2,hb0,hkd,_,h,?_,?_⟩⟩⟩
        rotate_right
        · subst hr
          simp only [go_sem,simprocAttr,f0,f1,f2,f3,f4,f9,f10,f11,f12,g,q0,q2,q3,q4,upd]
          with_reducible refine X4 ?_
          simp only [go_sem,simprocAttr,U9]
        all_goals first
          |rfl
          |(simp only [go_sem,simprocAttr,f11,f12,upd];done))
     | (refine Xu hr ?_
        intro hr
        refine⟨rc,?_,by rw [hst];simp,.inl ⟨hpe,λa' w' h=>fin _ _ 0 [] a' w' hr.symm ?_ ?_ ?_ (.inl ⟨rfl,?_⟩) h⟩⟩
        all_goals first
          |rfl
          |(simp only [go_sem,simprocAttr,f9,f10,f11,f12,g,upd];done))
     | (refine Xu hr ?_
        intro hr
        refine⟨rc,?_,by rw [hst];simp,.inl ⟨hpe,λa' w' h=>fin _ _ vo out a' w' hr.symm ?_ ?_ ?_ (.inr ⟨?_,?_⟩) h⟩⟩
        all_goals first
          |rfl
          |(simp only [go_sem,simprocAttr,f9,f10,f11,f12,g,g',upd];done))
     |trace_state

abbrev QiD:=λN e c (Q:(List Int)→Prop) n (st:St)=>∃f d g,QaT N e c n f d=some g/\Q g/\((∃a b,st.n=42/\st.s 2496=some (a,.arr false 55 1 (d.map e55) 0)/\st.t 1=.ept 64 b 6 0 0/\st.t 4=s55 c.1/\st.t 5=vi c.2/\st.t 6=.osl 2496 a 1 0 d.length/\st.t 7=vi f/\st.s 64=some (b,.arr true 28 6 [e28 e] 0))\/(∃b,(st.n=42/\st.t 1=.ept 64 b 6 0 0/\st.t 4=s55 c.1/\st.t 5=vi c.2/\st.t 6=.nsl/\st.t 7=vi f/\st.s 64=some (b,.arr true 28 6 [e28 e] 0))/\d=[]))
abbrev QjL:=λN c d b (Q:(Ex (Int × Bool) Unit)→Prop) n (st:St)=>∃e f,Qck N c d b n e=some f/\Q f/\((∃a,st.n=58/\st.t 1=vi d/\st.t 3=.ept 192 a 6 0 0/\st.t 13=s55 b/\st.t 14=vi b.length/\st.t 15=vi e/\st.s 192=some (a,.arr true 28 6 [e28 c] 0)))
abbrev QkO:=λN d e (Q:(List Int)→Prop) n (st:St)=>∃f c g,Qdi N d e n f c=some g/\Q g/\((∃b a,st.n=40/\st.s 2432=some (b,.arr false 55 1 (c.map e55) 0)/\st.t 5=.ept 320 a 3 0 0/\st.t 7=s55 e.1/\st.t 9=.osl 2432 b 1 0 c.length/\st.t 10=vi f/\st.s 320=some (a,.arr true 84 3 [e84 d.1] 0))\/(∃a,(st.n=40/\st.t 5=.ept 320 a 3 0 0/\st.t 7=s55 e.1/\st.t 9=.nsl/\st.t 10=vi f/\st.s 320=some (a,.arr true 84 3 [e84 d.1] 0))/\c=[]))
def g23:(∀N a0,OK (Qaj N a0) 23 [.agg (e28 a0)] [] (λr=>.tup [s55 r.1,vi r.2]) λr=>[])/\(∀N a0 a1 a2,OK (QfG N a0 a1 a2) 238 [.agg (e28 a0),vi a1,s55 a2] [] (λr=>.tup [vu r.1,.v (.bool r.2)]) λr=>[])/\(∀N a0 a1,OK (QgM N a0 a1) 25 [.agg (e28 a0),vu a1] [] (λr=>s55 r) λr=>[]):=by
 refine⟨λN _=>rk Tryz.f23 ?_,λN _ _ _=>rk Tryz.f238 ?_,λN _ _=>rk Tryz.f25 ?_⟩<;>(rintro _ hw r hr C _ rfl hwf hf;simp only[Tryz.f23,Tryz.f238,Tryz.f25,Option.get!];(first|rw[Qaj]at hr|rw[QfG]at hr|rw[QgM]at hr);repeat' first
 |(refine El.el hr ?_;intro hr)
 |(with_reducible intro h;refine XH hr h ?_;intro hr)
 |with_reducible intro _
 |(refine Xu hr ?_;rintro rfl;have hr:=hk;clear hk)
 |simp only[go_sem,simprocAttr,E,X2,XS]
 |(with_reducible first|apply Xk|apply Xj|apply XA|apply XF|apply XG)
 |((first|with_reducible refine Y1 hr ag ?_ ?_|(with_reducible refine YN hr ?_ ?_;rotate_left;intro p;rotate_right));(·simp only[go_sem,simprocAttr]);intro hp hn hd hr;(try have X2:=hd _ e55);(try simp only[go_sem,simprocAttr]at X2);(try have XS:=hd _ Y8);(try simp only[go_sem,simprocAttr]at XS))
 |(refine XB ?_ ?_;.first|assumption|omega)
 |(with_reducible first|refine CallX.c ?_ _|refine OK.c hr hw ?_ (λy hr=>?_) _|refine OK.d hr hw ?_ (λy hr=>?_) _)
 |(with_reducible refine lp (QiD N _ _) hr N ?_ (λex hq hk=>⟨_,_,ex,hq,hk,?_⟩) _;clear hr;(try clear E);rintro n1 st ⟨v2,v3,ex,hr,hk,(⟨_,_,E⟩|⟨_,E,z0⟩)⟩<;>(try subst z0)<;>(obtain _|n1:=n1<;>rw[QaT]at hr))
 |refine⟨_,WK _,_,_,_,hr,hk,?_⟩
 |(with_reducible refine lp (QjL N _ _ _) hr N ?_ (λex hq hk=>⟨_,ex,hq,hk,?_⟩) _;clear hr;(try clear E);rintro n1 st ⟨v1,ex,hr,hk,⟨_,E⟩⟩<;>(obtain _|n1:=n1<;>rw[Qck]at hr))
 |refine⟨_,WK _,_,_,hr,hk,?_⟩
 |(with_reducible refine lp (QkO N _ _) hr N ?_ (λex hq hk=>⟨_,_,ex,hq,hk,?_⟩) _;clear hr;(try clear E);rintro n1 st ⟨v3,v4,ex,hr,hk,(⟨_,_,E⟩|⟨_,E,z0⟩)⟩<;>(try subst z0)<;>(obtain _|n1:=n1<;>rw[Qdi]at hr))
 |refine dc 23 6 hf 8 [(0,491521,[[],[512]]),(0,81921,[[],[512]]),(0,49153,[[],[512]]),(6,16385,[[],[512]]),(14,16385,[[],[512]]),(31,1,[[],[512]]),(63,1,[[],[512]]),(127,2097153,[[],[512]]),(127,1048577,[[],[512]]),(0,4186112,[[512],[]]),(767,2097152,[[512],[]]),(2047,0,[])] ?_
 |refine dc 238 5 hf 25 [(0,12,[]),(1,12,[]),(0,3,[]),(4,3,[]),(15,0,[]),(31,0,[]),(63,0,[])] ?_
 |(refine Xu hr ?_;rintro rfl;with_reducible refine X4 ?_)
 |exact Za hr
 |exact Yb hr
 |(apply Yc;assumption)
 |((first|refine XH (c:=true) hr rfl ?_|refine XH (c:=false) hr rfl ?_|refine XH hr ag ?_);intro hr)
 |fail)
abbrev QkP:=g23.1
abbrev Qmx:=g23.2.1
abbrev QnA:=g23.2.2
attribute [instance] QkP Qmx QnA
end Go.Sx
