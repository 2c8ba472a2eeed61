import Derived.Test.YtokkmapiallffaaGreatDoorKG11
set_option linter.all false
namespace Go.Sx
open Go.Proofs Tryz
set_option maxRecDepth 10000
set_option maxHeartbeats 100000000
def g34.sp{p:Prop}(h:p:=by first|((first|refine dq 100 3 hf [(0,[],[448,512]),(1,[],[448,512]),(2,[],[448,512]),(3,[],[448,512]),(4,[],[448,512]),(5,[],[448,512]),(6,[],[448,512]),(7,[],[448,512]),(8,[448],[512]),(9,[512],[448]),(10,[448],[]),(11,[512],[])] ?_)<;>exact zz)|fail):p:=h
def g34.g:(∀N(a0:Wh)(a1:Int),O1 (Qee N a0 a1) 301 [c28 a0,vi a1] (λr=>Xrz r))/\(∀N(a0:Wh)(a1:Int)(a2:Int)(a3:Int),O1 (Qcl N a0 a1 a2 a3) 195 [c28 a0,vu a1,vi a2,vu a3] (λr=>.tup [c28 r.1,vi r.2]))/\(∀N(a0:WO)(a1:Int)(a2:Int)(a3:Int)(a4:Int)(a5:Bool),O1 (QfK N a0 a1 a2 a3 a4 a5) 117 [c42 a0,vi a1,vu a2,vu a3,vu a4,vb a5] (λr=>vi r))/\(∀N(a0:Wh)(a1:Int)(a2:Int),O1 (Qhw N a0 a1 a2) 137 [c28 a0,vu a1,vi a2] (λr=>.tup [c28 r.1,vi r.2]))/\(∀N(a0:Wh)(a1:Wy),O1 (Qhy N a0 a1) 100 [c28 a0,c98 a1] (λr=>.tup [c28 r.1,vu r.2.1,vi r.2.2])):=by refine⟨λN _ _=>rk f301 ?_,λN _ _ _ _=>rk f195 ?_,λN _ _ _ _ _ _=>rk f117 ?_,λN _ _ _=>rk f137 ?_,λN _ _=>rk f100 ?_⟩<;>(simp only[f301,f195,f117,f137,f100,Option.get!,Qee,Qcl,QfK,Qhw,Qhy];exact zh)
abbrev QnA:=g34.g.1
abbrev Qjt:=g34.g.2.1
abbrev QkH:=g34.g.2.2.1
abbrev Qn7:=g34.g.2.2.2.1
abbrev Qn8:=g34.g.2.2.2.2
attribute [instance] QnA Qjt QkH Qn7 Qn8
def Iwl(N:Nat)(a0:Wh)(a1:Int)(p1:Wp)(r:List UU × Int)(l kk vh vi v4 v5 v6:Nat)(rc:Loop)(n:Nat)(st:St):Prop:=
  ∃(at_:Int) (out:List UU) (vp:Nat),Qb3 N a0 a1 p1 n at_ out = some r /\ st.n = 58 /\ st.t 0 = .clo (.yield l) [] [] /\ st.t 1 = .ept 51328 vh 6 0 0 /\ st.t 2 = .ept 51392 vi 1 0 0 /\ st.t 4 = .ept 25856 vp 4 0 0 /\ st.t 5 = .v (.int .i64 at_) /\
    st.s 51328 = some (vh,.arr true 28 6 [e28 a0] 0) /\ st.s 51392 = some (vi,.arr true 3 1 [[.v (.int .i64 a1)]] 0) /\ st.s 25856 = some (vp,.arr true 159 4 [YT p1] 0) /\
    st.s 256 = some (v4,.arr true 236 1 [[.nsl]] 0) /\ st.s 320 = some (v5,.arr true 48 1 [[.v (.int .i64 0)]] 0) /\ st.s 1 = some (kk + 1,.raw (.loop rc)) /\ st.s 2 = some (kk,.raw (.deferred (some []))) /\
    ((out = [] /\ st.s 384 = some (v6,.arr true 236 1 [[.nsl]] 0)) \/ ∃vo,st.s 384 = some (v6,.arr true 236 1 [[.osl 26880 vo 4 0 out.length]] 0) /\ st.s 26880 = some (vo,.arr false 242 4 (out.map VL) 0))
def Qwl(a0:Wh)(a1:Int)(st:St):Prop:=∃vh vi v4 v5 v6:Nat,st.n = 22 /\ st.t 11 = .clo (.func 296) [] [.ept 51328 vh 6 0 0,.ept 51392 vi 1 0 0] /\ st.t 4 = .ept 256 v4 1 0 0 /\ st.t 5 = .ept 320 v5 1 0 0 /\ st.t 6 = .ept 384 v6 1 0 0 /\
    st.s 51328 = some (vh,.arr true 28 6 [e28 a0] 0) /\ st.s 51392 = some (vi,.arr true 3 1 [[.v (.int .i64 a1)]] 0) /\ st.s 256 = some (v4,.arr true 236 1 [[.nsl]] 0) /\ st.s 320 = some (v5,.arr true 48 1 [[.v (.int .i64 0)]] 0) /\ st.s 384 = some (v6,.arr true 236 1 [[.nsl]] 0)
instance QpC:∀N(a0:Wh)(a1:Int),OK (QfU N a0 a1) 226 [.agg (e28 a0),.v (.int .i64 a1)] [] (λr=>.tup [.isl 242 4 (r.1.map VL),.v (.int .i64 r.2)]) λr=>[]:=by
 refineλN a0 a1=>⟨λG hw r hr=>?_⟩
 rw [QfU]at hr;refine Xdy (fn:=f226) (body:=(f226.body).get!) (rs:=[.cell 4 236,.cell 5 48]) [] 22 ae ae ae ae ae ac λC x hG hlb hwf a w hrel=>?_;subst hG;simp only [f226,Option.get!];refine Vp 5 _ none a w ?_;simp only [Xdw,UA,Il,List.cons_append,W8];refine Xbu Xqv [_,_] none a w ?_;refine XcQ (Q:=Qwl a0 a1) ?_ [_,_,_] none a w (KC (R':=Zp prog (C.sub 0 x) λ_=>False) (λa w h=>by obtain⟨_,_,hf⟩:=h;exact hf.elim) _ rfl _ _ _ (Yj 1000 _ hrel ?_));rotate_left
 .simp only [go_sem,simprocAttr,UA,Il,List.cons_append,W8];refine CallX.inl (f:=272) 800 (fn:=f272) (rs:=[.tmp 4]) (nt:=6) 1000 ae (λx=>?_) _;simp only [f272,Option.get!];simp only [go_sem,simprocAttr];refine⟨7,8,2,3,4,?_,?_,?_,?_,?_,?_,?_,?_,?_,?_⟩ <;> first|rfl|(simp only [go_sem,simprocAttr,e28];done)
 clear hrel a w;rintro sO a w hrel ⟨vh,vi,v4,v5,v6,q0,q1,q2,q3,q4,q5,q6,q7,q8,q9⟩;refine XlD (XsB (C:=C.sub 0 x) (gf:=296) (caps:=[.ept 51328 vh 6 0 0,.ept 51392 vi 1 0 0]) rfl rfl hrel q1 1 2 ag (fn:=f296) (nt:=58) ae 400 1000 ?_);intro l D rc y hst hpe hps hA hB hsz hkr hkd hO hb0;have hrc:(⟨.ready,none,rc.fn,rc.tmps,rc.params,rc.assign,rc.body,rc.defers⟩:Loop) = rc:=by cases rc;simp only at hst hpe;rw [hst,hpe]
 have hsz2:rc.tmps.size = 22:=hsz.trans q0;-- behind the range
 have fin:∀(S:Heap) (K vo:Nat) (out:List UU) (a':Act) (w':World),r = (out,0) → S 256 = some (v4,.arr true 236 1 [[.nsl]] 0) → S 320 = some (v5,.arr true 48 1 [[.v (.int .i64 0)]] 0) → S 2 = some (sO.k,.raw (.deferred (some []))) →
     ((out = [] /\ S 384 = some (v6,.arr true 236 1 [[.nsl]] 0)) \/ (S 384 = some (v6,.arr true 236 1 [[.osl 26880 vo 4 0 out.length]] 0) /\ S 26880 = some (vo,.arr false 242 4 (out.map VL) 0))) →
     Rel prog ((C.sub 0 x).mk' y.2 D) ⟨sO.t,S,sO.n,K⟩ a' w' → sem prog (C.sub 0 x) (λa w=>Zp prog (C.sub 0 x) (JW prog [.cell 4 236,.cell 5 48] [] 0 (Eqs (.tup [.isl 242 4 (r.1.map VL),.v (.int .i64 r.2)]) [])) a w \/
       Xi5 prog (C.sub 0 x) (JW prog [.cell 4 236,.cell 5 48] [] 0 (Eqs (.tup [.isl 242 4 (r.1.map VL),.v (.int .i64 r.2)]) [])) a w) (.blk 0 :: ((Xdw 5 (f226.body).get!).drop 3).map It.code) none a' w':=by
   intro S K vo out a' w' hr g1 g2 g3 g4 hrel'
   simp only [f226,Option.get!,Xdw,List.drop_succ_cons,WX,UA,Il]
   refine Jo (C:=C.sub 0 x) (C':=(C.sub 0 x).mk' y.2 D) (R':=Zp prog ((C.sub 0 x).mk' y.2 D) λst=>st.s 2 = some (sO.k,.raw (.deferred (some []))) /\ JW prog [.cell 4 236,.cell 5 48] [] 0 (Eqs (.tup [.isl 242 4 (r.1.map VL),.v (.int .i64 r.2)]) []) ⟨st.t,upd st.s 2 (some (sO.k,.raw (.deferred none))),st.n,st.k⟩) rfl ?_ _ ?_ none a' w' (Yj 1000 _ hrel' ?_)
   · exactλa w h=>Or.inr ⟨D,2,sO.k,y.2,hb0,hkd,h⟩
   · rfl
   subst hr
   rcases g4 with⟨rfl,g4⟩|⟨g4,g5⟩
   · simp only [go_sem,simprocAttr,q0,q2,q3,q4,g1,g2,g3,g4]
     with_reducible refine ZJ ?_
     simp only [go_sem,simprocAttr,Il]
   · simp only [go_sem,simprocAttr,q0,q2,q3,q4,g1,g2,g3,g4,g5]
     with_reducible refine ZJ ?_
     simp only [go_sem,simprocAttr]
 simp only [f296,Option.get!]
 repeat' first
   |(refine El.el hr ?_;clear hr;intro hr)
   |(with_reducible intro h;refine Y5 hr h ?_;clear hr;intro hr)
   |with_reducible intro _
   |simp only [go_sem,simprocAttr,q5,q6,XT]
   |(with_reducible first|apply XP|apply XO|apply YF)
   |(refine YG ?_ ?_;· first|assumption|omega)
   |((with_reducible refine KO hr ?_ ?_;rotate_left;intro p;rotate_right);(· simp only [go_sem,simprocAttr]);clear hr;intro hp hn hd hr;have XT:=hd _ YT;simp only [go_sem,simprocAttr]at XT)
   |fail
 .refine Yq hr ?_;intro hr;refine⟨rc,?_,by rw [hst];simp,.inl ⟨hpe,λa' w' h=>fin _ _ 0 [] a' w' hr.symm ?_ ?_ ?_ (.inl ⟨rfl,?_⟩) h⟩⟩;all_goals first|rfl|(simp only [go_sem,simprocAttr,q7,q8,q9];done)
 all_goals
   clear hn hd XT hp
   refine LoopG.of (Iwl N a0 a1 p r l sO.k vh vi v4 v5 v6 rc) 1000 N ?_ ?_ _
   · refine⟨0,[],sO.k + 2 + 1 + 1 + 1 + 1 + 1,hr,?_,?_,?_,?_,?_,?_,?_,?_,?_,?_,?_,?_,?_,.inl ⟨rfl,?_⟩⟩ <;> first|rfl|(simp only [go_sem,simprocAttr,q5,q6,q7,q8,q9,e28,YT];done)
   clear hr
   rintro n st ⟨at_,out,vp,hr,f0,f1,f2,f3,f4,f5,f6,f7,f8,f9,f10,f11,f12,hor⟩
   obtain _|n:=n
   · rw [Qb3]at hr;cases hr
   rw [Qb3]at hr
   rcases hor with⟨rfl,g⟩|⟨vo,g,g'⟩
   all_goals
     repeat' first
       |(refine El.el hr ?_;clear hr;intro hr)
       |(with_reducible intro h;refine Y5 hr h ?_;clear hr;intro hr)
       |with_reducible intro _
       |simp only [go_sem,simprocAttr,f0,f1,f2,f3,f4,f5,f6,f7,f8,f9,f10,f11,g,q2,q3,q4,hrc,e28,YT,VL,upd]
       |simp only [go_sem,simprocAttr,g']
       |(with_reducible first|apply XP|apply XO|apply YF)
       |(refine YG ?_ ?_;· first|assumption|omega)
       |(with_reducible first|refine CallX.c ?_ _|refine OK.c hr hw ?_ (λz hr=>?_) _)
       |(refine YieldX.of (l:=l) (kr:=1) (v:=sO.k + 1) (r:=rc) (p1:=12) (p2:=13) sO.t 22 1000 ?_ hst hA hB hps ag ag rfl hkr hsz2 hO (λx2=>?_) _;· (simp only [go_sem,simprocAttr,f11]))
       |fail
   all_goals first
     | (refine ⟨n, UQ _, _, _, vp, hr, ?_, ?_, ?_, ?_, ?_, ?_, ?_, ?_, ?_, ?_, ?_, ?_, ?_, .inr ?_⟩
        all_goals first
          |rfl
          |(simp only [go_sem,simprocAttr,f1,f2,f3,f4,f6,f7,f8,f9,f10,f11,f12,g,upd,hrc,e28,YT,VL,WK,UI,IQ,Ul,Il,UA,W8];done))
     | (refine Yq hr ?_
        intro hr
        refine⟨⟨.done,some .ret,rc.fn,rc.tmps,rc.params,rc.assign,rc.body,rc.defers⟩,?_,by simp,.inr ⟨rfl,λa' w' h=>Or.inr ⟨D,2,sO.k,y.2,hb0,hkd,_,h,?_,?_⟩⟩⟩
        rotate_right
        · subst hr
          simp only [go_sem,simprocAttr,f0,f1,f2,f3,f4,f9,f10,f11,f12,g,q0,q2,q3,q4,upd]
          with_reducible refine ZJ ?_
          simp only [go_sem,simprocAttr,Il]
        all_goals first
          |rfl
          |(simp only [go_sem,simprocAttr,f11,f12,upd];done))
     | (refine Yq hr ?_
        intro hr
        refine⟨rc,?_,by rw [hst];simp,.inl ⟨hpe,λa' w' h=>fin _ _ 0 [] a' w' hr.symm ?_ ?_ ?_ (.inl ⟨rfl,?_⟩) h⟩⟩
        all_goals first
          |rfl
          |(simp only [go_sem,simprocAttr,f9,f10,f11,f12,g,upd];done))
     | (refine Yq hr ?_
        intro hr
        refine⟨rc,?_,by rw [hst];simp,.inl ⟨hpe,λa' w' h=>fin _ _ vo out a' w' hr.symm ?_ ?_ ?_ (.inr ⟨?_,?_⟩) h⟩⟩
        all_goals first
          |rfl
          |(simp only [go_sem,simprocAttr,f9,f10,f11,f12,g,g',upd];done))
     |trace_state

abbrev Qig:=λN e a Q n (st:St)=>∃g d,Iv (Qa7 N e a n g d) Q ((∃b c,st.n=42/\r59 st 2496 b d/\pt st 1 64 c 6/\st.t 4=s59 a.1/\st.t 5=vi a.2/\ol st 6 2496 b 1 d.length/\st.t 7=vi g/\bx st 64 c 28 6 (e28 e))\/(∃c,(st.n=42/\pt st 1 64 c 6/\st.t 4=s59 a.1/\st.t 5=vi a.2/\st.t 6=.nsl/\st.t 7=vi g/\bx st 64 c 28 6 (e28 e))/\d=[]))
abbrev Qju:=λN d e a Q n (st:St)=>∃c,Iv (Qco N d e a n c) Q ((∃b,st.n=58/\st.t 1=vi e/\pt st 3 192 b 6/\st.t 13=s59 a/\st.t 14=vi a.length/\st.t 15=vi c/\bx st 192 b 28 6 (e28 d)))
abbrev QkI:=λN e a Q n (st:St)=>∃h g,Iv (Qd9 N e a n h g) Q ((∃b d c,st.n=40/\r59 st 1280 b a.1/\r59 st 2432 d g/\pt st 5 320 c 3/\ol st 7 1280 b 1 a.1.length/\ol st 9 2432 d 1 g.length/\st.t 10=vi h/\bx st 320 c 98 3 (e98 e.1))\/(∃b c,(st.n=40/\r59 st 1280 b a.1/\pt st 5 320 c 3/\ol st 7 1280 b 1 a.1.length/\st.t 9=.nsl/\st.t 10=vi h/\bx st 320 c 98 3 (e98 e.1))/\g=[]))
def g35.sp{p:Prop}(h:p:=by first|((first|((with_reducible refine lp (Qig N _ _) hr N ?_ (λ_ p q=>⟨_,_,_,p,q,?_⟩) _);have lq:=@Qa7.eq_2;exact zr)|((with_reducible refine lp (Qju N _ _ _) hr N ?_ (λ_ p q=>⟨_,_,p,q,?_⟩) _);have lq:=@Qco.eq_2;exact zr)|((with_reducible refine lp (QkI N _ _) hr N ?_ (λ_ p q=>⟨_,_,_,p,q,?_⟩) _);have lq:=@Qd9.eq_2;exact zr)|refine dq 87 6 hf [(0,[],[512]),(1,[],[512]),(2,[],[512]),(3,[],[512]),(4,[],[512]),(5,[],[512]),(6,[],[512]),(7,[],[512]),(8,[],[512]),(9,[512],[]),(10,[512],[])] ?_)<;>exact zz)|fail):p:=h
def g35.g:(∀N(a0:Wh),O1 (Qal N a0) 87 [c28 a0] (λr=>.tup [s59 r.1,vi r.2]))/\(∀N(a0:Wh)(a1:Int)(a2:List Int),O1 (QfV N a0 a1 a2) 274 [c28 a0,vi a1,s59 a2] (λr=>.tup [vu r.1,vb r.2]))/\(∀N(a0:Wh)(a1:Int),O1 (Qg2 N a0 a1) 89 [c28 a0,vu a1] (λr=>s59 r)):=by refine⟨λN _=>rk f87 ?_,λN _ _ _=>rk f274 ?_,λN _ _=>rk f89 ?_⟩<;>(simp only[f87,f274,f89,Option.get!,Qal,QfV,Qg2];exact zh)
abbrev QkJ:=g35.g.1
abbrev Qmo:=g35.g.2.1
abbrev QnB:=g35.g.2.2
attribute [instance] QkJ Qmo QnB
end Go.Sx
