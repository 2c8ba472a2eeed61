import Derived.Test.YtokkmapiallffaaGreatMG13
set_option linter.all false
namespace Go.Sx
open Go.Proofs Tryz
set_option maxRecDepth 10000
set_option maxHeartbeats 100000000
def g31.sp{p:Prop}(h:p:=by first|((first|refine dq 38 3 hf [(0,[],[448,512]),(1,[],[448,512]),(2,[],[448,512]),(3,[],[448,512]),(4,[],[448,512]),(5,[],[448,512]),(6,[],[448,512]),(7,[],[448,512]),(8,[448],[512]),(9,[512],[448]),(10,[448],[]),(11,[512],[])] ?_)<;>exact zz)|fail):p:=h
def g31.g:(∀N(a0:Wi)(a1:Int),O1 (Qeh N a0 a1) 297 [c28 a0,vi a1] (λr=>XrJ r))/\(∀N(a0:Wi)(a1:Int)(a2:Int)(a3:Int),O1 (Qcm N a0 a1 a2 a3) 199 [c28 a0,vu a1,vi a2,vu a3] (λr=>.tup [c28 r.1,vi r.2]))/\(∀N(a0:WP)(a1:Int)(a2:Int)(a3:Int)(a4:Int)(a5:Bool),O1 (QfR N a0 a1 a2 a3 a4 a5) 123 [c42 a0,vi a1,vu a2,vu a3,vu a4,vb a5] (λr=>vi r))/\(∀N(a0:Wi)(a1:Int)(a2:Int),O1 (Qht N a0 a1 a2) 142 [c28 a0,vu a1,vi a2] (λr=>.tup [c28 r.1,vi r.2]))/\(∀N(a0:Wi)(a1:Ws),O1 (Qew N a0 a1) 38 [c28 a0,c59 a1] (λr=>.tup [c28 r.1,vu r.2.1,vi r.2.2])):=by refine⟨λN _ _=>rk f297 ?_,λN _ _ _ _=>rk f199 ?_,λN _ _ _ _ _ _=>rk f123 ?_,λN _ _ _=>rk f142 ?_,λN _ _=>rk f38 ?_⟩<;>(simp only[f297,f199,f123,f142,f38,Option.get!,Qeh,Qcm,QfR,Qht,Qew];exact zh)
abbrev Qnp:=g31.g.1
abbrev Qjn:=g31.g.2.1
abbrev QkA:=g31.g.2.2.1
abbrev QnU:=g31.g.2.2.2.1
abbrev QnV:=g31.g.2.2.2.2
attribute [instance] Qnp Qjn QkA QnU QnV
def Iwl(N:Nat)(a0:Wi)(a1:Int)(p1:Wo)(r:List UT × Int)(l kk vh vi v4 v5 v6:Nat)(rc:Loop)(n:Nat)(st:St):Prop:=
  ∃(at_:Int) (out:List UT) (vp:Nat),Qb3 N a0 a1 p1 n at_ out = some r /\ st.n = 58 /\ st.t 0 = .clo (.yield l) [] [] /\ st.t 1 = .ept 51328 vh 6 0 0 /\ st.t 2 = .ept 51392 vi 1 0 0 /\ st.t 4 = .ept 25856 vp 4 0 0 /\ st.t 5 = .v (.int .i64 at_) /\
    st.s 51328 = some (vh,.arr true 28 6 [e28 a0] 0) /\ st.s 51392 = some (vi,.arr true 3 1 [[.v (.int .i64 a1)]] 0) /\ st.s 25856 = some (vp,.arr true 122 4 [YT p1] 0) /\
    st.s 256 = some (v4,.arr true 256 1 [[.nsl]] 0) /\ st.s 320 = some (v5,.arr true 48 1 [[.v (.int .i64 0)]] 0) /\ st.s 1 = some (kk + 1,.raw (.loop rc)) /\ st.s 2 = some (kk,.raw (.deferred (some []))) /\
    ((out = [] /\ st.s 384 = some (v6,.arr true 256 1 [[.nsl]] 0)) \/ ∃vo,st.s 384 = some (v6,.arr true 256 1 [[.osl 26880 vo 4 0 out.length]] 0) /\ st.s 26880 = some (vo,.arr false 262 4 (out.map VM) 0))
def Qwl(a0:Wi)(a1:Int)(st:St):Prop:=∃vh vi v4 v5 v6:Nat,st.n = 22 /\ st.t 11 = .clo (.func 293) [] [.ept 51328 vh 6 0 0,.ept 51392 vi 1 0 0] /\ st.t 4 = .ept 256 v4 1 0 0 /\ st.t 5 = .ept 320 v5 1 0 0 /\ st.t 6 = .ept 384 v6 1 0 0 /\
    st.s 51328 = some (vh,.arr true 28 6 [e28 a0] 0) /\ st.s 51392 = some (vi,.arr true 3 1 [[.v (.int .i64 a1)]] 0) /\ st.s 256 = some (v4,.arr true 256 1 [[.nsl]] 0) /\ st.s 320 = some (v5,.arr true 48 1 [[.v (.int .i64 0)]] 0) /\ st.s 384 = some (v6,.arr true 256 1 [[.nsl]] 0)
instance Qpr:∀N(a0:Wi)(a1:Int),OK (Qf0 N a0 a1) 229 [.agg (e28 a0),.v (.int .i64 a1)] [] (λr=>.tup [.isl 262 4 (r.1.map VM),.v (.int .i64 r.2)]) λr=>[]:=by
 refineλN a0 a1=>⟨λG hw r hr=>?_⟩
 rw [Qf0]at hr;refine XdE (fn:=f229) (body:=(f229.body).get!) (rs:=[.cell 4 256,.cell 5 48]) [] 22 ae ae ae ae ae ac λC x hG hlb hwf a w hrel=>?_;subst hG;simp only [f229,Option.get!];refine Vs 5 _ none a w ?_;simp only [XdC,UA,In,Ot,W8];refine Xby XqE [_,_] none a w ?_;refine XcX (Q:=Qwl a0 a1) ?_ [_,_,_] none a w (KH (R':=Zv prog (C.sub 0 x) λ_=>False) (λa w h=>by obtain⟨_,_,hf⟩:=h;exact hf.elim) _ rfl _ _ _ (Yh 1000 _ hrel ?_));rotate_left
 .simp only [go_sem,simprocAttr,UA,In,Ot,W8];refine CallX.inl (f:=274) 800 (fn:=f274) (rs:=[.tmp 4]) (nt:=6) 1000 ae (λx=>?_) _;simp only [f274,Option.get!];simp only [go_sem,simprocAttr];refine⟨7,8,2,3,4,?_,?_,?_,?_,?_,?_,?_,?_,?_,?_⟩ <;> first|rfl|(simp only [go_sem,simprocAttr,e28];done)
 clear hrel a w;rintro sO a w hrel ⟨vh,vi,v4,v5,v6,q0,q1,q2,q3,q4,q5,q6,q7,q8,q9⟩;refine Xl0 (XsI (C:=C.sub 0 x) (gf:=293) (caps:=[.ept 51328 vh 6 0 0,.ept 51392 vi 1 0 0]) rfl rfl hrel q1 1 2 ag (fn:=f293) (nt:=58) ae 400 1000 ?_);intro l D rc y hst hpe hps hA hB hsz hkr hkd hO hb0;have hrc:(⟨.ready,none,rc.fn,rc.tmps,rc.params,rc.assign,rc.body,rc.defers⟩:Loop) = rc:=by cases rc;simp only at hst hpe;rw [hst,hpe]
 have hsz2:rc.tmps.size = 22:=hsz.trans q0;-- behind the range
 have fin:∀(S:Heap) (K vo:Nat) (out:List UT) (a':Act) (w':World),r = (out,0) → S 256 = some (v4,.arr true 256 1 [[.nsl]] 0) → S 320 = some (v5,.arr true 48 1 [[.v (.int .i64 0)]] 0) → S 2 = some (sO.k,.raw (.deferred (some []))) →
     ((out = [] /\ S 384 = some (v6,.arr true 256 1 [[.nsl]] 0)) \/ (S 384 = some (v6,.arr true 256 1 [[.osl 26880 vo 4 0 out.length]] 0) /\ S 26880 = some (vo,.arr false 262 4 (out.map VM) 0))) →
     Rel prog ((C.sub 0 x).mk' y.2 D) ⟨sO.t,S,sO.n,K⟩ a' w' → sem prog (C.sub 0 x) (λa w=>Zv prog (C.sub 0 x) (J4 prog [.cell 4 256,.cell 5 48] [] 0 (Eqs (.tup [.isl 262 4 (r.1.map VM),.v (.int .i64 r.2)]) [])) a w \/
       Xjr prog (C.sub 0 x) (J4 prog [.cell 4 256,.cell 5 48] [] 0 (Eqs (.tup [.isl 262 4 (r.1.map VM),.v (.int .i64 r.2)]) [])) a w) (.blk 0 :: ((XdC 5 (f229.body).get!).drop 3).map It.code) none a' w':=by
   intro S K vo out a' w' hr g1 g2 g3 g4 hrel'
   simp only [f229,Option.get!,XdC,List.drop_succ_cons,WX,UA,In]
   refine Jo (C:=C.sub 0 x) (C':=(C.sub 0 x).mk' y.2 D) (R':=Zv prog ((C.sub 0 x).mk' y.2 D) λst=>st.s 2 = some (sO.k,.raw (.deferred (some []))) /\ J4 prog [.cell 4 256,.cell 5 48] [] 0 (Eqs (.tup [.isl 262 4 (r.1.map VM),.v (.int .i64 r.2)]) []) ⟨st.t,upd st.s 2 (some (sO.k,.raw (.deferred none))),st.n,st.k⟩) rfl ?_ _ ?_ none a' w' (Yh 1000 _ hrel' ?_)
   · exactλa w h=>Or.inr ⟨D,2,sO.k,y.2,hb0,hkd,h⟩
   · rfl
   subst hr
   rcases g4 with⟨rfl,g4⟩|⟨g4,g5⟩
   · simp only [go_sem,simprocAttr,q0,q2,q3,q4,g1,g2,g3,g4]
     with_reducible refine ZS ?_
     simp only [go_sem,simprocAttr,In]
   · simp only [go_sem,simprocAttr,q0,q2,q3,q4,g1,g2,g3,g4,g5]
     with_reducible refine ZS ?_
     simp only [go_sem,simprocAttr]
 simp only [f293,Option.get!]
 repeat' first
   |(refine El.el hr ?_;clear hr;intro hr)
   |(with_reducible intro h;refine Y8 hr h ?_;clear hr;intro hr)
   |with_reducible intro _
   |simp only [go_sem,simprocAttr,q5,q6,XT]
   |(with_reducible first|apply XV|apply XU|apply YM)
   |(refine YN ?_ ?_;· first|assumption|omega)
   |((with_reducible refine Jh hr ?_ ?_;rotate_left;intro p;rotate_right);(· simp only [go_sem,simprocAttr]);clear hr;intro hp hn hd hr;have XT:=hd _ YT;simp only [go_sem,simprocAttr]at XT)
   |fail
 .refine Yv hr ?_;intro hr;refine⟨rc,?_,by rw [hst];simp,.inl ⟨hpe,λa' w' h=>fin _ _ 0 [] a' w' hr.symm ?_ ?_ ?_ (.inl ⟨rfl,?_⟩) h⟩⟩;all_goals first|rfl|(simp only [go_sem,simprocAttr,q7,q8,q9];done)
 all_goals
   clear hn hd XT hp
   refine LoopG.of (Iwl N a0 a1 p r l sO.k vh vi v4 v5 v6 rc) 1000 N ?_ ?_ _
   · refine⟨0,[],sO.k + 2 + 1 + 1 + 1 + 1 + 1,hr,?_,?_,?_,?_,?_,?_,?_,?_,?_,?_,?_,?_,?_,.inl ⟨rfl,?_⟩⟩ <;> first|rfl|(simp only [go_sem,simprocAttr,q5,q6,q7,q8,q9,e28,YT];done)
   clear hr
   rintro n st ⟨at_,out,vp,hr,f0,f1,f2,f3,f4,f5,f6,f7,f8,f9,f10,f11,f12,hor⟩
   obtain _|n:=n
   · rw [Qb3]at hr;cases hr
   rw [Qb3]at hr
   rcases hor with⟨rfl,g⟩|⟨vo,g,g'⟩
   all_goals
     repeat' first
       |(refine El.el hr ?_;clear hr;intro hr)
       |(with_reducible intro h;refine Y8 hr h ?_;clear hr;intro hr)
       |with_reducible intro _
       |simp only [go_sem,simprocAttr,f0,f1,f2,f3,f4,f5,f6,f7,f8,f9,f10,f11,g,q2,q3,q4,hrc,e28,YT,VM,upd]
       |simp only [go_sem,simprocAttr,g']
       |(with_reducible first|apply XV|apply XU|apply YM)
       |(refine YN ?_ ?_;· first|assumption|omega)
       |(with_reducible first|refine CallX.c ?_ _|refine OK.c hr hw ?_ (λz hr=>?_) _)
       |(refine YieldX.of (l:=l) (kr:=1) (v:=sO.k + 1) (r:=rc) (p1:=12) (p2:=13) sO.t 22 1000 ?_ hst hA hB hps ag ag rfl hkr hsz2 hO (λx2=>?_) _;· (simp only [go_sem,simprocAttr,f11]))
       |fail
   all_goals first
     | (refine ⟨n, UP _, _, _, vp, hr, ?_, ?_, ?_, ?_, ?_, ?_, ?_, ?_, ?_, ?_, ?_, ?_, ?_, .inr ?_⟩
        all_goals first
          |rfl
          |(simp only [go_sem,simprocAttr,f1,f2,f3,f4,f6,f7,f8,f9,f10,f11,f12,g,upd,hrc,e28,YT,VM,WK,UG,IT,Ul,In,UA,W8];done))
     | (refine Yv hr ?_
        intro hr
        refine⟨⟨.done,some .ret,rc.fn,rc.tmps,rc.params,rc.assign,rc.body,rc.defers⟩,?_,by simp,.inr ⟨rfl,λa' w' h=>Or.inr ⟨D,2,sO.k,y.2,hb0,hkd,_,h,?_,?_⟩⟩⟩
        rotate_right
        · subst hr
          simp only [go_sem,simprocAttr,f0,f1,f2,f3,f4,f9,f10,f11,f12,g,q0,q2,q3,q4,upd]
          with_reducible refine ZS ?_
          simp only [go_sem,simprocAttr,In]
        all_goals first
          |rfl
          |(simp only [go_sem,simprocAttr,f11,f12,upd];done))
     | (refine Yv hr ?_
        intro hr
        refine⟨rc,?_,by rw [hst];simp,.inl ⟨hpe,λa' w' h=>fin _ _ 0 [] a' w' hr.symm ?_ ?_ ?_ (.inl ⟨rfl,?_⟩) h⟩⟩
        all_goals first
          |rfl
          |(simp only [go_sem,simprocAttr,f9,f10,f11,f12,g,upd];done))
     | (refine Yv hr ?_
        intro hr
        refine⟨rc,?_,by rw [hst];simp,.inl ⟨hpe,λa' w' h=>fin _ _ vo out a' w' hr.symm ?_ ?_ ?_ (.inr ⟨?_,?_⟩) h⟩⟩
        all_goals first
          |rfl
          |(simp only [go_sem,simprocAttr,f9,f10,f11,f12,g,g',upd];done))
     |trace_state

abbrev Qh9:=λN e a Q n (st:St)=>∃g d,Iv (Qa8 N e a n g d) Q ((∃b c,st.n=42/\r52 st 2496 b d/\pt st 1 64 c 6/\st.t 4=s52 a.1/\st.t 5=vi a.2/\ol st 6 2496 b 1 d.length/\st.t 7=vi g/\bx st 64 c 28 6 (e28 e))\/(∃c,(st.n=42/\pt st 1 64 c 6/\st.t 4=s52 a.1/\st.t 5=vi a.2/\st.t 6=.nsl/\st.t 7=vi g/\bx st 64 c 28 6 (e28 e))/\d=[]))
abbrev Qjo:=λN d e a Q n (st:St)=>∃c,Iv (Qcp N d e a n c) Q ((∃b,st.n=58/\st.t 1=vi e/\pt st 3 192 b 6/\st.t 13=s52 a/\st.t 14=vi a.length/\st.t 15=vi c/\bx st 192 b 28 6 (e28 d)))
abbrev QkB:=λN e a Q n (st:St)=>∃h g,Iv (Qec N e a n h g) Q ((∃b d c,st.n=40/\r52 st 1280 b a.1/\r52 st 2432 d g/\pt st 5 320 c 3/\ol st 7 1280 b 1 a.1.length/\ol st 9 2432 d 1 g.length/\st.t 10=vi h/\bx st 320 c 59 3 (e59 e.1))\/(∃b c,(st.n=40/\r52 st 1280 b a.1/\pt st 5 320 c 3/\ol st 7 1280 b 1 a.1.length/\st.t 9=.nsl/\st.t 10=vi h/\bx st 320 c 59 3 (e59 e.1))/\g=[]))
def g32.sp{p:Prop}(h:p:=by first|((first|((with_reducible refine lp (Qh9 N _ _) hr N ?_ (λ_ p q=>⟨_,_,_,p,q,?_⟩) _);have lq:=@Qa8.eq_2;exact zr)|((with_reducible refine lp (Qjo N _ _ _) hr N ?_ (λ_ p q=>⟨_,_,p,q,?_⟩) _);have lq:=@Qcp.eq_2;exact zr)|((with_reducible refine lp (QkB N _ _) hr N ?_ (λ_ p q=>⟨_,_,_,p,q,?_⟩) _);have lq:=@Qec.eq_2;exact zr)|refine dq 79 6 hf [(0,[],[512]),(1,[],[512]),(2,[],[512]),(3,[],[512]),(4,[],[512]),(5,[],[512]),(6,[],[512]),(7,[],[512]),(8,[],[512]),(9,[512],[]),(10,[512],[])] ?_)<;>exact zz)|fail):p:=h
def g32.g:(∀N(a0:Wi),O1 (Qal N a0) 79 [c28 a0] (λr=>.tup [s52 r.1,vi r.2]))/\(∀N(a0:Wi)(a1:Int)(a2:List Int),O1 (Qf1 N a0 a1 a2) 280 [c28 a0,vi a1,s52 a2] (λr=>.tup [vu r.1,vb r.2]))/\(∀N(a0:Wi)(a1:Int),O1 (Qg5 N a0 a1) 81 [c28 a0,vu a1] (λr=>s52 r)):=by refine⟨λN _=>rk f79 ?_,λN _ _ _=>rk f280 ?_,λN _ _=>rk f81 ?_⟩<;>(simp only[f79,f280,f81,Option.get!,Qal,Qf1,Qg5];exact zh)
abbrev QkC:=g32.g.1
abbrev Qme:=g32.g.2.1
abbrev Qnq:=g32.g.2.2
attribute [instance] QkC Qme Qnq
instance QpK:∀N(a0:WP)(a1:Int)(a2:Int)(a3:Int)(a4:Int)(a5:OE),O1 (QfH N a0 a1 a2 a3 a4 a5) 60 [c42 a0,vi a1,vu a2,vu a3,vu a4,Xtk a5] (λr=>.tup [c42 r.1,vu r.2.1,vi r.2.2]):=by
 refineλN _ _ _ _ _ _=>rk f60 ?_<;>(rintro _ hw r hr C _ rfl hwf hf;have hse:=@Xha _ hw;simp only[f60,Option.get!];(rw[QfH]at hr);repeat' first
 |(refine El.el hr ?_;clear hr;intro hr)
 |(with_reducible intro h;refine Y8 hr h ?_;clear hr;intro hr)
 |with_reducible intro _
 |simp only[go_sem,simprocAttr,Z2,JI,hse]
 |(with_reducible first|apply XV|apply XU|apply YM|apply Y1|apply Y2)
 |((first|with_reducible refine Jx hr ah ?_ ?_|(with_reducible refine Jh hr ?_ ?_;rotate_left;intro p;rotate_right));(·simp only[go_sem,simprocAttr,hse]);intro hp hn hd hr;(try have Z2:=hd _ e52;simp only[go_sem,simprocAttr]at Z2);(try have JI:=hd _ XcQ;simp only[go_sem,simprocAttr]at JI))
 |(refine YN ?_ ?_;.first|assumption|omega)
 |(with_reducible first|refine CallX.c ?_ _|refine OK.c hr hw ?_ (λy hr=>?_) _|refine OK.d hr hw ?_ (λy hr=>?_) _)
 |refine dq 60 16 hf [(0,[4864],[5312,5440]),(1,[],[4864,5312,5440]),(2,[],[4864,5312,5440]),(3,[4864],[5312,5440]),(4,[],[4864,5312]),(5,[],[4864]),(6,[],[4864]),(7,[5312],[4864]),(8,[],[4864]),(9,[5312,5440],[4864]),(10,[4864],[]),(12,[384],[])] ?_
 |refine dq 60 27 hf [(14,[],[384]),(15,[384],[])] ?_
 |(refine Yv hr ?_;rintro rfl;with_reducible refine ZS ?_)
 |exact Xbn hr
 |exact Xav hr
 |(apply Xaw;assumption))
def g34:(∀N(a0:Wi)(a1:Int),O1 (QdC N a0 a1) 266 [c28 a0,vu a1] (λr=>vb r))/\(∀N(a0:Wi)(a1:Int),O1 (Qe4 N a0 a1) 140 [c28 a0,vi a1] (λr=>.tup [s52 r.1,vi r.2])):=by refine⟨λN _ _=>rk f266 ?_,λN _ _=>rk f140 ?_⟩<;>(simp only[f266,f140,Option.get!,QdC,Qe4];exact zh)
abbrev Qjp:=g34.1
abbrev QnW:=g34.2
attribute [instance] Qjp QnW
end Go.Sx
