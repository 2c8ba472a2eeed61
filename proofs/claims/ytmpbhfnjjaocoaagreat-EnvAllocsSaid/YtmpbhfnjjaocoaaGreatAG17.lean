import Derived.Test.YtmpbhfnjjaocoaaGreatAG16
set_option linter.all false
namespace Go.Sx
open Go.Proofs
set_option maxRecDepth 10000
set_option maxHeartbeats 100000000
def g27:(∀N a0 a1,OK (QfC N a0 a1) 286 [.agg (e27 a0),vi a1] [] (λr=>.agg (XoX r)) λr=>[])/\(∀N a0 a1 a2 a3,OK (QbO N a0 a1 a2 a3) 252 [.agg (e27 a0),vu a1,vi a2,vu a3] [] (λr=>.tup [.agg (e27 r.1),vi r.2]) λr=>[])/\(∀N a0 a1 a2 a3 a4 a5,OK (QfT N a0 a1 a2 a3 a4 a5) 182 [.agg (e65 a0),vi a1,vu a2,vu a3,vu a4,.v (.bool a5)] [] (λr=>vi r) λr=>[])/\(∀N a0 a1 a2,OK (Qif N a0 a1 a2) 131 [.agg (e27 a0),vu a1,vi a2] [] (λr=>.tup [.agg (e27 r.1),vi r.2]) λr=>[])/\(∀N a0 a1,OK (Qev N a0 a1) 41 [.agg (e27 a0),.agg (e51 a1)] [] (λr=>.tup [.agg (e27 r.1),vu r.2.1,vi r.2.2]) λr=>[]):=by
 refine⟨λN _ _=>rk Tryz.f286 [.cell 4 296] [] 57 ?_,λN _ _ _ _=>rk Tryz.f252 [.cell 8 27,.tmp 9] [] 37 ?_,λN _ _ _ _ _ _=>rk Tryz.f182 [.tmp 12] [] 78 ?_,λN _ _ _=>rk Tryz.f131 [.cell 6 27,.tmp 7] [] 23 ?_,λN _ _=>rk Tryz.f41 [.cell 4 27,.tmp 5,.tmp 6] [] 61 ?_⟩<;>(rintro _ hw r hr C _ rfl hwf hf;have hse:=@Zw _ hw;simp only[Tryz.f286,Tryz.f252,Tryz.f182,Tryz.f131,Tryz.f41,Option.get!];(first|rw[QfC]at hr|rw[QbO]at hr|rw[QfT]at hr|rw[Qif]at hr|rw[Qev]at hr);repeat' first
 |(refine El.el hr ?_;clear hr;intro hr)
 |(with_reducible intro h;refine XB hr h ?_;clear hr;intro hr)
 |with_reducible intro _
 |simp only[go_sem,simprocAttr,Xj,hse]
 |(with_reducible first|apply Xi|apply Xh|apply Xs|apply Xq|apply Xr)
 |((first|with_reducible refine Yq hr ag ?_ ?_|(with_reducible refine Yn hr ?_ ?_;rotate_left;intro p;rotate_right));(·simp only[go_sem,simprocAttr,hse]);intro hp hn hd hr;(try have Xj:=hd _ XS);(try simp only[go_sem,simprocAttr]at Xj))
 |(refine Xt ?_ ?_;.first|assumption|omega)
 |(with_reducible first|refine CallX.c ?_ _|refine OK.c hr hw ?_ (λy hr=>?_) _|refine IM hr hw ?_ (λy hr=>?_) _)
 |refine dc 286 1 hf 9 [(0,4,[]),(1,4,[]),(0,3,[]),(7,0,[]),(15,0,[]),(31,0,[]),(63,0,[]),(127,0,[]),(255,50176,[]),(511,50176,[]),(255,49920,[]),(2047,49152,[]),(4095,49152,[]),(8191,49152,[]),(255,16128,[]),(16639,16128,[]),(65535,0,[]),(131071,0,[])] ?_
 |refine dc 41 3 hf 7 [(0,393219,[[],[448,512]]),(0,65539,[[],[448,512]]),(2,65539,[[],[448,512]]),(7,3,[[],[448,512]]),(15,3,[[],[448,512]]),(31,6291459,[[],[448,512]]),(31,5242883,[[],[448,512]]),(31,3145731,[[],[448,512]]),(0,8355842,[[448],[512]]),(0,8355841,[[512],[448]]),(831,6291456,[[448],[]]),(1919,4194304,[[512],[]]),(4095,0,[])] ?_
 |(refine Xn hr ?_;rintro rfl;with_reducible refine XP ?_)
 |exact Yw hr
 |fail)
abbrev Qpb:=g27.1
abbrev QkB:=g27.2.1
abbrev QlW:=g27.2.2.1
abbrev QpI:=g27.2.2.2.1
abbrev QpJ:=g27.2.2.2.2
attribute [instance] Qpb QkB QlW QpI QpJ
def Iwl(N:Nat)(a0:Wk)(a1:Int)(p1:Wt)(r:List UJ × Int)(l kk vh vi v4 v5 v6:Nat)(rc:Loop)(n:Nat)(st:St):Prop:=
  ∃(at_:Int) (out:List UJ) (vp:Nat),QbS N a0 a1 p1 n at_ out = some r /\ st.n = 58 /\ st.t 0 = .clo (.yield l) [] [] /\ st.t 1 = .ept 51328 vh 6 0 0 /\ st.t 2 = .ept 51392 vi 1 0 0 /\ st.t 4 = .ept 25856 vp 4 0 0 /\ st.t 5 = .v (.int .i64 at_) /\
    st.s 51328 = some (vh,.arr true 27 6 [e27 a0] 0) /\ st.s 51392 = some (vi,.arr true 3 1 [[.v (.int .i64 a1)]] 0) /\ st.s 25856 = some (vp,.arr true 175 4 [XS p1] 0) /\
    st.s 256 = some (v4,.arr true 275 1 [[.nsl]] 0) /\ st.s 320 = some (v5,.arr true 43 1 [[.v (.int .i64 0)]] 0) /\ st.s 1 = some (kk + 1,.raw (.loop rc)) /\ st.s 2 = some (kk,.raw (.deferred (some []))) /\
    ((out = [] /\ st.s 384 = some (v6,.arr true 275 1 [[.nsl]] 0)) \/ ∃vo,st.s 384 = some (v6,.arr true 275 1 [[.osl 26880 vo 4 0 out.length]] 0) /\ st.s 26880 = some (vo,.arr false 281 4 (out.map Vw) 0))
def Qwl(a0:Wk)(a1:Int)(st:St):Prop:=∃vh vi v4 v5 v6:Nat,st.n = 22 /\ st.t 11 = .clo (.func 304) [] [.ept 51328 vh 6 0 0,.ept 51392 vi 1 0 0] /\ st.t 4 = .ept 256 v4 1 0 0 /\ st.t 5 = .ept 320 v5 1 0 0 /\ st.t 6 = .ept 384 v6 1 0 0 /\
    st.s 51328 = some (vh,.arr true 27 6 [e27 a0] 0) /\ st.s 51392 = some (vi,.arr true 3 1 [[.v (.int .i64 a1)]] 0) /\ st.s 256 = some (v4,.arr true 275 1 [[.nsl]] 0) /\ st.s 320 = some (v5,.arr true 43 1 [[.v (.int .i64 0)]] 0) /\ st.s 384 = some (v6,.arr true 275 1 [[.nsl]] 0)
instance Qp8:∀N(a0:Wk)(a1:Int),OK (Qf3 N a0 a1) 214 [.agg (e27 a0),.v (.int .i64 a1)] [] (λr=>.tup [.isl 281 4 (r.1.map Vw),.v (.int .i64 r.2)]) λr=>[]:=by
 refineλN a0 a1=>⟨λG hw r hr=>?_⟩
 rw [Qf3]at hr;refine Xcl (fn:=Tryz.f214) (body:=(Tryz.f214.body).get!) (rs:=[.cell 4 275,.cell 5 43]) [] 22 ac ac ac ac ac ab λC x hG hlb hwf a w hrel=>?_;subst hG;simp only [Tryz.f214,Option.get!];refine JM 5 _ none a w ?_;simp only [Xcj,Ug,Uz,List.cons_append,Uh];refine Xap XnS [_,_] none a w ?_;refine XbJ (Q:=Qwl a0 a1) ?_ [_,_,_] none a w (Kh (R':=ZR Tryz.prog (C.sub 0 x) λ_=>False) (λa w h=>by obtain⟨_,_,hf⟩:=h;exact hf.elim) _ rfl _ _ _ (Yp 1000 _ hrel ?_));rotate_left
 .simp only [go_sem,simprocAttr,Ug,Uz,List.cons_append,Uh];refine CallX.inl (f:=284) 800 (fn:=Tryz.f284) (rs:=[.tmp 4]) (nt:=6) 1000 ac (λx=>?_) _;simp only [Tryz.f284,Option.get!];simp only [go_sem,simprocAttr];refine⟨7,8,2,3,4,?_,?_,?_,?_,?_,?_,?_,?_,?_,?_⟩ <;> first|rfl|(simp only [go_sem,simprocAttr,e27];done)
 clear hrel a w;rintro sO a w hrel ⟨vh,vi,v4,v5,v6,q0,q1,q2,q3,q4,q5,q6,q7,q8,q9⟩;refine Xjn (Xp4 (C:=C.sub 0 x) (gf:=304) (caps:=[.ept 51328 vh 6 0 0,.ept 51392 vi 1 0 0]) rfl rfl hrel q1 1 2 ae (fn:=Tryz.f304) (nt:=58) ac 400 1000 ?_);intro l D rc y hst hpe hps hA hB hsz hkr hkd hO hb0;have hrc:(⟨.ready,none,rc.fn,rc.tmps,rc.params,rc.assign,rc.body,rc.defers⟩:Loop) = rc:=by cases rc;simp only at hst hpe;rw [hst,hpe]
 have hsz2:rc.tmps.size = 22:=hsz.trans q0;-- behind the range
 have fin:∀(S:Heap)(K vo:Nat)(out:List UJ)(a':Act)(w':World),r = (out,0) → S 256 = some (v4,.arr true 275 1 [[.nsl]] 0) → S 320 = some (v5,.arr true 43 1 [[.v (.int .i64 0)]] 0) → S 2 = some (sO.k,.raw (.deferred (some []))) →
     ((out = [] /\ S 384 = some (v6,.arr true 275 1 [[.nsl]] 0)) \/ (S 384 = some (v6,.arr true 275 1 [[.osl 26880 vo 4 0 out.length]] 0) /\ S 26880 = some (vo,.arr false 281 4 (out.map Vw) 0))) →
     Rel Tryz.prog ((C.sub 0 x).mk' y.2 D) ⟨sO.t,S,sO.n,K⟩ a' w' → sem Tryz.prog (C.sub 0 x) (λa w=>ZR Tryz.prog (C.sub 0 x) (Jq Tryz.prog [.cell 4 275,.cell 5 43] [] 0 (Eqs (.tup [.isl 281 4 (r.1.map Vw),.v (.int .i64 r.2)]) [])) a w \/
       Xha Tryz.prog (C.sub 0 x) (Jq Tryz.prog [.cell 4 275,.cell 5 43] [] 0 (Eqs (.tup [.isl 281 4 (r.1.map Vw),.v (.int .i64 r.2)]) [])) a w) (.blk 0 :: ((Xcj 5 (Tryz.f214.body).get!).drop 3).map It.code) none a' w':=by
   intro S K vo out a' w' hr g1 g2 g3 g4 hrel'
   simp only [Tryz.f214,Option.get!,Xcj,List.drop_succ_cons,WX,Ug,Uz]
   refine KY (C:=C.sub 0 x) (C':=(C.sub 0 x).mk' y.2 D) (R':=ZR Tryz.prog ((C.sub 0 x).mk' y.2 D) λst=>st.s 2 = some (sO.k,.raw (.deferred (some []))) /\ Jq Tryz.prog [.cell 4 275,.cell 5 43] [] 0 (Eqs (.tup [.isl 281 4 (r.1.map Vw),.v (.int .i64 r.2)]) []) ⟨st.t,upd st.s 2 (some (sO.k,.raw (.deferred none))),st.n,st.k⟩) rfl ?_ _ ?_ none a' w' (Yp 1000 _ hrel' ?_)
   · exactλa w h=>Or.inr ⟨D,2,sO.k,y.2,hb0,hkd,h⟩
   · rfl
   subst hr
   rcases g4 with⟨rfl,g4⟩|⟨g4,g5⟩
   · simp only [go_sem,simprocAttr,q0,q2,q3,q4,g1,g2,g3,g4]
     with_reducible refine XP ?_
     simp only [go_sem,simprocAttr,Uz]
   · simp only [go_sem,simprocAttr,q0,q2,q3,q4,g1,g2,g3,g4,g5]
     with_reducible refine XP ?_
     simp only [go_sem,simprocAttr]
 simp only [Tryz.f304,Option.get!]
 repeat' first
   |(refine El.el hr ?_;clear hr;intro hr)
   |(with_reducible intro h;refine XB hr h ?_;clear hr;intro hr)
   |with_reducible intro _
   |simp only [go_sem,simprocAttr,q5,q6,Xj]
   |(with_reducible first|apply Xi|apply Xh|apply Xs)
   |(refine Xt ?_ ?_;· first|assumption|omega)
   |((with_reducible refine Yn hr ?_ ?_;rotate_left;intro p;rotate_right);(· simp only [go_sem,simprocAttr]);clear hr;intro hp hn hd hr;have Xj:=hd _ XS;simp only [go_sem,simprocAttr]at Xj)
   |fail
 .refine Xn hr ?_;intro hr;refine⟨rc,?_,by rw [hst];simp,.inl ⟨hpe,λa' w' h=>fin _ _ 0 [] a' w' hr.symm ?_ ?_ ?_ (.inl ⟨rfl,?_⟩) h⟩⟩;all_goals first|rfl|(simp only [go_sem,simprocAttr,q7,q8,q9];done)
 all_goals
   clear hn hd Xj hp
   refine LoopG.of (Iwl N a0 a1 p r l sO.k vh vi v4 v5 v6 rc) 1000 N ?_ ?_ _
   · refine⟨0,[],sO.k + 2 + 1 + 1 + 1 + 1 + 1,hr,?_,?_,?_,?_,?_,?_,?_,?_,?_,?_,?_,?_,?_,.inl ⟨rfl,?_⟩⟩ <;> first|rfl|(simp only [go_sem,simprocAttr,q5,q6,q7,q8,q9,e27,XS];done)
   clear hr
   rintro n st ⟨at_,out,vp,hr,f0,f1,f2,f3,f4,f5,f6,f7,f8,f9,f10,f11,f12,hor⟩
   obtain _|n:=n
   · rw [QbS]at hr;cases hr
   rw [QbS]at hr
   rcases hor with⟨rfl,g⟩|⟨vo,g,g'⟩
   all_goals
     repeat' first
       |(refine El.el hr ?_;clear hr;intro hr)
       |(with_reducible intro h;refine XB hr h ?_;clear hr;intro hr)
       |with_reducible intro _
       |simp only [go_sem,simprocAttr,f0,f1,f2,f3,f4,f5,f6,f7,f8,f9,f10,f11,g,q2,q3,q4,hrc,e27,XS,Vw,upd]
       |simp only [go_sem,simprocAttr,g']
       |(with_reducible first|apply Xi|apply Xh|apply Xs)
       |(refine Xt ?_ ?_;· first|assumption|omega)
       |(with_reducible first|refine CallX.c ?_ _|refine OK.c hr hw ?_ (λz hr=>?_) _)
       |(refine YieldX.of (l:=l) (kr:=1) (v:=sO.k + 1) (r:=rc) (p1:=12) (p2:=13) sO.t 22 1000 ?_ hst hA hB hps ae ae rfl hkr hsz2 hO (λx2=>?_) _;· (simp only [go_sem,simprocAttr,f11]))
       |fail
   all_goals first
     | (refine ⟨n, Wz _, _, _, vp, hr, ?_, ?_, ?_, ?_, ?_, ?_, ?_, ?_, ?_, ?_, ?_, ?_, ?_, .inr ?_⟩
        all_goals first
          |rfl
          |(simp only [go_sem,simprocAttr,f1,f2,f3,f4,f6,f7,f8,f9,f10,f11,f12,g,upd,hrc,e27,XS,Vw,WQ,List.map_append,IE,Uo,Uz,Ug,Uh];done))
     | (refine Xn hr ?_
        intro hr
        refine⟨⟨.done,some .ret,rc.fn,rc.tmps,rc.params,rc.assign,rc.body,rc.defers⟩,?_,by simp,.inr ⟨rfl,λa' w' h=>Or.inr ⟨D,2,sO.k,y.2,hb0,hkd,_,h,?_,?_⟩⟩⟩
        rotate_right
        · subst hr
          simp only [go_sem,simprocAttr,f0,f1,f2,f3,f4,f9,f10,f11,f12,g,q0,q2,q3,q4,upd]
          with_reducible refine XP ?_
          simp only [go_sem,simprocAttr,Uz]
        all_goals first
          |rfl
          |(simp only [go_sem,simprocAttr,f11,f12,upd];done))
     | (refine Xn hr ?_
        intro hr
        refine⟨rc,?_,by rw [hst];simp,.inl ⟨hpe,λa' w' h=>fin _ _ 0 [] a' w' hr.symm ?_ ?_ ?_ (.inl ⟨rfl,?_⟩) h⟩⟩
        all_goals first
          |rfl
          |(simp only [go_sem,simprocAttr,f9,f10,f11,f12,g,upd];done))
     | (refine Xn hr ?_
        intro hr
        refine⟨rc,?_,by rw [hst];simp,.inl ⟨hpe,λa' w' h=>fin _ _ vo out a' w' hr.symm ?_ ?_ ?_ (.inr ⟨?_,?_⟩) h⟩⟩
        all_goals first
          |rfl
          |(simp only [go_sem,simprocAttr,f9,f10,f11,f12,g,g',upd];done))
     |trace_state

abbrev Qjg:=λN a0 y1 (Q:(List Int)→Prop) n (st:St)=>∃v2 v3 ex,QaS N a0 y1 n v2 v3=some ex/\Q ex/\((∃w2496 w64,st.n=42/\st.s 2496=some (w2496,.arr false 58 1 (v3.map e58) 0)/\st.t 1=.ept 64 w64 6 0 0/\st.t 4=s58 y1.1/\st.t 5=vi y1.2/\st.t 6=.osl 2496 w2496 1 0 v3.length/\st.t 7=vi v2/\st.s 64=some (w64,.arr true 27 6 [e27 a0] 0))\/(∃w64,(st.n=42/\st.t 1=.ept 64 w64 6 0 0/\st.t 4=s58 y1.1/\st.t 5=vi y1.2/\st.t 6=.nsl/\st.t 7=vi v2/\st.s 64=some (w64,.arr true 27 6 [e27 a0] 0))/\v3=[]))
abbrev QkC:=λN a0 a1 a2 (Q:(Ex (Int × Bool) Unit)→Prop) n (st:St)=>∃v1 ex,Qci N a0 a1 a2 n v1=some ex/\Q ex/\((∃w192,st.n=58/\st.t 1=vi a1/\st.t 3=.ept 192 w192 6 0 0/\st.t 13=s58 a2/\st.t 14=vi a2.length/\st.t 15=vi v1/\st.s 192=some (w192,.arr true 27 6 [e27 a0] 0)))
def g28:(∀N a0,OK (Qay N a0) 138 [.agg (e27 a0)] [] (λr=>.tup [s58 r.1,vi r.2]) λr=>[])/\(∀N a0 a1 a2,OK (Qf4 N a0 a1 a2) 301 [.agg (e27 a0),vi a1,s58 a2] [] (λr=>.tup [vu r.1,.v (.bool r.2)]) λr=>[]):=by
 refine⟨λN _=>rk Tryz.f138 [.tmp 2,.tmp 3] [] 42 ?_,λN _ _ _=>rk Tryz.f301 [.tmp 6,.tmp 7] [] 58 ?_⟩<;>(rintro _ hw r hr C _ rfl hwf hf;have hse:=@Zw _ hw;simp only[Tryz.f138,Tryz.f301,Option.get!];(first|rw[Qay]at hr|rw[Qf4]at hr);repeat' first
 |(refine El.el hr ?_;clear hr;intro hr)
 |(with_reducible intro h;refine XB hr h ?_;clear hr;intro hr)
 |with_reducible intro _
 |(refine Xn hr ?_;rintro rfl;have hr:=hk;clear hk)
 |simp only[go_sem,simprocAttr,E,Xu,Xj,hse]
 |(with_reducible first|apply Xi|apply Xh|apply Xs|apply Xq|apply Xr)
 |((first|with_reducible refine Yq hr ag ?_ ?_|(with_reducible refine Yn hr ?_ ?_;rotate_left;intro p;rotate_right));(·simp only[go_sem,simprocAttr,hse]);intro hp hn hd hr;(try have Xu:=hd _ e58);(try simp only[go_sem,simprocAttr]at Xu);(try have Xj:=hd _ XS);(try simp only[go_sem,simprocAttr]at Xj))
 |(refine Xt ?_ ?_;.first|assumption|omega)
 |(with_reducible first|refine CallX.c ?_ _|refine OK.c hr hw ?_ (λy hr=>?_) _|refine IM hr hw ?_ (λy hr=>?_) _)
 |(with_reducible refine lp (Qjg N _ _) hr N ?_ (λex hq hk=>⟨_,_,ex,hq,hk,?_⟩) _;clear hr;(try clear E);rintro n1 st ⟨v2,v3,ex,hr,hk,(⟨_,_,E⟩|⟨_,E,z0⟩)⟩<;>(try subst z0)<;>(obtain _|n1:=n1<;>rw[QaS]at hr))
 |refine⟨_,Wz _,_,_,_,hr,hk,?_⟩
 |(with_reducible refine lp (QkC N _ _ _) hr N ?_ (λex hq hk=>⟨_,ex,hq,hk,?_⟩) _;clear hr;(try clear E);rintro n1 st ⟨v1,ex,hr,hk,⟨_,E⟩⟩<;>(obtain _|n1:=n1<;>rw[Qci]at hr))
 |refine⟨_,Wz _,_,_,hr,hk,?_⟩
 |refine dc 138 6 hf 8 [(0,491521,[[],[512]]),(0,81921,[[],[512]]),(0,49153,[[],[512]]),(6,16385,[[],[512]]),(14,16385,[[],[512]]),(31,1,[[],[512]]),(63,1,[[],[512]]),(127,2097153,[[],[512]]),(127,1048577,[[],[512]]),(0,4186112,[[512],[]]),(767,2097152,[[512],[]]),(2047,0,[])] ?_
 |refine dc 301 5 hf 25 [(0,12,[]),(1,12,[]),(0,3,[]),(4,3,[]),(15,0,[]),(31,0,[]),(63,0,[])] ?_
 |(refine Xn hr ?_;rintro rfl;with_reducible refine XP ?_)
 |exact Yw hr
 |((first|refine XB (c:=true) hr rfl ?_|refine XB (c:=false) hr rfl ?_|refine XB hr ag ?_);intro hr)
 |fail)
abbrev QlX:=g28.1
abbrev QnR:=g28.2
attribute [instance] QlX QnR
end Go.Sx
