import Derived.Test.YtokkmapiallffaaGreatMG3
set_option linter.all false
namespace Go.Sx
open Go.Proofs Tryz
set_option maxRecDepth 10000
set_option maxHeartbeats 100000000
def g15.sp{p:Prop}(h:p:=by first|((first|(refine ci (f:=222) f222 1600 (λx=>?_) _;simp only[f222,Option.get!])|(refine ci (f:=224) f224 2400 (λx=>?_) _;simp only[f224,Option.get!])|refine dq 225 4 hf [(0,[],[384]),(1,[],[384]),(2,[],[384]),(3,[],[384]),(4,[],[384]),(5,[],[384]),(6,[],[384]),(7,[],[384]),(8,[],[384]),(9,[],[384]),(10,[],[384]),(11,[],[384]),(12,[],[384]),(13,[384],[]),(14,[384],[])] ?_)<;>exact zz)|fail):p:=h
def g15.g:(∀N(a0:List Int)(a1:Int),O1 (Qbk N a0 a1) 163 [s52 a0,vu a1] (λr=>.tup [vu r.1,vi r.2]))/\(∀N(a0:List Int)(a1:Int)(a2:Int),O1 (QdJ N a0 a1 a2) 262 [s52 a0,vu a1,vu a2] (λr=>.tup [s52 r.1,vi r.2]))/\(∀N(a0:Wq)(a1:Int),O1 (Qeq N a0 a1) 193 [c32 a0,vu a1] (λr=>.tup [c32 r.1,vi r.2.1,vi r.2.2.1,vi r.2.2.2]))/\(∀N(a0:Wq)(a1:Int)(a2:Int),O1 (QeZ N a0 a1 a2) 215 [c32 a0,vi a1,vi a2] (λr=>.tup [vu r.1,vi r.2]))/\(∀N(a0:Wq),O1 (Qe0 N a0) 131 [c32 a0] (λr=>.tup [c32 r.1,vi r.2]))/\(∀N a0 a1,OK (Qc0 N a0 a1) 21 [c44 a0,.ept 1000000 0 2 0 0] [.arr true 62 2 [[s3 a1.L,vi a1.at_]] 0] (λr=>c80 r.1) λr=>[.arr true 62 2 [[s3 r.2.L,vi r.2.at_]] 0])/\(∀N(a0:List (List Int)),O1 (Qgp N a0) 50 [s25 a0] (λr=>s52 r))/\(∀N(a0:Int),O1 (Qd6 N a0) 225 [vu a0] (λr=>.tup [c59 r.1,vb r.2]))/\(∀N(a0:List UB)(a1:Int),O1 (QfU N a0 a1) 168 [s93 a0,vu a1] (λr=>vi r))/\(∀N(a0:Wv)(a1:Int),O1 (Qef N a0 a1) 139 [XiY a0,vi a1] (λr=>vb r))/\(∀N a0 a1,OK (QcV N a0 a1) 11 [.ept 1000000 0 2 0 0,c24 a1] [.arr true 62 2 [[s3 a0.L,vi a0.at_]] 0] (λr=>c59 r.1) λr=>[.arr true 62 2 [[s3 r.2.L,vi r.2.at_]] 0]):=by refine⟨λN _ _=>rk f163 ?_,λN _ _ _=>rk f262 ?_,λN _ _=>rk f193 ?_,λN _ _ _=>rk f215 ?_,λN _=>rk f131 ?_,λN _ _=>rk f21 ?_,λN _=>rk f50 ?_,λN _=>rk f225 ?_,λN _ _=>rk f168 ?_,λN _ _=>rk f139 ?_,λN _ _=>rk f11 ?_⟩<;>(simp only[f163,f262,f193,f215,f131,f21,f50,f225,f168,f139,f11,Option.get!,Qbk,QdJ,Qeq,QeZ,Qe0,Qc0,Qgp,Qd6,QfU,Qef,QcV];exact zh)
abbrev QmU:=g15.g.1
abbrev QlS:=g15.g.2.1
abbrev QnK:=g15.g.2.2.1
abbrev QnL:=g15.g.2.2.2.1
abbrev QnM:=g15.g.2.2.2.2.1
abbrev Qjb:=g15.g.2.2.2.2.2.1
abbrev QmV:=g15.g.2.2.2.2.2.2.1
abbrev Qj8:=g15.g.2.2.2.2.2.2.2.1
abbrev Qj9:=g15.g.2.2.2.2.2.2.2.2.1
abbrev QhO:=g15.g.2.2.2.2.2.2.2.2.2.1
abbrev Qh2:=g15.g.2.2.2.2.2.2.2.2.2.2
attribute [instance] QmU QlS QnK QnL QnM Qjb QmV Qj8 Qj9 QhO Qh2
abbrev Qka:=λN a Q n (st:St)=>∃g d,Iv (QbR N a n g d) Q ((∃b c,st.n=32/\r52 st 1920 b d/\pt st 1 64 c 3/\ol st 3 1920 b 1 d.length/\st.t 4=vi g/\bx st 64 c 32 3 (e32 a))\/(∃c,(st.n=32/\pt st 1 64 c 3/\st.t 3=.nsl/\st.t 4=vi g/\bx st 64 c 32 3 (e32 a))/\d=[]))
abbrev Qkb:=λN a d Q n (st:St)=>∃c,Iv (QcM N a d n c) Q ((∃b,st.n=28/\st.t 1=vi d/\pt st 2 128 b 2/\st.t 5=vi c/\bx st 128 b 24 2 (e24 a)))
abbrev QhP:=λN a Q n (st:St)=>∃g d,Iv (Qb5 N a n g d) Q ((∃b c,st.n=23/\r3 st 1344 b d/\pt st 1 64 c 3/\ol st 3 1344 b 1 d.length/\st.t 4=vi g/\bx st 64 c 59 3 (e59 a))\/(∃c,(st.n=23/\pt st 1 64 c 3/\st.t 3=.nsl/\st.t 4=vi g/\bx st 64 c 59 3 (e59 a))/\d=[]))
abbrev Qkc:=λN a Q n (st:St)=>∃g h d,Iv (Qbi N a n g h d) Q ((∃b c,st.n=48/\r96 st 1344 b d/\st.t 1=s52 a/\pt st 4 256 c 1/\ol st 6 1344 b 3 d.length/\st.t 7=vi g/\st.t 8=vi h/\bx st 256 c 35 1 [.nsl]))
abbrev Qkd:=λN a Q n (st:St)=>∃g d,Iv (Qd3 N a n g d) Q ((∃b c,st.n=25/\r52 st 1472 b d/\pt st 1 64 c 4/\ol st 3 1472 b 1 d.length/\st.t 4=vi g/\bx st 64 c 198 4 (XcQ a))\/(∃c,(st.n=25/\pt st 1 64 c 4/\st.t 3=.nsl/\st.t 4=vi g/\bx st 64 c 198 4 (XcQ a))/\d=[]))
abbrev Qf7:=λN a d Q n (st:St)=>∃b c,Iv (Qaq N a d n b c) Q ((st.n=54/\st.t 0=s52 a/\st.t 1=vu d/\st.t 6=vi a.length/\st.t 7=vi b/\st.t 8=vi c))
abbrev Qk7:=λN a Q n (st:St)=>∃b c,Iv (Qbo N a n b c) Q ((st.n=55/\st.t 0=Xpr a/\st.t 4=vi b/\st.t 11=Xpr a/\st.t 12=vi a.length/\st.t 13=vi c))
abbrev Qk8:=λN a Q n (st:St)=>∃b c d,Iv (Qbp N a n b c d) Q ((st.n=55/\st.t 7=vu b/\st.t 8=vi c/\st.t 31=Xpr a/\st.t 32=vi a.length/\st.t 33=vi d))
abbrev Qiq:=λN a Q n (st:St)=>∃d g h c,Iv (QbK N a n d g h c) Q ((∃b,st.n=88/\r52 st 960 b c/\pt st 0 1000000 0 16/\pt st 2 1000000 0 16/\st.t 21=Yn a.h.p/\st.t 22=vi a.h.p.length/\st.t 23=vi d/\bx st 1000000 0 142 16 [vi a.h.c.W,vi a.h.c.p,.osl 960 b 1 0 c.length,Yn g,vi a.h.s,vi a.h.b,s52 a.o,s3 a.t,s52 a.q,vi a.d,vi a.r.j,vi a.r.K,vi a.r.F,vi h,vi a.r.f,vi a.r.y]))
def g17.sp{p:Prop}(h:p:=by first|((first|((with_reducible refine lp (Qka N _) hr N ?_ (λ_ p q=>⟨_,_,_,p,q,?_⟩) _);have lq:=@QbR.eq_2;exact zr)|((with_reducible refine lp (Qkb N _ _) hr N ?_ (λ_ p q=>⟨_,_,p,q,?_⟩) _);have lq:=@QcM.eq_2;exact zr)|((with_reducible refine lp (QhP N _) hr N ?_ (λ_ p q=>⟨_,_,_,p,q,?_⟩) _);have lq:=@Qb5.eq_2;exact zr)|((with_reducible refine lp (Qkc N _) hr N ?_ (λ_ p q=>⟨_,_,_,_,p,q,?_⟩) _);have lq:=@Qbi.eq_2;exact zr)|((with_reducible refine lp (Qkd N _) hr N ?_ (λ_ p q=>⟨_,_,_,p,q,?_⟩) _);have lq:=@Qd3.eq_2;exact zr)|((with_reducible refine lp (Qf7 N _ _) hr N ?_ (λ_ p q=>⟨_,_,_,p,q,?_⟩) _);have lq:=@Qaq.eq_2;exact zr)|((with_reducible refine lp (Qk7 N _) hr N ?_ (λ_ p q=>⟨_,_,_,p,q,?_⟩) _);have lq:=@Qbo.eq_2;exact zr)|((with_reducible refine lp (Qk8 N _) hr N ?_ (λ_ p q=>⟨_,_,_,_,p,q,?_⟩) _);have lq:=@Qbp.eq_2;exact zr)|((with_reducible refine lp (Qiq N _) hr N ?_ (λ_ p q=>⟨_,_,_,_,_,p,q,?_⟩) _);have lq:=@QbK.eq_2;exact zr)|refine dq 70 6 hf [(20,[960],[])] ?_)<;>exact zz)|fail):p:=h
def g17.g:(∀N(a0:Wq),O1 (QcL N a0) 33 [c32 a0] (λr=>s52 r))/\(∀N(a0:WN)(a1:Int),O1 (QdH N a0 a1) 13 [c24 a0,vi a1] (λr=>vi r))/\(∀N(a0:Ws),O1 (Qfp N a0) 287 [c59 a0] (λr=>s3 r))/\(∀N(a0:WD)(a1:List Int),O1 (Qb8 N a0 a1) 112 [c35 a0,s52 a1] (λr=>.tup [c35 r.1,vi r.2]))/\(∀N(a0:UZ),O1 (Qgn N a0) 189 [Xu3 a0] (λr=>s52 r))/\(∀N(a0:List Int)(a1:Int),O1 (Qax N a0 a1) 107 [s52 a0,vu a1] (λr=>.tup [vi r.1,vb r.2]))/\(∀N(a0:List Ik),O1 (Qgg N a0) 242 [Xpr a0] (λr=>.tup [vu r.1,vi r.2]))/\(∀N a0,OK (QeJ N a0) 70 [.ept 1000000 0 16 0 0] [.arr true 142 16 [[vi a0.h.c.W,vi a0.h.c.p,s52 a0.h.w,Yn a0.h.p,vi a0.h.s,vi a0.h.b,s52 a0.o,s3 a0.t,s52 a0.q,vi a0.d,vi a0.r.j,vi a0.r.K,vi a0.r.F,vi a0.r.E,vi a0.r.f,vi a0.r.y]] 0] (λr=>.tup []) λr=>[.arr true 142 16 [[vi r.h.c.W,vi r.h.c.p,s52 r.h.w,Yn r.h.p,vi r.h.s,vi r.h.b,s52 r.o,s3 r.t,s52 r.q,vi r.d,vi r.r.j,vi r.r.K,vi r.r.F,vi r.r.E,vi r.r.f,vi r.r.y]] 0]):=by refine⟨λN _=>rk f33 ?_,λN _ _=>rk f13 ?_,λN _=>rk f287 ?_,λN _ _=>rk f112 ?_,λN _=>rk f189 ?_,λN _ _=>rk f107 ?_,λN _=>rk f242 ?_,λN _=>rk f70 ?_⟩<;>(simp only[f33,f13,f287,f112,f189,f107,f242,f70,Option.get!,QcL,QdH,Qfp,Qb8,Qgn,Qax,Qgg,QeJ];exact zh)
abbrev QmW:=g17.g.1
abbrev QmX:=g17.g.2.1
abbrev Qjc:=g17.g.2.2.1
abbrev QmY:=g17.g.2.2.2.1
abbrev QmZ:=g17.g.2.2.2.2.1
abbrev Qgy:=g17.g.2.2.2.2.2.1
abbrev QnN:=g17.g.2.2.2.2.2.2.1
abbrev Qk9:=g17.g.2.2.2.2.2.2.2
attribute [instance] QmW QmX Qjc QmY QmZ Qgy QnN Qk9
def Qgz{C:Cx}{N:Nat}{a0:Wv}{a1:Int}{β:Type}{k:Bool → Option β}{r:β}{dst:Option Nat}{st:St}{K:St → Prop}{wb w1 w3:Nat}(hw:GW C.G)(hr:bnd (Qc2 N a0 a1) k=some r)(p wp w4 w5:Nat)(hp:p=51840\/p=210816)(E0:st.s 51584=some (w1,.arr false 52 1 (a0.h.w.map e52) 0))(E1:st.s p=some (wp,.arr false 122 4 (a0.h.p.map YT) 0))(E2:st.s 52288=some (w3,.arr false 52 1 (a0.o.map e52) 0))(E3:st.s 52480=some (w4,.arr false 3 1 (a0.t.map e3) 0))(E4:st.s 52672=some (w5,.arr false 52 1 (a0.q.map e52) 0))(E5:st.s 51264=some (wb,.arr true 210 16 [[vi a0.h.c.W,vi a0.h.c.p,.osl 51584 w1 1 0 a0.h.w.length,.osl p wp 4 0 a0.h.p.length,vi a0.h.s,vi a0.h.b,.osl 52288 w3 1 0 a0.o.length,.osl 52480 w4 1 0 a0.t.length,.osl 52672 w5 1 0 a0.q.length,vi a0.d,vi a0.r.j,vi a0.r.K,vi a0.r.F,vi a0.r.E,vi a0.r.f,vi a0.r.y]] 0))(hK:∀y,k y=some r→∀s' kk,FwH s' wb w1 p wp w3 w4 w5 a0→K (nxS st (XH dst st.n) (vb y) (Xj3 st.s s') st.n kk))(t:Prf ([.ept 51264 wb 16 0 0,vi a1]:List D)):CallX prog C 222 [.ept 51264 wb 16 0 0,vi a1] dst st K t:=by
 refine Xbm hr λy hr hk2=>?_;have E:=And.intro E0 (And.intro E1 (And.intro E2 (And.intro E3 (And.intro E4 E5))));clear E0 E1 E2 E3 E4 E5;have hse:=@Xha _ hw;rcases hp with rfl|rfl<;>(refine CallX.inl (f:=222) 1600 (fn:=f222) (rs:=[.tmp 4]) (nt:=45) 1000 ae (λx=>?_) _;simp only[f222,Option.get!];rw[Qc2]at hr;repeat' first
 |(refine El.el hr ?_;clear hr;intro hr)
 |(with_reducible intro h;refine Y8 hr h ?_;clear hr;intro hr)
 |with_reducible intro _
 |simp only[go_sem,simprocAttr,E,XT,hse]
 |(with_reducible first|apply XV|apply XU|apply YM|apply Y1|apply Y2)
 |((first|with_reducible refine Jx hr ah ?_ ?_|(with_reducible refine Jh hr ?_ ?_;rotate_left;intro p;rotate_right));(·simp only[go_sem,simprocAttr,hse]);intro hp hn hd hr;(try have XT:=hd _ YT;simp only[go_sem,simprocAttr]at XT))
 |(refine YN ?_ ?_;.first|assumption|omega)
 |(refine CallX.inl (f:=224) 2400 (fn:=f224) (rs:=[.tmp 2]) (nt:=9) 1000 ae (λx=>?_) _;simp only[f224,Option.get!])
 |(with_reducible first|refine CallX.c ?_ _|refine OK.c hr hw ?_ (λy hr=>?_) _|refine OK.d hr hw ?_ (λy hr=>?_) _)
 |refine dp ?_
 |exact Xbn hr
 |exact Xav hr
 |(apply Xaw;assumption)
 |(refine Yv hr ?_;rintro rfl;(try simp only[go_sem,simprocAttr,E,XT,hse]);refine Xpp (K:=λs=>K (nxS _ _ _ s _ _)) (λh=>hK _ hk2 _ _ h) ?_ ?_;refine⟨?_,?_,?_,?_,?_,?_⟩;(iterate 6 (·exact zs));exact zl)
 |(with_reducible apply Xdg;(·simp only[go_sem,simprocAttr,E,XT,hse];repeat' first|rfl|refine⟨?_,?_⟩);(·simp only[ZQ,snap,go_sem,simprocAttr,E,XT,hse];repeat' first|rfl|refine⟨?_,?_⟩);(·simp only[go_sem,simprocAttr,E,XT,hse];first|done|omega|(simp;omega))))
def g14.sp{p:Prop}(h:p:=by first|((first|refine dq 217 7 hf [(0,[2176],[2816]),(1,[],[2176,2816]),(2,[],[2176,2816]),(3,[2176],[2816]),(4,[],[2176]),(5,[],[2176]),(6,[],[2176]),(7,[],[2176]),(8,[],[2176]),(9,[],[2176]),(10,[2816],[2176]),(11,[2176],[]),(13,[192],[])] ?_|refine dq 132 6 hf [(9,[896],[]),(11,[256],[])] ?_|refine dq 132 10 hf [(1,[],[512]),(2,[],[512]),(3,[],[512]),(4,[],[512]),(5,[],[512]),(6,[],[512]),(7,[512],[])] ?_)<;>exact zz)|fail):p:=h
def g14.g:(∀N(a0:WN),O1 (QeW N a0) 54 [c24 a0] (λr=>.tup [c38 r.1,vi r.2]))/\(∀N(a0:Wi)(a1:Int),O1 (QfD N a0 a1) 254 [c28 a0,vu a1] (λr=>vi r))/\(∀N(a0:List Int)(a1:Int)(a2:Int)(a3:Int),O1 (QfE N a0 a1 a2 a3) 285 [s52 a0,vu a1,vu a2,vi a3] (λr=>.tup [s52 r.1,vi r.2]))/\(∀N(a0:Int),O1 (QcH N a0) 203 [vu a0] (λr=>.tup [XrI r.1,vi r.2]))/\(∀N(a0:Wq)(a1:Int)(a2:Bool),O1 (Qgo N a0 a1 a2) 217 [c32 a0,vi a1,vb a2] (λr=>.tup [c32 r.1,vi r.2]))/\(∀N(a0:WP)(a1:Int)(a2:Int)(a3:Int),O1 (QfG N a0 a1 a2 a3) 132 [c42 a0,vi a1,vu a2,vu a3] (λr=>.tup [c42 r.1,vu r.2]))/\(∀N(a0:List Int),O1 (Qbw N a0) 96 [s3 a0,.clo (.func 97) [] []] (λr=>vb r))/\(∀N(a0:Ws),O1 (Qbs N a0) 86 [c59 a0] (λr=>vi r))/\(∀N(a0:Ws)(a1:Int),O1 (Qft N a0 a1) 273 [c59 a0,vi a1] (λr=>vb r))/\(∀N(a0:List Wo)(a1:Int)(a2:Int),O1 (QdM N a0 a1 a2) 157 [Yn a0,vi a1,vi a2] (λr=>.tup [.fsl 122 4 (r.1.map YT),vi r.2]))/\(∀N(a0:WN),O1 (QkK N a0) 34 [c24 a0] (λr=>.tup [c38 r.1,vi r.2])):=by refine⟨λN _=>rk f54 ?_,λN _ _=>rk f254 ?_,λN _ _ _ _=>rk f285 ?_,λN _=>rk f203 ?_,λN _ _ _=>rk f217 ?_,λN _ _ _ _=>rk f132 ?_,λN _=>rk f96 ?_,λN _=>rk f86 ?_,λN _ _=>rk f273 ?_,λN _ _ _=>rq f157 [1152] ?_,λN _=>rk f34 ?_⟩<;>(simp only[f54,f254,f285,f203,f217,f132,f96,f86,f273,f157,f34,Option.get!,QeW,QfD,QfE,QcH,Qgo,QfG,Qbw,Qbs,Qft,QdM,QkK];exact zh)
abbrev QnO:=g14.g.1
abbrev Qm0:=g14.g.2.1
abbrev Qm1:=g14.g.2.2.1
abbrev Qla:=g14.g.2.2.2.1
abbrev Qm2:=g14.g.2.2.2.2.1
abbrev Qm3:=g14.g.2.2.2.2.2.1
abbrev Qgj:=g14.g.2.2.2.2.2.2.1
abbrev QlT:=g14.g.2.2.2.2.2.2.2.1
abbrev Qjd:=g14.g.2.2.2.2.2.2.2.2.1
abbrev Qm4:=g14.g.2.2.2.2.2.2.2.2.2.1
abbrev Qoi:=g14.g.2.2.2.2.2.2.2.2.2.2
attribute [instance] QnO Qm0 Qm1 Qla Qm2 Qm3 Qgj QlT Qjd Qm4 Qoi
end Go.Sx
