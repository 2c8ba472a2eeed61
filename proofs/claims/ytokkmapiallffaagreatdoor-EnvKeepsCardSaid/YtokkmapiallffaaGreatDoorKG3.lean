import Derived.Test.YtokkmapiallffaaGreatDoorKG1
import Derived.Test.YtokkmapiallffaaGreatDoorKG2
set_option linter.all false
namespace Go.Sx
open Go.Proofs Tryz
set_option maxRecDepth 10000
set_option maxHeartbeats 100000000
abbrev Qkd:=λN a Q n (st:St)=>∃g d,Iv (QbP N a n g d) Q ((∃b c,st.n=32/\r59 st 1920 b d/\pt st 1 64 c 3/\ol st 3 1920 b 1 d.length/\st.t 4=vi g/\bx st 64 c 32 3 (e32 a))\/(∃c,(st.n=32/\pt st 1 64 c 3/\st.t 3=.nsl/\st.t 4=vi g/\bx st 64 c 32 3 (e32 a))/\d=[]))
abbrev Qke:=λN a d Q n (st:St)=>∃c,Iv (QcK N a d n c) Q ((∃b,st.n=28/\st.t 1=vi d/\pt st 2 128 b 2/\st.t 5=vi c/\bx st 128 b 24 2 (e24 a)))
abbrev QhU:=λN a Q n (st:St)=>∃g d,Iv (Qb5 N a n g d) Q ((∃b c,st.n=23/\r3 st 1344 b d/\pt st 1 64 c 3/\ol st 3 1344 b 1 d.length/\st.t 4=vi g/\bx st 64 c 98 3 (e98 a))\/(∃c,(st.n=23/\pt st 1 64 c 3/\st.t 3=.nsl/\st.t 4=vi g/\bx st 64 c 98 3 (e98 a))/\d=[]))
abbrev Qkf:=λN a Q n (st:St)=>∃g h d,Iv (Qbh N a n g h d) Q ((∃b c,st.n=48/\XrA st 1344 b d/\st.t 1=s59 a/\pt st 4 256 c 1/\ol st 6 1344 b 3 d.length/\st.t 7=vi g/\st.t 8=vi h/\bx st 256 c 35 1 [.nsl]))
abbrev Qkg:=λN a Q n (st:St)=>∃g d,Iv (Qd0 N a n g d) Q ((∃b c,st.n=25/\r59 st 1472 b d/\pt st 1 64 c 4/\ol st 3 1472 b 1 d.length/\st.t 4=vi g/\bx st 64 c 197 4 (XcJ a))\/(∃c,(st.n=25/\pt st 1 64 c 4/\st.t 3=.nsl/\st.t 4=vi g/\bx st 64 c 197 4 (XcJ a))/\d=[]))
abbrev Qf3:=λN a d Q n (st:St)=>∃b c,Iv (Qaq N a d n b c) Q ((st.n=54/\st.t 0=s59 a/\st.t 1=vu d/\st.t 6=vi a.length/\st.t 7=vi b/\st.t 8=vi c))
abbrev Qle:=λN a Q n (st:St)=>∃b c,Iv (Qbm N a n b c) Q ((st.n=55/\st.t 0=Xph a/\st.t 4=vi b/\st.t 11=Xph a/\st.t 12=vi a.length/\st.t 13=vi c))
abbrev Qlf:=λN a Q n (st:St)=>∃b c d,Iv (Qbn N a n b c d) Q ((st.n=55/\st.t 7=vu b/\st.t 8=vi c/\st.t 31=Xph a/\st.t 32=vi a.length/\st.t 33=vi d))
abbrev Qix:=λN a Q n (st:St)=>∃d g h c,Iv (QbJ N a n d g h c) Q ((∃b,st.n=88/\r59 st 960 b c/\pt st 0 1000000 0 16/\pt st 2 1000000 0 16/\st.t 21=Yn a.h.p/\st.t 22=vi a.h.p.length/\st.t 23=vi d/\bx st 1000000 0 135 16 [vi a.h.c.W,vi a.h.c.p,.osl 960 b 1 0 c.length,Yn g,vi a.h.s,vi a.h.b,s59 a.o,s3 a.t,s59 a.q,vi a.d,vi a.r.j,vi a.r.K,vi a.r.F,vi h,vi a.r.f,vi a.r.y]))
def g18.sp{p:Prop}(h:p:=by first|((first|((with_reducible refine lp (Qkd N _) hr N ?_ (λ_ p q=>⟨_,_,_,p,q,?_⟩) _);have lq:=@QbP.eq_2;exact zr)|((with_reducible refine lp (Qke N _ _) hr N ?_ (λ_ p q=>⟨_,_,p,q,?_⟩) _);have lq:=@QcK.eq_2;exact zr)|((with_reducible refine lp (QhU N _) hr N ?_ (λ_ p q=>⟨_,_,_,p,q,?_⟩) _);have lq:=@Qb5.eq_2;exact zr)|((with_reducible refine lp (Qkf N _) hr N ?_ (λ_ p q=>⟨_,_,_,_,p,q,?_⟩) _);have lq:=@Qbh.eq_2;exact zr)|((with_reducible refine lp (Qkg N _) hr N ?_ (λ_ p q=>⟨_,_,_,p,q,?_⟩) _);have lq:=@Qd0.eq_2;exact zr)|((with_reducible refine lp (Qf3 N _ _) hr N ?_ (λ_ p q=>⟨_,_,_,p,q,?_⟩) _);have lq:=@Qaq.eq_2;exact zr)|((with_reducible refine lp (Qle N _) hr N ?_ (λ_ p q=>⟨_,_,_,p,q,?_⟩) _);have lq:=@Qbm.eq_2;exact zr)|((with_reducible refine lp (Qlf N _) hr N ?_ (λ_ p q=>⟨_,_,_,_,p,q,?_⟩) _);have lq:=@Qbn.eq_2;exact zr)|((with_reducible refine lp (Qix N _) hr N ?_ (λ_ p q=>⟨_,_,_,_,_,p,q,?_⟩) _);have lq:=@QbJ.eq_2;exact zr)|refine dq 63 6 hf [(20,[960],[])] ?_)<;>exact zz)|fail):p:=h
def g18.g:(∀N(a0:Wq),O1 (QcJ N a0) 36 [c32 a0] (λr=>s59 r))/\(∀N(a0:WP)(a1:Int),O1 (QeT N a0 a1) 158 [c24 a0,vi a1] (λr=>vi r))/\(∀N(a0:Wy),O1 (Qfj N a0) 288 [c98 a0] (λr=>s3 r))/\(∀N(a0:WD)(a1:List Int),O1 (Qb8 N a0 a1) 106 [c35 a0,s59 a1] (λr=>.tup [c35 r.1,vi r.2]))/\(∀N(a0:UY),O1 (Qgk N a0) 185 [Xu0 a0] (λr=>s59 r))/\(∀N(a0:List Int)(a1:Int),O1 (Qaz N a0 a1) 85 [s59 a0,vu a1] (λr=>.tup [vi r.1,vb r.2]))/\(∀N(a0:List Ik),O1 (Qgc N a0) 281 [Xph a0] (λr=>.tup [vu r.1,vi r.2]))/\(∀N a0,OK (QeG N a0) 63 [.ept 1000000 0 16 0 0] [.arr true 135 16 [[vi a0.h.c.W,vi a0.h.c.p,s59 a0.h.w,Yn a0.h.p,vi a0.h.s,vi a0.h.b,s59 a0.o,s3 a0.t,s59 a0.q,vi a0.d,vi a0.r.j,vi a0.r.K,vi a0.r.F,vi a0.r.E,vi a0.r.f,vi a0.r.y]] 0] (λr=>.tup []) λr=>[.arr true 135 16 [[vi r.h.c.W,vi r.h.c.p,s59 r.h.w,Yn r.h.p,vi r.h.s,vi r.h.b,s59 r.o,s3 r.t,s59 r.q,vi r.d,vi r.r.j,vi r.r.K,vi r.r.F,vi r.r.E,vi r.r.f,vi r.r.y]] 0]):=by refine⟨λN _=>rk f36 ?_,λN _ _=>rk f158 ?_,λN _=>rk f288 ?_,λN _ _=>rk f106 ?_,λN _=>rk f185 ?_,λN _ _=>rk f85 ?_,λN _=>rk f281 ?_,λN _=>rk f63 ?_⟩<;>(simp only[f36,f158,f288,f106,f185,f85,f281,f63,Option.get!,QcJ,QeT,Qfj,Qb8,Qgk,Qaz,Qgc,QeG];exact zh)
abbrev Qm3:=g18.g.1
abbrev Qm4:=g18.g.2.1
abbrev Qjh:=g18.g.2.2.1
abbrev Qm5:=g18.g.2.2.2.1
abbrev Qm6:=g18.g.2.2.2.2.1
abbrev Qgt:=g18.g.2.2.2.2.2.1
abbrev QnU:=g18.g.2.2.2.2.2.2.1
abbrev Qlg:=g18.g.2.2.2.2.2.2.2
attribute [instance] Qm3 Qm4 Qjh Qm5 Qm6 Qgt QnU Qlg
def g14.sp{p:Prop}(h:p:=by first|((first|(refine ci (f:=219) f219 1600 (λx=>?_) _;simp only[f219,Option.get!])|(refine ci (f:=221) f221 2400 (λx=>?_) _;simp only[f221,Option.get!]))<;>exact zz)|fail):p:=h
abbrev g14.g:∀N(a0:Wu)(a1:Int),O1 (Qec N a0 a1) 134 [XiC a0,vi a1] (λr=>vb r):=by refineλN _ _=>rk f134 ?_<;>(simp only[f134,Option.get!,Qec];exact zh)
abbrev QhV:=g14.g
attribute [instance] QhV
def g15.sp{p:Prop}(h:p:=by first|((first|refine dq 213 7 hf [(0,[2176],[2816]),(1,[],[2176,2816]),(2,[],[2176,2816]),(3,[2176],[2816]),(4,[],[2176]),(5,[],[2176]),(6,[],[2176]),(7,[],[2176]),(8,[],[2176]),(9,[],[2176]),(10,[2816],[2176]),(11,[2176],[]),(13,[192],[])] ?_|refine dq 126 6 hf [(9,[896],[]),(11,[256],[])] ?_|refine dq 126 10 hf [(1,[],[512]),(2,[],[512]),(3,[],[512]),(4,[],[512]),(5,[],[512]),(6,[],[512]),(7,[512],[])] ?_)<;>exact zz)|fail):p:=h
def g15.g:(∀N(a0:WP),O1 (QeS N a0) 46 [c24 a0] (λr=>.tup [c38 r.1,vi r.2]))/\(∀N(a0:Wh)(a1:Int),O1 (Qfw N a0 a1) 248 [c28 a0,vu a1] (λr=>vi r))/\(∀N(a0:List Int)(a1:Int)(a2:Int)(a3:Int),O1 (Qfx N a0 a1 a2 a3) 286 [s59 a0,vu a1,vu a2,vi a3] (λr=>.tup [s59 r.1,vi r.2]))/\(∀N(a0:Int),O1 (QcF N a0) 199 [vu a0] (λr=>.tup [Xmk r.1,vi r.2]))/\(∀N(a0:Wq)(a1:Int)(a2:Bool),O1 (Qgl N a0 a1 a2) 213 [c32 a0,vi a1,vb a2] (λr=>.tup [c32 r.1,vi r.2]))/\(∀N(a0:WO)(a1:Int)(a2:Int)(a3:Int),O1 (Qfz N a0 a1 a2 a3) 126 [c42 a0,vi a1,vu a2,vu a3] (λr=>.tup [c42 r.1,vu r.2]))/\(∀N(a0:List Int),O1 (Qbw N a0) 74 [s3 a0,.clo (.func 75) [] []] (λr=>vb r))/\(∀N(a0:Wy),O1 (Qbr N a0) 138 [c98 a0] (λr=>vi r))/\(∀N(a0:Wy)(a1:Int),O1 (Qfn N a0 a1) 271 [c98 a0,vi a1] (λr=>vb r))/\(∀N(a0:List Wp)(a1:Int)(a2:Int),O1 (Qek N a0 a1 a2) 241 [Yn a0,vi a1,vi a2] (λr=>.tup [.fsl 159 4 (r.1.map YT),vi r.2])):=by refine⟨λN _=>rk f46 ?_,λN _ _=>rk f248 ?_,λN _ _ _ _=>rk f286 ?_,λN _=>rk f199 ?_,λN _ _ _=>rk f213 ?_,λN _ _ _ _=>rk f126 ?_,λN _=>rk f74 ?_,λN _=>rk f138 ?_,λN _ _=>rk f271 ?_,λN _ _ _=>rq f241 [1152] ?_⟩<;>(simp only[f46,f248,f286,f199,f213,f126,f74,f138,f271,f241,Option.get!,QeS,Qfw,Qfx,QcF,Qgl,Qfz,Qbw,Qbr,Qfn,Qek];exact zh)
abbrev QnV:=g15.g.1
abbrev Qm7:=g15.g.2.1
abbrev Qm8:=g15.g.2.2.1
abbrev Qlh:=g15.g.2.2.2.1
abbrev Qm9:=g15.g.2.2.2.2.1
abbrev Qna:=g15.g.2.2.2.2.2.1
abbrev Qgg:=g15.g.2.2.2.2.2.2.1
abbrev QlZ:=g15.g.2.2.2.2.2.2.2.1
abbrev Qji:=g15.g.2.2.2.2.2.2.2.2.1
abbrev Qnb:=g15.g.2.2.2.2.2.2.2.2.2
attribute [instance] QnV Qm7 Qm8 Qlh Qm9 Qna Qgg QlZ Qji Qnb
def g16.sp{p:Prop}(h:p:=by first|((first|refine dq 222 4 hf [(0,[],[384]),(1,[],[384]),(2,[],[384]),(3,[],[384]),(4,[],[384]),(5,[],[384]),(6,[],[384]),(7,[],[384]),(8,[],[384]),(9,[],[384]),(10,[],[384]),(11,[],[384]),(12,[],[384]),(13,[384],[]),(14,[384],[])] ?_|refine dq 20 1 hf [(14,[1088],[]),(15,[],[1088]),(16,[],[1088]),(17,[1280],[]),(19,[128],[])] ?_)<;>exact zz)|fail):p:=h
def g16.g:(∀N(a0:List Int)(a1:Int),O1 (Qbj N a0 a1) 162 [s59 a0,vu a1] (λr=>.tup [vu r.1,vi r.2]))/\(∀N(a0:List Int)(a1:Int)(a2:Int),O1 (QdG N a0 a1 a2) 256 [s59 a0,vu a1,vu a2] (λr=>.tup [s59 r.1,vi r.2]))/\(∀N(a0:Wq)(a1:Int),O1 (Qeo N a0 a1) 189 [c32 a0,vu a1] (λr=>.tup [c32 r.1,vi r.2.1,vi r.2.2.1,vi r.2.2.2]))/\(∀N(a0:Wq)(a1:Int)(a2:Int),O1 (Qer N a0 a1 a2) 211 [c32 a0,vi a1,vi a2] (λr=>.tup [vu r.1,vi r.2]))/\(∀N(a0:Wq),O1 (QeX N a0) 125 [c32 a0] (λr=>.tup [c32 r.1,vi r.2]))/\(∀N a0 a1,OK (QcW N a0 a1) 16 [c44 a0,.ept 1000000 0 2 0 0] [.arr true 67 2 [[s3 a1.L,vi a1.at_]] 0] (λr=>c72 r.1) λr=>[.arr true 67 2 [[s3 r.2.L,vi r.2.at_]] 0])/\(∀N(a0:List (List Int)),O1 (Qgm N a0) 30 [s25 a0] (λr=>s59 r))/\(∀N(a0:Int),O1 (Qd3 N a0) 222 [vu a0] (λr=>.tup [c98 r.1,vb r.2]))/\(∀N(a0:List UB)(a1:Int),O1 (QfN N a0 a1) 145 [s86 a0,vu a1] (λr=>vi r))/\(∀N(a0:Uj),O1 (Qg0 N a0) 20 [c38 a0] (λr=>.agg [vi r.h.c.W,vi r.h.c.p,s59 r.h.w,Yn r.h.p,vi r.h.s,vi r.h.b,XcL r.l.S,XcK r.l.x,s3 r.l.i,JP r.g.e,JP r.v.e,.fsl 86 2 (r.P.map e86),.fsl 59 1 (r.R.map e59)])):=by refine⟨λN _ _=>rk f162 ?_,λN _ _ _=>rk f256 ?_,λN _ _=>rk f189 ?_,λN _ _ _=>rk f211 ?_,λN _=>rk f125 ?_,λN _ _=>rk f16 ?_,λN _=>rk f30 ?_,λN _=>rk f222 ?_,λN _ _=>rk f145 ?_,λN _=>rq f20 [1088,1280] ?_⟩<;>(simp only[f162,f256,f189,f211,f125,f16,f30,f222,f145,f20,Option.get!,Qbj,QdG,Qeo,Qer,QeX,QcW,Qgm,Qd3,QfN,Qg0];exact zh)
abbrev Qnc:=g16.g.1
abbrev Ql0:=g16.g.2.1
abbrev QnW:=g16.g.2.2.1
abbrev QnX:=g16.g.2.2.2.1
abbrev QnY:=g16.g.2.2.2.2.1
abbrev Qjj:=g16.g.2.2.2.2.2.1
abbrev Qnd:=g16.g.2.2.2.2.2.2.1
abbrev Qkh:=g16.g.2.2.2.2.2.2.2.1
abbrev Qki:=g16.g.2.2.2.2.2.2.2.2.1
abbrev Qne:=g16.g.2.2.2.2.2.2.2.2.2
attribute [instance] Qnc Ql0 QnW QnX QnY Qjj Qnd Qkh Qki Qne
def g17.sp{p:Prop}(h:p:=by first|((first|refine dq 285 12 hf [(15,[640,4160],[])] ?_|refine dq 290 12 hf [(13,[704,4672],[])] ?_)<;>exact zz)|fail):p:=h
def g17.g:(∀N(a0:Int),O1 (Qcz N a0) 163 [vu a0] (λr=>.tup [c98 r.1,vb r.2]))/\(∀N(a0:Wu)(a1:Int),O1 (QcB N a0 a1) 285 [Jv a0,vi a1] (λr=>.tup [Jv r.1,vu r.2.1,vb r.2.2]))/\(∀N(a0:Wh)(a1:Int),O1 (Qep N a0 a1) 290 [c28 a0,vi a1] (λr=>.tup [c28 r.1,vu r.2.1,vb r.2.2]))/\(∀N(a0:WD)(a1:Int)(a2:Int),O1 (QcH N a0 a1 a2) 201 [c35 a0,vi a1,vi a2] (λr=>.tup [c35 r.1,vi r.2]))/\(∀N(a0:WO)(a1:Int)(a2:Int),O1 (QeL N a0 a1 a2) 122 [c42 a0,vi a1,vu a2] (λr=>.tup [c42 r.1,vu r.2]))/\(∀N(a0:List W6),O1 (QaI N a0) 79 [JP a0,.clo (.func 80) [] []] (λr=>vb r))/\(∀N(a0:WP)(a1:Int),O1 (Qe0 N a0 a1) 172 [c24 a0,vi a1] (λr=>vi r))/\(∀N(a0:List Int)(a1:Int),O1 (Qgo N a0 a1) 228 [s59 a0,vu a1] (λr=>.tup [vu r.1,vi r.2]))/\(∀N(a0:Int),O1 (QeO N a0) 218 [vu a0] (λr=>.tup [vu r.1,vb r.2]))/\(∀N(a0:WP),O1 (QkS N a0) 43 [c24 a0] (λr=>.tup [c38 r.1,vi r.2])):=by refine⟨λN _=>rk f163 ?_,λN _ _=>rk f285 ?_,λN _ _=>rk f290 ?_,λN _ _ _=>rk f201 ?_,λN _ _ _=>rk f122 ?_,λN _=>rk f79 ?_,λN _ _=>rk f172 ?_,λN _ _=>rk f228 ?_,λN _=>rk f218 ?_,λN _=>rk f43 ?_⟩<;>(simp only[f163,f285,f290,f201,f122,f79,f172,f228,f218,f43,Option.get!,Qcz,QcB,Qep,QcH,QeL,QaI,Qe0,Qgo,QeO,QkS];exact zh)
abbrev Qli:=g17.g.1
abbrev Ql1:=g17.g.2.1
abbrev Ql2:=g17.g.2.2.1
abbrev Qlj:=g17.g.2.2.2.1
abbrev Qkj:=g17.g.2.2.2.2.1
abbrev QeI:=g17.g.2.2.2.2.2.1
abbrev QnZ:=g17.g.2.2.2.2.2.2.1
abbrev Qnf:=g17.g.2.2.2.2.2.2.2.1
abbrev Qkk:=g17.g.2.2.2.2.2.2.2.2.1
abbrev Qos:=g17.g.2.2.2.2.2.2.2.2.2
attribute [instance] Qli Ql1 Ql2 Qlj Qkj QeI QnZ Qnf Qkk Qos
end Go.Sx
