import Derived.Test.YtokkmapiallffaaGreatDoorKG0
set_option linter.all false
namespace Go.Sx
open Go.Proofs Tryz
set_option maxRecDepth 10000
set_option maxHeartbeats 100000000
abbrev Qi5:=λN a Q n (st:St)=>∃c,Iv (Qdt N a n c) Q ((∃b,st.n=174/\pt st 1 64 b 3/\st.t 3=vi c/\bx st 64 b 32 3 (e32 a)))
abbrev Qi6:=λN a Q n (st:St)=>∃c d,Iv (Qay N a n c d) Q ((∃b,st.n=174/\pt st 1 64 b 3/\st.t 4=vi c/\st.t 5=vi d/\bx st 64 b 32 3 (e32 a)))
abbrev Qi7:=λN a Q n (st:St)=>∃b c,Iv (Qat N a n b c) Q ((∃d,st.n=174/\pt st 1 64 d 3/\st.t 7=vi b/\st.t 8=vi c/\bx st 64 d 32 3 (e32 a)))
abbrev Qi8:=λN a Q n (st:St)=>∃b,Iv (QcS N a n b) Q ((∃c,st.n=174/\pt st 1 64 c 3/\st.t 10=vi b/\bx st 64 c 32 3 (e32 a)))
abbrev Qi9:=λN a e Q n (st:St)=>∃d c,Iv (Qck N a e n d c) Q ((∃b,st.n=41/\r59 st 1408 b c/\st.t 2=s59 a/\st.t 8=vi e.1/\ol st 10 1408 b 1 c.length/\st.t 11=vi d))
abbrev Qk5:=λN a f Q n (st:St)=>∃d,Iv (Qcc N a f n d) Q ((∃b c,st.n=69/\XrA st 896 b a.e/\st.t 1=vu f/\pt st 4 256 c 1/\ol st 8 896 b 3 a.e.length/\st.t 9=vi d/\bx st 256 c 35 1 [.nsl]))
abbrev QhB:=λN a Q n (st:St)=>∃b c,Iv (QbO N a n b c) Q ((st.n=22/\st.t 5=vi b/\st.t 10=XcL a/\st.t 11=vi a.length/\st.t 12=vi c))
abbrev QgH:=λN a Q n (st:St)=>∃b c,Iv (QaV N a n b c) Q ((st.n=36/\st.t 0=s25 a/\st.t 3=vi b/\st.t 9=s25 a/\st.t 10=vi a.length/\st.t 11=vi c))
abbrev QgI:=λN a Q n (st:St)=>∃d c,Iv (QaW N a n d c) Q ((∃b,st.n=36/\r59 st 1536 b c/\ol st 6 1536 b 1 c.length/\st.t 25=s25 a/\st.t 26=vi a.length/\st.t 27=vi d))
abbrev Qfr:=λN a Q n (st:St)=>∃b,Iv (Qaw N a n b) Q ((st.n=19/\st.t 0=s59 a/\st.t 1=.clo (.func 299) [] []/\st.t 7=vi a.length/\st.t 8=vi b))
abbrev Qfc:=λN a c0 Q n (st:St)=>∃b,Iv (Qap N a c0 n b) Q ((st.n=19/\st.t 0=s86 a/\st.t 1=.clo (.func 232) [] [.ept 1000000 0 1 0 0]/\st.t 7=vi a.length/\st.t 8=vi b/\bx st 1000000 0 59 1 [vu c0]))
abbrev Qj6:=λN a e Q n (st:St)=>∃d,Iv (QeQ N a e n d) Q ((∃b c,st.n=77/\pt st 2 128 b 2/\pt st 3 192 c 2/\st.t 5=vi d/\bx st 128 b 54 2 (e54 a)/\bx st 192 c 54 2 (e54 e)))
abbrev Qj7:=λN a e Q n (st:St)=>∃d,Iv (QeR N a e n d) Q ((∃b c,st.n=77/\pt st 2 128 b 2/\pt st 3 192 c 2/\st.t 6=vi d/\bx st 128 b 54 2 (e54 a)/\bx st 192 c 54 2 (e54 e)))
def g10.sp{p:Prop}(h:p:=by first|((first|((with_reducible refine lp (Qi5 N _) hr N ?_ (λ_ p q=>⟨_,_,p,q,?_⟩) _);have lq:=@Qdt.eq_2;exact zr)|((with_reducible refine lp (Qi6 N _) hr N ?_ (λ_ p q=>⟨_,_,_,p,q,?_⟩) _);have lq:=@Qay.eq_2;exact zr)|((with_reducible refine lp (Qi7 N _) hr N ?_ (λ_ p q=>⟨_,_,_,p,q,?_⟩) _);have lq:=@Qat.eq_2;exact zr)|((with_reducible refine lp (Qi8 N _) hr N ?_ (λ_ p q=>⟨_,_,p,q,?_⟩) _);have lq:=@QcS.eq_2;exact zr)|((with_reducible refine lp (Qi9 N _ _) hr N ?_ (λ_ p q=>⟨_,_,_,p,q,?_⟩) _);have lq:=@Qck.eq_2;exact zr)|((with_reducible refine lp (Qk5 N _ _) hr N ?_ (λ_ p q=>⟨_,_,p,q,?_⟩) _);have lq:=@Qcc.eq_2;exact zr)|((with_reducible refine lp (QhB N _) hr N ?_ (λ_ p q=>⟨_,_,_,p,q,?_⟩) _);have lq:=@QbO.eq_2;exact zr)|((with_reducible refine lp (QgH N _) hr N ?_ (λ_ p q=>⟨_,_,_,p,q,?_⟩) _);have lq:=@QaV.eq_2;exact zr)|((with_reducible refine lp (QgI N _) hr N ?_ (λ_ p q=>⟨_,_,_,p,q,?_⟩) _);have lq:=@QaW.eq_2;exact zr)|((with_reducible refine lp (Qfr N _) hr N ?_ (λ_ p q=>⟨_,_,p,q,?_⟩) _);have lq:=@Qaw.eq_2;exact zr)|((with_reducible refine lp (Qfc N _ _) hr N ?_ (λ_ p q=>⟨_,_,p,q,?_⟩) _);have lq:=@Qap.eq_2;exact zr)|((with_reducible refine lp (Qj6 N _ _) hr N ?_ (λ_ p q=>⟨_,_,p,q,?_⟩) _);have lq:=@QeQ.eq_2;exact zr)|((with_reducible refine lp (Qj7 N _ _) hr N ?_ (λ_ p q=>⟨_,_,p,q,?_⟩) _);have lq:=@QeR.eq_2;exact zr)|refine dq 197 9 hf [(2,[],[256]),(3,[],[256]),(4,[],[256]),(5,[],[256]),(6,[],[256]),(7,[],[256]),(8,[256],[])] ?_)<;>exact zz)|fail):p:=h
def g10.g:(∀N(a0:Wq),O1 (Qcf N a0) 93 [c32 a0] (λr=>vb r))/\(∀N(a0:List Int)(a1:Int)(a2:List Int),O1 (Qci N a0 a1 a2) 254 [s59 a0,vu a1,s59 a2] (λr=>.tup [s59 r.1,vi r.2]))/\(∀N(a0:WD)(a1:Int),O1 (QcV N a0 a1) 197 [c35 a0,vu a1] (λr=>.tup [c35 r.1,vi r.2.1,vi r.2.2.1,vi r.2.2.2]))/\(∀N(a0:IN)(a1:Int),O1 (Qeb N a0 a1) 78 [Xpj a0,vi a1] (λr=>vi r))/\(∀N(a0:List (List Int)),O1 (QaR N a0) 57 [s25 a0] (λr=>s59 r))/\(∀N(a0:List Int),O1 (Qbl N a0) 154 [s59 a0,.clo (.func 299) [] []] (λr=>vi r))/\(∀N a0 c0,OK (Qa6 N a0 c0) 231 [s86 a0,.clo (.func 232) [] [.ept 1000000 0 1 0 0]] [.arr true 59 1 [[vu c0]] 0] (λr=>vi r) λr=>[.arr true 59 1 [[vu c0]] 0])/\(∀N(a0:Od)(a1:Od),O1 (Qg4 N a0 a1) 9 [c54 a0,c54 a1] (λr=>vb r)):=by refine⟨λN _=>rk f93 ?_,λN _ _ _=>rk f254 ?_,λN _ _=>rk f197 ?_,λN _ _=>rk f78 ?_,λN _=>rk f57 ?_,λN _=>rk f154 ?_,λN _ _=>rk f231 ?_,λN _ _=>rk f9 ?_⟩<;>(simp only[f93,f254,f197,f78,f57,f154,f231,f9,Option.get!,Qcf,Qci,QcV,Qeb,QaR,Qbl,Qa6,Qg4];exact zh)
abbrev QlN:=g10.g.1
abbrev QlO:=g10.g.2.1
abbrev QnO:=g10.g.2.2.1
abbrev QhT:=g10.g.2.2.2.1
abbrev Qg7:=g10.g.2.2.2.2.1
abbrev Qf2:=g10.g.2.2.2.2.2.1
abbrev Qfs:=g10.g.2.2.2.2.2.2.1
abbrev QmW:=g10.g.2.2.2.2.2.2.2
attribute [instance] QlN QlO QnO QhT Qg7 Qf2 Qfs QmW
def g9.sp{p:Prop}(h:p:=by first|((first|refine dq 54 6 hf [(0,[],[1000000]),(1,[],[1000000]),(4,[1000000],[]),(5,[],[1000000]),(6,[],[1000000]),(7,[],[1000000]),(8,[1000000],[])] ?_|refine dq 54 10 hf [(0,[],[1000000]),(1,[],[1000000]),(4,[1000000],[])] ?_|refine dq 54 11 hf [(0,[],[1000000]),(1,[],[1000000]),(2,[],[1000000]),(3,[],[1000000]),(7,[1000000],[])] ?_|refine dq 65 1 hf [(2,[320],[]),(3,[],[320]),(4,[],[320]),(5,[512],[]),(6,[],[512]),(7,[64],[]),(9,[64],[])] ?_|refine dq 70 1 hf [(2,[320],[]),(3,[],[320]),(4,[],[320]),(5,[512],[]),(6,[],[320,512]),(7,[],[320,512]),(8,[704],[]),(10,[128],[])] ?_|refine dq 98 6 hf [(0,[],[1728]),(1,[],[1728]),(4,[1728],[]),(6,[128],[])] ?_)<;>exact zz)|fail):p:=h
def g9.g:(∀N(a0:WP),O1 (Qf8 N a0) 47 [c24 a0] (λr=>.tup [c42 r.1,vi r.2]))/\(∀N(a0:List Int)(a1:Int),O1 (QfS N a0 a1) 237 [s59 a0,vu a1] (λr=>.tup [vi r.1,vi r.2]))/\(∀N(a0:WP)(a1:Int)(a2:Int),O1 (Qbx N a0 a1 a2) 276 [c24 a0,vi a1,vi a2] (λr=>.tup [vu r.1,vi r.2]))/\(∀N(a0:Wu)(a1:Int),O1 (QbW N a0 a1) 252 [Jv a0,vi a1] (λr=>vb r))/\(∀N(a0:U3),O1 (Qcb N a0) 198 [Xmk a0] (λr=>.tup [vu r.1,vi r.2]))/\(∀N a0 a1,OK (Qb0 N a0 a1) 54 [c44 a0,.ept 1000000 0 2 0 0] [.arr true 67 2 [[s3 a1.L,vi a1.at_]] 0] (λr=>vu r.1) λr=>[.arr true 67 2 [[s3 r.2.L,vi r.2.at_]] 0])/\(∀N(a0:Wy),O1 (Qdf N a0) 171 [c98 a0] (λr=>vb r))/\(∀N(a0:WP)(a1:Int)(a2:Int),O1 (Qdg N a0 a1 a2) 174 [c24 a0,vi a1,vi a2] (λr=>.tup [vu r.1,vi r.2]))/\(∀N(a0:List Int)(a1:Int),O1 (Qai N a0 a1) 28 [s59 a0,vu a1] (λr=>vb r))/\(∀N(a0:Int)(a1:Int),O1 (QdT N a0 a1) 300 [vu a0,vi a1] (λr=>vb r))/\(∀N(a0:Wh),O1 (Qhf N a0) 65 [c28 a0] (λr=>c28 r))/\(∀N(a0:Wq),O1 (Qhg N a0) 70 [c32 a0] (λr=>.agg [.fsl 153 3 (r.S.map XaT),XcK r.x,s3 r.i]))/\(∀N(a0:WP),O1 (QiJ N a0) 98 [c24 a0] (λr=>.tup [c28 r.1,vi r.2])):=by refine⟨λN _=>rk f47 ?_,λN _ _=>rk f237 ?_,λN _ _ _=>rk f276 ?_,λN _ _=>rk f252 ?_,λN _=>rk f198 ?_,λN _ _=>rk f54 ?_,λN _=>rk f171 ?_,λN _ _ _=>rk f174 ?_,λN _ _=>rk f28 ?_,λN _ _=>rk f300 ?_,λN _=>rk f65 ?_,λN _=>rq f70 [320] ?_,λN _=>rk f98 ?_⟩<;>(simp only[f47,f237,f276,f252,f198,f54,f171,f174,f28,f300,f65,f70,f98,Option.get!,Qf8,QfS,Qbx,QbW,Qcb,Qb0,Qdf,Qdg,Qai,QdT,Qhf,Qhg,QiJ];exact zh)
abbrev QnP:=g9.g.1
abbrev QlP:=g9.g.2.1
abbrev Qj8:=g9.g.2.2.1
abbrev Qja:=g9.g.2.2.2.1
abbrev Qk6:=g9.g.2.2.2.2.1
abbrev Qjb:=g9.g.2.2.2.2.2.1
abbrev Qk7:=g9.g.2.2.2.2.2.2.1
abbrev Qk8:=g9.g.2.2.2.2.2.2.2.1
abbrev QgQ:=g9.g.2.2.2.2.2.2.2.2.1
abbrev QnQ:=g9.g.2.2.2.2.2.2.2.2.2.1
abbrev QlQ:=g9.g.2.2.2.2.2.2.2.2.2.2.1
abbrev QlR:=g9.g.2.2.2.2.2.2.2.2.2.2.2.1
abbrev Qoi:=g9.g.2.2.2.2.2.2.2.2.2.2.2.2
attribute [instance] QnP QlP Qj8 Qja Qk6 Qjb Qk7 Qk8 QgQ QnQ QlQ QlR Qoi
def g7.sp{p:Prop}(h:p:=by first|((first|refine dq 45 1 hf [(0,[192],[512,1000000]),(1,[],[192,512]),(2,[1000000],[192,512]),(3,[],[512,1000000]),(4,[],[512,1000000]),(5,[512],[192,1000000]),(6,[],[192,512,1000000]),(7,[1000000],[192,512]),(8,[],[192]),(9,[],[192]),(11,[128],[])] ?_|refine dq 66 1 hf [(2,[320],[]),(3,[],[320]),(4,[],[320]),(5,[512],[]),(6,[],[320,512]),(7,[],[320,512]),(8,[704],[]),(10,[128],[])] ?_)<;>exact zz)|fail):p:=h
def g7.g:(∀N a0,OK (Qfh N a0) 45 [.ept 1000000 0 2 0 0] [.arr true 67 2 [[s3 a0.L,vi a0.at_]] 0] (λr=>c24 r.1) λr=>[.arr true 67 2 [[s3 r.2.L,vi r.2.at_]] 0])/\(∀N(a0:WP),O1 (Qdu N a0) 235 [c24 a0] (λr=>vi r))/\(∀N(a0:Wy),O1 (Qcy N a0) 238 [c98 a0] (λr=>.tup [vu r.1,vi r.2]))/\(∀N(a0:List Int)(a1:Int)(a2:Int),O1 (Qc8 N a0 a1 a2) 91 [s59 a0,vu a1,vi a2] (λr=>.tup [.fsl 59 1 (r.1.map e59),vi r.2]))/\(∀N(a0:List Wp)(a1:Int)(a2:Int),O1 (QbX N a0 a1 a2) 304 [Yn a0,vi a1,vi a2] (λr=>.tup [.fsl 159 4 (r.1.map YT),vi r.2]))/\(∀N(a0:WD)(a1:Int)(a2:Int),O1 (QdM N a0 a1 a2) 212 [c35 a0,vi a1,vi a2] (λr=>.tup [vu r.1,vi r.2]))/\(∀N(a0:WP),O1 (QeZ N a0) 239 [c24 a0] (λr=>vi r))/\(∀N(a0:WP)(a1:Int),O1 (Qcn N a0 a1) 146 [c24 a0,vu a1] (λr=>.tup [vi r.1,vi r.2.1,vi r.2.2]))/\(∀N(a0:List Int)(a1:Int)(a2:Int),O1 (QgX N a0 a1 a2) 297 [s59 a0,vu a1,vi a2] (λr=>.tup [.fsl 59 1 (r.1.map e59),vi r.2]))/\(∀N(a0:List Int)(a1:Int),O1 (Qbb N a0 a1) 268 [s3 a0,vi a1] (λr=>vb r))/\(∀N(a0:List Int)(a1:Int)(a2:List Int),O1 (Qgz N a0 a1 a2) 244 [s59 a0,vu a1,s59 a2] (λr=>.tup [s59 r.1,vi r.2]))/\(∀N(a0:Wq),O1 (QgE N a0) 66 [c32 a0] (λr=>c32 r))/\(∀N(a0:WD),O1 (Qhh N a0) 71 [c35 a0] (λr=>.agg [.fsl 146 3 (r.e.map Vg)]))/\(∀N(a0:WP),O1 (QhG N a0) 278 [c24 a0] (λr=>vi r)):=by refine⟨λN _=>rk f45 ?_,λN _=>rk f235 ?_,λN _=>rk f238 ?_,λN _ _ _=>rq f91 [1344] ?_,λN _ _ _=>rq f304 [1216] ?_,λN _ _ _=>rk f212 ?_,λN _=>rk f239 ?_,λN _ _=>rk f146 ?_,λN _ _ _=>rq f297 [1728] ?_,λN _ _=>rk f268 ?_,λN _ _ _=>rk f244 ?_,λN _=>rk f66 ?_,λN _=>rq f71 [320] ?_,λN _=>rk f278 ?_⟩<;>(simp only[f45,f235,f238,f91,f304,f212,f239,f146,f297,f268,f244,f66,f71,f278,Option.get!,Qfh,Qdu,Qcy,Qc8,QbX,QdM,QeZ,Qcn,QgX,Qbb,Qgz,QgE,Qhh,QhG];exact zh)
abbrev Qjc:=g7.g.1
abbrev Qh8:=g7.g.2.1
abbrev Qk9:=g7.g.2.2.1
abbrev QmX:=g7.g.2.2.2.1
abbrev QlS:=g7.g.2.2.2.2.1
abbrev QnR:=g7.g.2.2.2.2.2.1
abbrev Qiv:=g7.g.2.2.2.2.2.2.1
abbrev Qor:=g7.g.2.2.2.2.2.2.2.1
abbrev QmY:=g7.g.2.2.2.2.2.2.2.2.1
abbrev Qhq:=g7.g.2.2.2.2.2.2.2.2.2.1
abbrev QlT:=g7.g.2.2.2.2.2.2.2.2.2.2.1
abbrev Qj9:=g7.g.2.2.2.2.2.2.2.2.2.2.2.1
abbrev QlU:=g7.g.2.2.2.2.2.2.2.2.2.2.2.2.1
abbrev QmZ:=g7.g.2.2.2.2.2.2.2.2.2.2.2.2.2
attribute [instance] Qjc Qh8 Qk9 QmX QlS QnR Qiv Qor QmY Qhq QlT Qj9 QlU QmZ
abbrev Qka:=λN a Q n (st:St)=>∃g d,Iv (QbQ N a n g d) Q ((∃b c,st.n=32/\r59 st 1920 b d/\pt st 1 64 c 1/\ol st 3 1920 b 1 d.length/\st.t 4=vi g/\bx st 64 c 35 1 [JP a.e])\/(∃c,(st.n=32/\pt st 1 64 c 1/\st.t 3=.nsl/\st.t 4=vi g/\bx st 64 c 35 1 [JP a.e])/\d=[]))
abbrev Qjd:=λN a c Q n (st:St)=>∃b,Iv (QbF N a c n b) Q ((st.n=31/\st.t 1=vi a/\st.t 5=Xpi c/\st.t 6=vi b))
abbrev QeH:=λN a Q n (st:St)=>∃b,Iv (Qan N a n b) Q ((st.n=19/\st.t 0=JP a/\st.t 1=.clo (.func 80) [] []/\st.t 7=vi a.length/\st.t 8=vi b))
abbrev Qgf:=λN a Q n (st:St)=>∃b,Iv (QaE N a n b) Q ((st.n=19/\st.t 0=s3 a/\st.t 1=.clo (.func 75) [] []/\st.t 7=vi a.length/\st.t 8=vi b))
abbrev Qje:=λN d a Q n (st:St)=>∃b c,Iv (Qau N d a n b c) Q ((st.n=49/\st.t 0=vu d/\st.t 1=s3 a/\st.t 6=vi b/\st.t 12=s3 a/\st.t 13=vi a.length/\st.t 14=vi c))
abbrev Qjf:=λN a Q n (st:St)=>∃d g c,Iv (Qav N a n d g c) Q ((∃b,st.n=49/\r59 st 2624 b c/\st.t 0=vu d/\ol st 9 2624 b 1 c.length/\st.t 29=s3 a/\st.t 30=vi a.length/\st.t 31=vi g)\/((st.n=49/\st.t 0=vu d/\st.t 9=.nsl/\st.t 29=s3 a/\st.t 30=vi a.length/\st.t 31=vi g)/\c=[]))
abbrev Qea:=λN a Q n (st:St)=>∃b,Iv (Qak N a n b) Q ((st.n=19/\st.t 0=Xmj a/\st.t 1=.clo (.func 153) [] []/\st.t 7=vi a.length/\st.t 8=vi b))
abbrev Qkb:=λN c a Q n (st:St)=>∃b,Iv (Qd5 N c a n b) Q ((st.n=23/\st.t 1=vi c/\st.t 10=Xpi a/\st.t 11=vi a.length/\st.t 12=vi b))
def g11.sp{p:Prop}(h:p:=by first|((first|((with_reducible refine lp (Qka N _) hr N ?_ (λ_ p q=>⟨_,_,_,p,q,?_⟩) _);have lq:=@QbQ.eq_2;exact zr)|((with_reducible refine lp (Qjd N _ _) hr N ?_ (λ_ p q=>⟨_,_,p,q,?_⟩) _);have lq:=@QbF.eq_2;exact zr)|((with_reducible refine lp (QeH N _) hr N ?_ (λ_ p q=>⟨_,_,p,q,?_⟩) _);have lq:=@Qan.eq_2;exact zr)|((with_reducible refine lp (Qgf N _) hr N ?_ (λ_ p q=>⟨_,_,p,q,?_⟩) _);have lq:=@QaE.eq_2;exact zr)|((with_reducible refine lp (Qje N _ _) hr N ?_ (λ_ p q=>⟨_,_,_,p,q,?_⟩) _);have lq:=@Qau.eq_2;exact zr)|((with_reducible refine lp (Qjf N _) hr N ?_ (λ_ p q=>⟨_,_,_,_,p,q,?_⟩) _);have lq:=@Qav.eq_2;exact zr)|((with_reducible refine lp (Qea N _) hr N ?_ (λ_ p q=>⟨_,_,p,q,?_⟩) _);have lq:=@Qak.eq_2;exact zr)|((with_reducible refine lp (Qkb N _ _) hr N ?_ (λ_ p q=>⟨_,_,p,q,?_⟩) _);have lq:=@Qd5.eq_2;exact zr))<;>exact zz)|fail):p:=h
def g11.g:(∀N(a0:WD),O1 (Qbu N a0) 37 [c35 a0] (λr=>.fsl 59 1 (r.map e59)))/\(∀N(a0:List Wp)(a1:Int),O1 (Qbo N a0 a1) 303 [Yn a0,vi a1] (λr=>vi r))/\(∀N(a0:List W6),O1 (QaS N a0) 149 [JP a0,.clo (.func 80) [] []] (λr=>vi r))/\(∀N(a0:List Int),O1 (QbV N a0) 147 [s3 a0,.clo (.func 75) [] []] (λr=>vi r))/\(∀N(a0:Int)(a1:List Int),O1 (Qc7 N a0 a1) 95 [vu a0,s3 a1] (λr=>.tup [s59 r.1,vi r.2]))/\(∀N(a0:List UU),O1 (Qas N a0) 233 [Xmj a0,.clo (.func 153) [] []] (λr=>vi r))/\(∀N(a0:List Wp)(a1:Int),O1 (QdK N a0 a1) 269 [Yn a0,vi a1] (λr=>vi r)):=by refine⟨λN _=>rq f37 [1920] ?_,λN _ _=>rk f303 ?_,λN _=>rk f149 ?_,λN _=>rk f147 ?_,λN _ _=>rk f95 ?_,λN _=>rk f233 ?_,λN _ _=>rk f269 ?_⟩<;>(simp only[f37,f303,f149,f147,f95,f233,f269,Option.get!,Qbu,Qbo,QaS,QbV,Qc7,Qas,QdK];exact zh)
abbrev Qm0:=g11.g.1
abbrev QlV:=g11.g.2.1
abbrev Qe2:=g11.g.2.2.1
abbrev QgB:=g11.g.2.2.2.1
abbrev QlW:=g11.g.2.2.2.2.1
abbrev QeA:=g11.g.2.2.2.2.2.1
abbrev Qm1:=g11.g.2.2.2.2.2.2
attribute [instance] Qm0 QlV Qe2 QgB QlW QeA Qm1
end Go.Sx
