import Derived.Test.YtokkmapiallffaaGreatMG25
set_option linter.all false
namespace Go.Sx
open Go.Proofs Tryz
set_option maxRecDepth 10000
set_option maxHeartbeats 100000000
def g47.sp{p:Prop}(h:p:=by first|((first|refine dq 118 9 hf [(1,[],[512]),(2,[],[512]),(3,[],[512]),(4,[512],[])] ?_|refine dq 118 10 hf [(1,[],[512]),(2,[],[512]),(3,[],[512]),(4,[512],[])] ?_)<;>exact zz)|fail):p:=h
def g47.g:(∀N(a0:Uj)(a1:Int)(a2:Int)(a3:Int),O1 (QdO N a0 a1 a2 a3) 116 [c38 a0,vi a1,vu a2,vu a3] (λr=>.tup [c38 r.1,vu r.2.1,vi r.2.2]))/\(∀N(a0:Uj)(a1:Int)(a2:Int)(a3:Bool),O1 (Qc6 N a0 a1 a2 a3) 196 [c38 a0,vu a1,vu a2,vb a3] (λr=>.tup [vu r.1,vi r.2.1,vi r.2.2]))/\(∀N(a0:Uj)(a1:Int)(a2:Int)(a3:Int),O1 (QcI N a0 a1 a2 a3) 118 [c38 a0,vi a1,vu a2,vu a3] (λr=>.tup [c38 r.1,vu r.2.1,vi r.2.2]))/\(∀N(a0:Uj)(a1:Int)(a2:Int),O1 (Qdr N a0 a1 a2) 119 [c38 a0,vi a1,vu a2] (λr=>.tup [c38 r.1,vu r.2.1,vi r.2.2]))/\(∀N(a0:Uj)(a1:Int)(a2:Int),O1 (Qe1 N a0 a1 a2) 122 [c38 a0,vi a1,vu a2] (λr=>.tup [c38 r.1,vu r.2.1,vi r.2.2])):=by refine⟨λN _ _ _ _=>rk f116 ?_,λN _ _ _ _=>rk f196 ?_,λN _ _ _ _=>rk f118 ?_,λN _ _ _=>rk f119 ?_,λN _ _ _=>rk f122 ?_⟩<;>(simp only[f116,f196,f118,f119,f122,Option.get!,QdO,Qc6,QcI,Qdr,Qe1];exact zh)
abbrev Qls:=g47.g.1
abbrev Qmr:=g47.g.2.1
abbrev Qms:=g47.g.2.2.1
abbrev QkJ:=g47.g.2.2.2.1
abbrev Qnu:=g47.g.2.2.2.2
attribute [instance] Qls Qmr Qms QkJ Qnu
abbrev QjD:=λN a q r u f m o Q n (st:St)=>∃l k,Iv (QeA N a q r u f m o n l k) Q ((∃b c d g h i j,st.n=110/\r93 st 2560 b k/\st.s 2561=some (c,.arr false 52 1 ((((q.R.take 0) ++ r.1) ++ (q.R.drop r.1.length)).map e52) 0)/\pt st 2 128 d 13/\pt st 3 192 g 6/\pt st 8 512 h 6/\pt st 10 640 i 13/\pt st 12 768 j 3/\st.t 89=s52 f.2/\st.t 90=vi f.2.length/\st.t 91=vi l/\bx st 128 d 38 13 [vi 0,vi 0,.nsl,.nsl,vi 0,vi 0,.nsl,.nsl,.nsl,.nsl,.nsl,.nsl,.nsl]/\bx st 192 g 47 6 [vi 0,vi 0,vi 0,vi 0,vi 0,vi 0]/\bx st 512 h 47 6 (e47 a.2.2.2.1)/\bx st 640 i 38 13 [vi a.1.c.W,vi a.1.c.p,s52 a.1.w,Yn a.1.p,vi a.1.s,vi a.1.b,XcS u.1.S,XcR u.1.x,s3 u.1.i,s96 m.1.e,s96 o.1.e,.osl 2560 b 2 0 k.length,.osl 2561 c 1 0 (((min 0 q.R.length) + r.1.length) + (q.R.length - r.1.length))]/\bx st 768 j 86 3 [vi u.2,vi m.2,vi o.2]))
def g48.sp{p:Prop}(h:p:=by first|((first|((with_reducible refine lp (QjD N _ _ _ _ _ _ _) hr N ?_ (λ_ p q=>⟨_,_,_,p,q,?_⟩) _);have lq:=@QeA.eq_2;exact zr)|refine dq 6 3 hf [(0,[],[320,384,512]),(1,[],[320,384,512]),(2,[],[320,384,512]),(3,[],[320,384,512]),(4,[],[320,384,512]),(5,[],[320,384,512]),(6,[],[320,384,512]),(7,[],[320,384,512]),(8,[],[320,384,512]),(9,[],[320,384,512]),(10,[],[320,384,512]),(11,[],[320,384,512]),(12,[],[320,384,512]),(13,[],[320,384,512]),(14,[320],[384,512]),(15,[384],[320,512]),(16,[512],[320,384]),(17,[320],[]),(18,[384],[]),(20,[512],[])] ?_|refine dq 6 9 hf [(0,[],[384]),(1,[],[384]),(6,[384],[]),(7,[2561],[])] ?_|refine dq 6 11 hf [(0,[],[384]),(1,[],[384]),(7,[384],[]),(11,[],[640]),(13,[640],[]),(15,[768],[])] ?_|refine dq 6 12 hf [(0,[],[384]),(1,[],[384]),(7,[384],[]),(11,[],[640]),(13,[640],[]),(15,[768],[])] ?_|refine dq 6 21 hf [(1,[],[128]),(2,[128],[]),(3,[192],[])] ?_)<;>exact zz)|fail):p:=h
abbrev g48.g:∀N(a0:Uj),O1 (Qfg N a0) 6 [c38 a0] (λr=>.tup [c38 r.1,c47 r.2.1,vi r.2.2]):=by refineλN _=>rk f6 ?_<;>(simp only[f6,Option.get!,Qfg];exact zh)
abbrev Qmt:=g48.g
attribute [instance] Qmt
def g49:(∀N(a0:Uj)(a1:Int)(a2:Int)(a3:Int)(a4:Int),O1 (Qc8 N a0 a1 a2 a3 a4) 117 [c38 a0,vi a1,vu a2,vu a3,vu a4] (λr=>.tup [c38 r.1,vu r.2.1,vi r.2.2]))/\(∀N(a0:Uj)(a1:Ws),O1 (Qe5 N a0 a1) 12 [c38 a0,c59 a1] (λr=>.tup [c38 r.1,vu r.2.1,vi r.2.2])):=by refine⟨λN _ _ _ _ _=>rk f117 ?_,λN _ _=>rk f12 ?_⟩<;>(simp only[f117,f12,Option.get!,Qc8,Qe5];exact zh)
abbrev Qmu:=g49.1
abbrev Qn0:=g49.2
attribute [instance] Qmu Qn0
def g50:(∀N(a0:Uj)(a1:Int)(a2:Int)(a3:Int)(a4:Int),O1 (Qah N a0 a1 a2 a3 a4) 58 [c38 a0,vi a1,vu a2,vu a3,vu a4] (λr=>.tup [c38 r.1,vu r.2.1,vi r.2.2]))/\(∀N,O1 (Qf3 N) 10 [] (λr=>vb r)):=by refine⟨λN _ _ _ _ _=>rk f58 ?_,λN=>rk f10 ?_⟩<;>(simp only[f58,f10,Option.get!,Qah,Qf3];exact zh)
abbrev Qnv:=g50.1
abbrev Qmv:=g50.2
attribute [instance] Qnv Qmv
abbrev g51:∀N(a0:Iw)(a1:OA),O1 (QbU N a0 a1) 20 [c44 a0,c80 a1] (λr=>.tup [c44 r.1,vu r.2.1,vi r.2.2]):=by refineλN _ _=>rk f20 ?_<;>(simp only[f20,Option.get!,QbU];exact zh)
abbrev Qlt:=g51
attribute [instance] Qlt
abbrev Qlu:=λN a Q n (st:St)=>∃J K L M O P R S g h i j k l m o q u w z A B C F G H I,Iv (Qgf N a n J K L M O P R S g h i j k l m o q u w z A B C F G H I) Q ((∃b c d,st.n=33/\st.t 1=vi a/\pt st 4 256 b 24/\pt st 5 640 d 2/\pt st 6 384 c 24/\st.t 7=vi J/\bx st 256 b 44 24 [vi 0,vi 0,.nsl,.nsl,vi 0,vi 0,.nsl,.nsl,.nsl,.nsl,.nsl,.nsl,.nsl,vi 0,vi 0,.nsl,.nsl,.nsl,.nsl,.nsl,.nsl,.nsl,.nsl,.nsl]/\bx st 384 c 44 24 [vi M,vi O,s52 P,Yn R,vi S,vi g,XcS h,XcR i,s3 j,s96 k,s96 l,s93 m,s52 o,vi q,vi u,Xu0 w,XcS z,XcR A,s3 B,s96 C,s96 F,Xu1 G,s52 H,s52 I]/\bx st 640 d 62 2 [s3 K,vi L]))
def g52.sp{p:Prop}(h:p:=by first|((first|((with_reducible refine lp (Qlu N _) hr N ?_ (λ_ p q=>⟨_,_,_,_,_,_,_,_,_,_,_,_,_,_,_,_,_,_,_,_,_,_,_,_,_,_,_,_,p,q,?_⟩) _);have lq:=@Qgf.eq_2;exact zr)|refine dq 5 6 hf [(0,[],[640]),(3,[640],[]),(7,[],[384]),(8,[],[384]),(9,[384],[])] ?_)<;>exact zz)|fail):p:=h
abbrev g52.g:∀N(a0:List Int)(a1:Int),O1 (Qhs N a0 a1) 5 [s3 a0,vi a1] (λr=>c44 r):=by refineλN _ _=>rk f5 ?_<;>(simp only[f5,Option.get!,Qhs];exact zh)
abbrev Qn1:=g52.g
attribute [instance] Qn1
def g53.sp{p:Prop}(h:p:=by first|((first|refine dq 4 13 hf [(0,[],[1088]),(1,[],[1088]),(2,[],[1088]),(3,[],[1088]),(4,[],[1088]),(5,[],[1088]),(6,[],[1088]),(7,[],[1088]),(8,[1088],[]),(9,[1088],[])] ?_|refine dq 4 14 hf [(0,[],[1216]),(1,[],[1216]),(2,[],[1216]),(3,[],[1216]),(4,[],[1216]),(5,[],[1216]),(6,[],[1216]),(7,[],[1216]),(8,[1216],[]),(9,[1216],[])] ?_)<;>exact zz)|fail):p:=h
abbrev g53.g:∀N(a0:List Int)(a1:List Int),O1 (Qdl N a0 a1) 4 [s3 a0,s3 a1] (λr=>vb r):=by refineλN _ _=>rk f4 ?_<;>(simp only[f4,Option.get!,Qdl];exact zh)
abbrev QiC:=g53.g
attribute [instance] QiC
end Go.Sx
