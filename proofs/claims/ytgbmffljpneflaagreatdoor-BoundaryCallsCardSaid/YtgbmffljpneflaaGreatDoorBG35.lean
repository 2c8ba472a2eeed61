import Derived.Test.YtgbmffljpneflaaGreatDoorBG34
set_option linter.all false
namespace Go.Sx
open Go.Proofs
set_option maxRecDepth 10000
set_option maxHeartbeats 100000000
abbrev Qi2:=λN g e (Q:(List IJ)→Prop) n (st:St)=>∃h i j f k,QbB N g e n h i j f=some k/\Q k/\((∃a b d c,st.n=130/\st.s 2624=some (a,.arr false 38 13 (e.map e38) 0)/\st.s 3968=some (b,.arr false 54 4 (f.map e54) 0)/\st.t 15=.ept 960 d 24 0 0/\st.t 16=.ept 2176 c 2 0 0/\st.t 17=.osl 2624 a 13 0 e.length/\st.t 18=.osl 3968 b 4 0 f.length/\st.t 19=vi h/\st.s 960=some (d,.arr true 45 24 [e45 g] 0)/\st.s 2176=some (c,.arr true 49 2 [[s3 i,vi j]] 0)))
abbrev Qi3:=λN h b e f (Q:(Ex Bool Unit)→Prop) n (st:St)=>∃g i,Qa9 N h b e f n g=some i/\Q i/\((∃c a d,st.n=130/\st.s 2624=some (c,.arr false 38 13 (h.map e38) 0)/\st.s 3968=some (a,.arr false 54 4 (b.map e54) 0)/\st.t 18=.osl 3968 a 4 0 b.length/\st.t 21=.ept 1344 d 13 0 0/\st.t 73=.osl 2624 c 13 0 h.length/\st.t 74=vi h.length/\st.t 75=vi f/\st.t 79=.osl 3968 a 4 0 b.length/\st.t 80=vi b.length/\st.t 81=vi g/\st.s 1344=some (d,.arr true 38 13 [e38 e] 0)))
abbrev Qi4:=λN e c (Q:(Ex Bool Unit)→Prop) n (st:St)=>∃d f,QaU N e c n d=some f/\Q f/\((∃a b,st.n=130/\st.s 2624=some (a,.arr false 38 13 (e.map e38) 0)/\st.s 3968=some (b,.arr false 54 4 (c.map e54) 0)/\st.t 18=.osl 3968 b 4 0 c.length/\st.t 73=.osl 2624 a 13 0 e.length/\st.t 74=vi e.length/\st.t 75=vi d))
instance Qrk:∀N a0 a1 a2 a3 a4 a5 a6,OK (Qd7 N a0 a1 a2 a3 a4 a5 a6) 3 [.agg (e38 a0),s3 a1,s3 a2,vi a3,vu a4,vu a5,vu a6] [] (λr=>.v (.bool r)) λr=>[]:=by
 refineλN _ _ _ _ _ _ _=>rk Tryz.f3 ?_<;>(rintro _ hw r hr C _ rfl hwf hf;have hse:=@Za _ hw;simp only[Tryz.f3,Option.get!];(rw[Qd7]at hr);repeat' first
 |(refine El.el hr ?_;clear hr;intro hr)
 |(with_reducible intro h;refine Xx hr h ?_;clear hr;intro hr)
 |with_reducible intro _
 |(refine Xn hr ?_;rintro rfl;have hr:=hk;clear hk)
 |simp only[go_sem,simprocAttr,E,XrJ,XrK,hse]
 |(with_reducible first|apply Xi|apply Xh|apply Xs|apply Xq|apply Xr)
 |((first|with_reducible refine Yo hr ag ?_ ?_|(with_reducible refine Ye hr ?_ ?_;rotate_left;intro p;rotate_right));(·simp only[go_sem,simprocAttr,hse]);intro hp hn hd hr;(try have XrJ:=hd _ e38);(try simp only[go_sem,simprocAttr]at XrJ);(try have XrK:=hd _ e54);(try simp only[go_sem,simprocAttr]at XrK))
 |(refine Xt ?_ ?_;.first|assumption|omega)
 |(with_reducible first|refine CallX.c ?_ _|refine OK.c hr hw ?_ (λy hr=>?_) _|refine IK hr hw ?_ (λy hr=>?_) _)
 |(with_reducible refine lp (Qi2 N _ _) hr N ?_ (λex hq hk=>⟨_,_,_,_,ex,hq,hk,?_⟩) _;clear hr;(try clear E);rintro n1 st ⟨v5,v6,v7,v8,ex,hr,hk,⟨_,_,_,_,E⟩⟩<;>(obtain _|n1:=n1<;>rw[QbB]at hr))
 |(first|refine⟨_,WA _,_,_,_,_,_,hr,hk,?_⟩|(simp only[go_sem,simprocAttr]at hk;refine⟨_,WA _,_,_,_,_,_,hr,hk,?_⟩))
 |(with_reducible refine lp (Qi3 N _ _ _ _) hr N ?_ (λex hq hk=>⟨_,ex,hq,hk,?_⟩) _;clear hr;(try clear E);rintro n2 st ⟨v13,ex,hr,hk,⟨_,_,_,E⟩⟩<;>(obtain _|n2:=n2<;>rw[Qa9]at hr))
 |refine⟨_,WA _,_,_,hr,hk,?_⟩
 |(with_reducible refine lp (Qi4 N _ _) hr N ?_ (λex hq hk=>⟨_,ex,hq,hk,?_⟩) _;clear hr;(try clear E);rintro n3 st ⟨v11,ex,hr,hk,⟨_,_,E⟩⟩<;>(obtain _|n3:=n3<;>rw[QaU]at hr))
 |refine dc 3 3 hf 35 [(0,60,[[],[2176]]),(1,60,[[],[2176]]),(0,19,[]),(4,19,[]),(0,15,[]),(28,3,[[2176],[]]),(63,0,[[2624],[]]),(127,0,[])] ?_
 |(refine Xn hr ?_;rintro rfl;with_reducible refine XK ?_)
 |exact Yr hr
 |((first|refine Xx (c:=true) hr rfl ?_|refine Xx (c:=false) hr rfl ?_|refine Xx hr ag ?_);intro hr)
 |fail)
end Go.Sx
