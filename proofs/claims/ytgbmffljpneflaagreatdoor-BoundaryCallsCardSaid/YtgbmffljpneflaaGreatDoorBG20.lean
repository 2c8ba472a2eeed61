import Derived.Test.YtgbmffljpneflaaGreatDoorBG19
set_option linter.all false
namespace Go.Sx
open Go.Proofs
set_option maxRecDepth 10000
set_option maxHeartbeats 100000000
abbrev QlP:=λN d e f (Q:(Ex Bool (List Int))→Prop) n (st:St)=>∃g c h,Qb8 N d e f n g c=some h/\Q h/\((∃a b,st.n=103/\st.s 1664=some (a,.arr false 3 1 (c.map e3) 0)/\st.t 1=s76 e/\st.t 2=.ept 128 b 6 0 0/\st.t 5=s39 f.1/\st.t 7=.osl 1664 a 1 0 c.length/\st.t 8=vi g/\st.s 128=some (b,.arr true 27 6 [e27 d] 0)))
abbrev QlQ:=λN e c (Q:(Ex Bool Unit)→Prop) n (st:St)=>∃d f,Qdz N e c n d=some f/\Q f/\((∃a b,st.n=103/\st.s 1664=some (a,.arr false 3 1 (c.map e3) 0)/\st.t 2=.ept 128 b 6 0 0/\st.t 7=.osl 1664 a 1 0 c.length/\st.t 9=vi d/\st.s 128=some (b,.arr true 27 6 [e27 e] 0)))
abbrev QkQ:=λN a b (Q:(Ex Bool Unit)→Prop) n (st:St)=>∃c d,QaM N a b n c=some d/\Q d/\((st.n=36/\st.t 1=s39 a/\st.t 5=s39 b.1/\st.t 7=vi c))
abbrev QlR:=λN f i (Q:(List Wv)→Prop) n (st:St)=>∃j h k,QcB N f i n j h=some k/\Q k/\((∃a g d e,st.n=61/\st.s 1472=some (a,.arr false 114 4 (h.map XU) 0)/\st.t 1=.ept 64 g 6 0 0/\st.t 2=.ept 128 d 16 0 0/\st.t 4=.ept 256 e 16 0 0/\st.t 5=vi j/\st.s 64=some (g,.arr true 27 6 [e27 f] 0)/\st.s 128=some (d,.arr true 237 16 [[vi 0,vi 0,.nsl,.nsl,vi 0,vi 0,.nsl,.nsl,.nsl,vi 0,vi 0,vi 0,vi 0,vi 0,vi 0,vi 0]] 0)/\st.s 256=some (e,.arr true 237 16 [[vi f.c.W,vi f.c.p,s39 f.w,.osl 1472 a 4 0 h.length,vi f.s,vi f.b,s39 i.1,.nsl,.nsl,vi 0,vi 0,vi 0,vi 0,vi 0,vi 0,vi 0]] 0)))
abbrev Qke:=λN b c (Q:Int→Prop) n (st:St)=>∃d e f,QbX N b c n d e=some f/\Q f/\((∃a,st.n=65/\st.t 1=vu c/\st.t 2=.ept 128 a 6 0 0/\st.t 5=vi d/\st.t 6=vi e/\st.s 128=some (a,.arr true 27 6 [e27 b] 0)))
abbrev QlS:=λN c (Q:Int→Prop) n (st:St)=>∃d e f,QcH N c n d e=some f/\Q f/\((∃b a,st.n=50/\st.t 1=.ept 64 b 6 0 0/\st.t 2=.ept 128 a 3 0 0/\st.t 5=vi d/\st.t 25=Yj c.p/\st.t 26=vi c.p.length/\st.t 27=vi e/\st.s 64=some (b,.arr true 27 6 [e27 c] 0)/\st.s 128=some (a,.arr true 257 3 [[vi 0,vi 0,vu 0]] 0)))
def g37:(∀N a0 a1,OK (Qbk N a0 a1) 77 [.agg (e27 a0),s76 a1] [] (λr=>.v (.bool r)) λr=>[])/\(∀N a0 a1,OK (Qbu N a0 a1) 83 [.agg (e27 a0),s39 a1] [] (λr=>.v (.bool r)) λr=>[])/\(∀N a0,OK (QdI N a0) 182 [.agg (e27 a0)] [] (λr=>.tup [.agg (JC r.1),vi r.2]) λr=>[])/\(∀N a0 a1,OK (Qdj N a0 a1) 181 [.agg (e27 a0),vu a1] [] (λr=>.v (.bool r)) λr=>[])/\(∀N a0,OK (Qiq N a0) 200 [.agg (e27 a0)] [] (λr=>.agg (Xp7 r)) λr=>[]):=by
 refine⟨λN _ _=>rk Tryz.f77 ?_,λN _ _=>rk Tryz.f83 ?_,λN _=>rk Tryz.f182 ?_,λN _ _=>rk Tryz.f181 ?_,λN _=>rk Tryz.f200 ?_⟩<;>(rintro _ hw r hr C _ rfl hwf hf;have hse:=@Za _ hw;simp only[Tryz.f77,Tryz.f83,Tryz.f182,Tryz.f181,Tryz.f200,Option.get!];(first|rw[Qbk]at hr|rw[Qbu]at hr|rw[QdI]at hr|rw[Qdj]at hr|rw[Qiq]at hr);repeat' first
 |(refine El.el hr ?_;clear hr;intro hr)
 |(with_reducible intro h;refine Xx hr h ?_;clear hr;intro hr)
 |with_reducible intro _
 |(refine Xn hr ?_;rintro rfl;have hr:=hk;clear hk)
 |simp only[go_sem,simprocAttr,E,hl3,Xz,ZM,Xk,hse]
 |(with_reducible first|apply Xi|apply Xh|apply Xs|apply Xq|apply Xr)
 |((first|with_reducible refine Yo hr ag ?_ ?_|(with_reducible refine Ye hr ?_ ?_;rotate_left;intro p;rotate_right));(·simp only[go_sem,simprocAttr,hse]);intro hp hn hd hr;(try have hl3:=hd _ e3);(try simp only[go_sem,simprocAttr]at hl3);(try have Xz:=hd _ e39);(try simp only[go_sem,simprocAttr]at Xz);(try have ZM:=hd _ e76);(try simp only[go_sem,simprocAttr]at ZM);(try have Xk:=hd _ XU);(try simp only[go_sem,simprocAttr]at Xk))
 |(refine Xt ?_ ?_;.first|assumption|omega)
 |(with_reducible first|refine CallX.c ?_ _|refine OK.c hr hw ?_ (λy hr=>?_) _|refine IK hr hw ?_ (λy hr=>?_) _)
 |(with_reducible refine lp (QlP N _ _ _) hr N ?_ (λex hq hk=>⟨_,_,ex,hq,hk,?_⟩) _;clear hr;(try clear E);rintro n1 st ⟨v3,v4,ex,hr,hk,⟨_,_,E⟩⟩<;>(obtain _|n1:=n1<;>rw[Qb8]at hr))
 |refine⟨_,WA _,_,_,_,hr,hk,?_⟩
 |(with_reducible refine lp (QlQ N _ _) hr N ?_ (λex hq hk=>⟨_,ex,hq,hk,?_⟩) _;clear hr;(try clear E);rintro n2 st ⟨v17,ex,hr,hk,⟨_,_,E⟩⟩<;>(obtain _|n2:=n2<;>rw[Qdz]at hr))
 |refine⟨_,WA _,_,_,hr,hk,?_⟩
 |(with_reducible refine lp (QkQ N _ _) hr N ?_ (λex hq hk=>⟨_,ex,hq,hk,?_⟩) _;clear hr;(try clear E);rintro n1 st ⟨v3,ex,hr,hk,E⟩<;>(obtain _|n1:=n1<;>rw[QaM]at hr))
 |(with_reducible refine lp (QlR N _ _) hr N ?_ (λex hq hk=>⟨_,_,ex,hq,hk,?_⟩) _;clear hr;(try clear E);rintro n1 st ⟨v4,v5,ex,hr,hk,⟨_,_,_,_,E⟩⟩<;>(obtain _|n1:=n1<;>rw[QcB]at hr))
 |(with_reducible refine lp (Qke N _ _) hr N ?_ (λex hq hk=>⟨_,_,ex,hq,hk,?_⟩) _;clear hr;(try clear E);rintro n1 st ⟨v3,v4,ex,hr,hk,⟨_,E⟩⟩<;>(obtain _|n1:=n1<;>rw[QbX]at hr))
 |(with_reducible refine lp (QlS N _) hr N ?_ (λex hq hk=>⟨_,_,ex,hq,hk,?_⟩) _;clear hr;(try clear E);rintro n1 st ⟨v4,v5,ex,hr,hk,⟨_,_,E⟩⟩<;>(obtain _|n1:=n1<;>rw[QcH]at hr))
 |refine dc 77 10 hf 68 [(0,31998,[]),(0,31869,[]),(0,31755,[]),(0,31751,[]),(12,31747,[]),(28,31747,[]),(60,31747,[]),(126,31745,[]),(255,31744,[]),(511,31744,[]),(0,3071,[]),(0,2047,[]),(3072,1023,[]),(7168,1023,[]),(15360,1023,[]),(32767,0,[]),(65535,0,[]),(131071,0,[[1664],[]])] ?_
 |refine dc 77 14 hf 92 [(0,964,[]),(1,964,[]),(0,963,[]),(7,960,[]),(15,960,[]),(31,960,[]),(0,191,[]),(0,127,[]),(192,63,[]),(448,63,[]),(1023,0,[])] ?_
 |refine dc 181 9 hf 7 [(0,962072674305,[[],[448]]),(1,962072674305,[[],[448]]),(0,377957122049,[[],[448]]),(0,240518168577,[[],[448]]),(12,103079215105,[[],[448]]),(31,1,[[],[448]]),(63,1,[[],[448]]),(0,4363686772736,[[448],[]]),(255,0,[[448],[]])] ?_
 |(refine Xn hr ?_;rintro rfl;with_reducible refine XK ?_)
 |exact Yr hr
 |((first|refine Xx (c:=true) hr rfl ?_|refine Xx (c:=false) hr rfl ?_|refine Xx hr ag ?_);intro hr)
 |fail)
abbrev Qpe:=g37.1
abbrev Qn5:=g37.2.1
abbrev Qpf:=g37.2.2.1
abbrev Qnb:=g37.2.2.2.1
abbrev Qpg:=g37.2.2.2.2
attribute [instance] Qpe Qn5 Qpf Qnb Qpg
end Go.Sx
