import Derived.Test.YtgbmffljpneflaaGreatDoorBG18
set_option linter.all false
namespace Go.Sx
open Go.Proofs
set_option maxRecDepth 10000
set_option maxHeartbeats 100000000
abbrev QlN:=λN c (Q:(Ex Uh Unit)→Prop) n (st:St)=>∃d e,Qba N c n d=some e/\Q e/\((∃b a,st.n=64/\st.t 1=.ept 64 b 6 0 0/\st.t 2=.ept 128 a 3 0 0/\st.t 12=Yj c.p/\st.t 13=vi c.p.length/\st.t 14=vi d/\st.s 64=some (b,.arr true 27 6 [e27 c] 0)/\st.s 128=some (a,.arr true 257 3 [[vi 0,vi 0,vu 0]] 0)))
abbrev QjI:=λN e c f g d (Q:(Ex Int Unit)→Prop) n (st:St)=>∃h i,QaT N e c f g d n h=some i/\Q i/\((∃b a,st.n=83/\st.t 1=.ept 64 b 6 0 0/\st.t 2=.ept 128 a 3 0 0/\st.t 3=s39 c.1/\st.t 7=vu g/\st.t 24=s39 c.1/\st.t 25=vi c.1.length/\st.t 26=vi f/\st.t 37=s3 d/\st.t 38=vi d.length/\st.t 39=vi h/\st.s 64=some (b,.arr true 27 6 [e27 e] 0)/\st.s 128=some (a,.arr true 257 3 [[vi 0,vi 0,vu 0]] 0)))
abbrev QjJ:=λN d c (Q:Int→Prop) n (st:St)=>∃e f,QcI N d c n e=some f/\Q f/\((∃b a,st.n=83/\st.t 1=.ept 64 b 6 0 0/\st.t 2=.ept 128 a 3 0 0/\st.t 3=s39 c.1/\st.t 5=vu 0/\st.t 24=s39 c.1/\st.t 25=vi c.1.length/\st.t 26=vi e/\st.s 64=some (b,.arr true 27 6 [e27 d] 0)/\st.s 128=some (a,.arr true 257 3 [[vi 0,vi 0,vu 0]] 0)))
abbrev Qjq:=λN c e f (Q:(Ex (List Int × Bool) (List Int))→Prop) n (st:St)=>∃g d h,Qcq N c e f n g d=some h/\Q h/\((∃a b,st.n=80/\st.s 1600=some (a,.arr false 3 1 (d.map e3) 0)/\st.t 0=s76 c/\st.t 3=.ept 192 b 6 0 0/\st.t 6=.clo (.func 201) [] []/\st.t 7=s39 f.1/\st.t 9=.osl 1600 a 1 0 d.length/\st.t 26=s76 c/\st.t 27=vi c.length/\st.t 28=vi g/\st.s 192=some (b,.arr true 27 6 [e27 e] 0)))
def g36:(∀N a0,OK (QhA N a0) 257 [.agg (e27 a0)] [] (λr=>.agg (Xp7 r)) λr=>[])/\(∀N a0,OK (Qge N a0) 258 [.agg (e27 a0)] [] (λr=>.agg (Xp7 r)) λr=>[])/\(∀N a0 a1,OK (QgW N a0 a1) 121 [s76 a0,.agg (e27 a1)] [] (λr=>.tup [s3 r.1,.v (.bool r.2)]) λr=>[]):=by
 refine⟨λN _=>rk Tryz.f257 ?_,λN _=>rk Tryz.f258 ?_,λN _ _=>rk Tryz.f121 ?_⟩<;>(rintro _ hw r hr C _ rfl hwf hf;simp only[Tryz.f257,Tryz.f258,Tryz.f121,Option.get!];(first|rw[QhA]at hr|rw[Qge]at hr|rw[QgW]at hr);repeat' first
 |(refine El.el hr ?_;clear hr;intro hr)
 |(with_reducible intro h;refine Xx hr h ?_;clear hr;intro hr)
 |with_reducible intro _
 |(refine Xn hr ?_;rintro rfl;have hr:=hk;clear hk)
 |simp only[go_sem,simprocAttr,E,hl3,Xz,ZM,Xk]
 |(with_reducible first|apply Xi|apply Xh|apply Xs|apply Xq|apply Xr)
 |((first|with_reducible refine Yo hr ag ?_ ?_|(with_reducible refine Ye hr ?_ ?_;rotate_left;intro p;rotate_right));(·simp only[go_sem,simprocAttr]);intro hp hn hd hr;(try have hl3:=hd _ e3);(try simp only[go_sem,simprocAttr]at hl3);(try have Xz:=hd _ e39);(try simp only[go_sem,simprocAttr]at Xz);(try have ZM:=hd _ e76);(try simp only[go_sem,simprocAttr]at ZM);(try have Xk:=hd _ XU);(try simp only[go_sem,simprocAttr]at Xk))
 |(refine Xt ?_ ?_;.first|assumption|omega)
 |(with_reducible first|refine CallX.c ?_ _|refine OK.c hr hw ?_ (λy hr=>?_) _)
 |(with_reducible refine lp (QlN N _) hr N ?_ (λex hq hk=>⟨_,ex,hq,hk,?_⟩) _;clear hr;(try clear E);rintro n1 st ⟨v1,ex,hr,hk,⟨_,_,E⟩⟩<;>(obtain _|n1:=n1<;>rw[Qba]at hr))
 |refine⟨_,WA _,_,_,hr,hk,?_⟩
 |(with_reducible refine lp (QjI N _ _ _ _ _) hr N ?_ (λex hq hk=>⟨_,ex,hq,hk,?_⟩) _;clear hr;(try clear E);rintro n1 st ⟨v6,ex,hr,hk,⟨_,_,E⟩⟩<;>(obtain _|n1:=n1<;>rw[QaT]at hr))
 |(with_reducible refine lp (QjJ N _ _) hr N ?_ (λex hq hk=>⟨_,ex,hq,hk,?_⟩) _;clear hr;(try clear E);rintro n2 st ⟨v2,ex,hr,hk,⟨_,_,E⟩⟩<;>(obtain _|n2:=n2<;>rw[QcI]at hr))
 |(with_reducible refine lp (Qjq N _ _ _) hr N ?_ (λex hq hk=>⟨_,_,ex,hq,hk,?_⟩) _;clear hr;(try clear E);rintro n1 st ⟨v2,v3,ex,hr,hk,⟨_,_,E⟩⟩<;>(obtain _|n1:=n1<;>rw[Qcq]at hr))
 |refine⟨_,WA _,_,_,_,hr,hk,?_⟩
 |refine dc 121 11 hf 70 [(0,50,[]),(0,49,[]),(3,48,[]),(7,48,[]),(0,15,[]),(16,15,[]),(63,0,[]),(127,0,[]),(255,0,[[1600],[]])] ?_
 |(refine Xn hr ?_;rintro rfl;with_reducible refine XK ?_)
 |exact Yr hr
 |((first|refine Xx (c:=true) hr rfl ?_|refine Xx (c:=false) hr rfl ?_|refine Xx hr ag ?_);intro hr)
 |fail)
abbrev Qpd:=g36.1
abbrev QlO:=g36.2.1
abbrev QkP:=g36.2.2
attribute [instance] Qpd QlO QkP
def g35:(∀N a0,OK (Qbt N a0) 158 [.agg (e27 a0)] [] (λr=>.v (.bool r)) λr=>[])/\(∀N a0 a1,OK (QfD N a0 a1) 231 [.agg (e27 a0),vu a1] [] (λr=>.v (.bool r)) λr=>[]):=by
 refine⟨λN _=>rk Tryz.f158 ?_,λN _ _=>rk Tryz.f231 ?_⟩<;>(rintro _ hw r hr C _ rfl hwf hf;simp only[Tryz.f158,Tryz.f231,Option.get!];(first|rw[Qbt]at hr|rw[QfD]at hr);repeat' first
 |(refine El.el hr ?_;clear hr;intro hr)
 |(with_reducible intro h;refine Xx hr h ?_;clear hr;intro hr)
 |with_reducible intro _
 |simp only[go_sem,simprocAttr]
 |(with_reducible first|apply Xi|apply Xh|apply Xs)
 |(refine Xt ?_ ?_;.first|assumption|omega)
 |(with_reducible first|refine CallX.c ?_ _|refine OK.c hr hw ?_ (λy hr=>?_) _)
 |(refine Xn hr ?_;rintro rfl;with_reducible refine XK ?_)
 |exact Yr hr
 |fail)
abbrev QqC:=g35.1
abbrev Qna:=g35.2
attribute [instance] QqC Qna
end Go.Sx
