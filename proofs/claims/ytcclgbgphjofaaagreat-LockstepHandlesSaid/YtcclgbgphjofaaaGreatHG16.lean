import Derived.Test.YtcclgbgphjofaaaGreatHG15
set_option linter.all false
namespace Go.Sx
open Go.Proofs
set_option maxRecDepth 10000
set_option maxHeartbeats 100000000
abbrev QjS:=λN c (Q:(Ex Ut Unit)→Prop) n (st:St)=>∃d e,Qbj N c n d=some e/\Q e/\((∃b a,st.n=65/\st.t 1=.ept 64 b 6 0 0/\st.t 2=.ept 128 a 3 0 0/\st.t 3=vi d/\st.s 64=some (b,.arr true 28 6 [e28 c] 0)/\st.s 128=some (a,.arr true 302 3 [[vi 0,vi 0,vu 0]] 0)))
abbrev QjT:=λN c (Q:Int→Prop) n (st:St)=>∃d e f,Qa1 N c n d e=some f/\Q f/\((∃b a,st.n=65/\st.t 1=.ept 64 b 6 0 0/\st.t 2=.ept 128 a 3 0 0/\st.t 6=vi d/\st.t 7=vi e/\st.s 64=some (b,.arr true 28 6 [e28 c] 0)/\st.s 128=some (a,.arr true 302 3 [[vi 0,vi 0,vu 0]] 0)))
abbrev QkS:=λN e f c (Q:(List Int)→Prop) n (st:St)=>∃g d h,QdZ N e f c n g d=some h/\Q h/\((∃a b,st.n=90/\st.s 2112=some (a,.arr false 55 1 (d.map e55) 0)/\st.t 2=.ept 128 b 6 0 0/\st.t 6=vu f.1/\st.t 8=.osl 2112 a 1 0 d.length/\st.t 44=s55 c.1/\st.t 45=vi c.1.length/\st.t 46=vi g/\st.s 128=some (b,.arr true 28 6 [e28 e] 0)))
abbrev QiW:=λN (Q:(Int × List U8)→Prop) n (st:St)=>∃c d b e,Qcp N n c d b=some e/\Q e/\((∃a,st.n=42/\st.s 512=some (a,.arr false 261 4 (b.map Xam) 0)/\st.t 0=.osl 512 a 4 0 b.length/\st.t 1=.clo (.func 177) [] []/\st.t 5=vi c/\st.t 6=vi d))
def g27:(∀N a0,OK (QfA N a0) 227 [.agg (e28 a0)] [] (λr=>.agg (Xqu r)) λr=>[])/\(∀N a0 a1,OK (Qgc N a0 a1) 239 [.agg (e28 a0),vi a1] [] (λr=>.tup [vu r.1,.v (.bool r.2)]) λr=>[])/\(∀N a0,OK (Qep N a0) 104 [.agg (e28 a0)] [] (λr=>.tup [s55 r.1,vi r.2]) λr=>[]):=by
 refine⟨λN _=>rk Tryz.f227 ?_,λN _ _=>rk Tryz.f239 ?_,λN _=>rk Tryz.f104 ?_⟩<;>(rintro _ hw r hr C _ rfl hwf hf;simp only[Tryz.f227,Tryz.f239,Tryz.f104,Option.get!];(first|rw[QfA]at hr|rw[Qgc]at hr|rw[Qep]at hr);repeat' first
 |(refine El.el hr ?_;intro hr)
 |(with_reducible intro h;refine XH hr h ?_;intro hr)
 |with_reducible intro _
 |(refine Xu hr ?_;rintro rfl;have hr:=hk;clear hk)
 |simp only[go_sem,simprocAttr,E,Fq,X2,XS,XbT,Wx,WR,UX]
 |(with_reducible first|apply Xk|apply Xj|apply XA|apply XF|apply XG)
 |((first|with_reducible refine Y1 hr ag ?_ ?_|(with_reducible refine YN hr ?_ ?_;rotate_left;intro p;rotate_right));(·simp only[go_sem,simprocAttr,Wx,WR,UX]);intro hp hn hd hr;(try have X2:=hd _ e55);(try simp only[go_sem,simprocAttr]at X2);(try have XS:=hd _ Y8);(try simp only[go_sem,simprocAttr]at XS);(try have XbT:=hd _ Xam);(try simp only[go_sem,simprocAttr]at XbT))
 |(refine XB ?_ ?_;.first|assumption|omega|(dsimp only at *;omega))
 |(refine CallX.inl (f:=176) 2800 (fn:=Tryz.f176) (rs:=[.tmp 4]) (nt:=42) 1000 ac (λx=>?_) _;simp only[Tryz.f176,Option.get!])
 |(with_reducible first|refine CallX.c ?_ _|refine OK.c hr hw ?_ (λy hr=>?_) _|refine OK.d hr hw ?_ (λy hr=>?_) _)
 |(with_reducible refine lp (QjS N _) hr N ?_ (λex hq hk=>⟨_,ex,hq,hk,?_⟩) _;clear hr;(try clear E);(try clear Fq);rintro n1 st ⟨v2,ex,hr,hk,⟨_,_,E⟩⟩<;>(obtain _|n1:=n1<;>rw[Qbj]at hr))
 |refine⟨_,WK _,_,_,hr,hk,?_⟩
 |(with_reducible refine lp (QjT N _) hr N ?_ (λex hq hk=>⟨_,_,ex,hq,hk,?_⟩) _;clear hr;(try clear E);(try clear Fq);rintro n2 st ⟨v6,v7,ex,hr,hk,⟨_,_,E⟩⟩<;>(obtain _|n2:=n2<;>rw[Qa1]at hr))
 |refine⟨_,WK _,_,_,_,hr,hk,?_⟩
 |(with_reducible refine lp (QkS N _ _ _) hr N ?_ (λex hq hk=>⟨_,_,ex,hq,hk,?_⟩) _;clear hr;(try clear E);(try clear Fq);rintro n1 st ⟨v5,v6,ex,hr,hk,⟨_,_,E⟩⟩<;>(obtain _|n1:=n1<;>rw[QdZ]at hr))
 |(with_reducible refine lp (QiW N) hr N ?_ (λex hq hk=>⟨_,_,_,ex,hq,hk,?_⟩) _;clear hr;(try clear Fq);rintro n1 st ⟨v3,v4,v5,ex,hr,hk,⟨_,Fq⟩⟩<;>(obtain _|n1:=n1<;>rw[Qcp]at hr))
 |refine⟨_,WK _,_,_,_,_,hr,hk,?_⟩
 |refine dc 239 3 hf 10 [(0,1879048192,[]),(0,671088640,[]),(0,402653184,[]),(6,134217728,[]),(15,0,[]),(31,0,[]),(63,8589934592,[]),(63,4294967297,[]),(127,8589934592,[]),(511,0,[])] ?_
 |(refine Xu hr ?_;rintro rfl;with_reducible refine X4 ?_)
 |exact Za hr
 |exact Yb hr
 |(apply Yc;assumption)
 |((first|refine XH (c:=true) hr rfl ?_|refine XH (c:=false) hr rfl ?_|refine XH hr ag ?_);intro hr)
 |omega
 |fail)
abbrev QmB:=g27.1
abbrev QnB:=g27.2.1
abbrev QlA:=g27.2.2
attribute [instance] QmB QnB QlA
end Go.Sx
