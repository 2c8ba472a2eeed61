import Derived.Test.YtcclgbgphjofaaaGreatHG16
set_option linter.all false
namespace Go.Sx
open Go.Proofs
set_option maxRecDepth 10000
set_option maxHeartbeats 100000000
abbrev QjU:=λN c (Q:(Ex Ut Unit)→Prop) n (st:St)=>∃d e,Qa3 N c n d=some e/\Q e/\((∃b a,st.n=64/\st.t 1=.ept 64 b 6 0 0/\st.t 2=.ept 128 a 3 0 0/\st.t 12=ZH c.p/\st.t 13=vi c.p.length/\st.t 14=vi d/\st.s 64=some (b,.arr true 28 6 [e28 c] 0)/\st.s 128=some (a,.arr true 249 3 [[vi 0,vi 0,vu 0]] 0)))
abbrev Qie:=λN e c f g d (Q:(Ex Int Unit)→Prop) n (st:St)=>∃h i,QaK N e c f g d n h=some i/\Q i/\((∃b a,st.n=83/\st.t 1=.ept 64 b 6 0 0/\st.t 2=.ept 128 a 3 0 0/\st.t 3=s55 c.1/\st.t 7=vu g/\st.t 24=s55 c.1/\st.t 25=vi c.1.length/\st.t 26=vi f/\st.t 37=s3 d/\st.t 38=vi d.length/\st.t 39=vi h/\st.s 64=some (b,.arr true 28 6 [e28 e] 0)/\st.s 128=some (a,.arr true 249 3 [[vi 0,vi 0,vu 0]] 0)))
abbrev Qif:=λN d c (Q:Int→Prop) n (st:St)=>∃e f,Qcn N d c n e=some f/\Q f/\((∃b a,st.n=83/\st.t 1=.ept 64 b 6 0 0/\st.t 2=.ept 128 a 3 0 0/\st.t 3=s55 c.1/\st.t 5=vu 0/\st.t 24=s55 c.1/\st.t 25=vi c.1.length/\st.t 26=vi e/\st.s 64=some (b,.arr true 28 6 [e28 d] 0)/\st.s 128=some (a,.arr true 249 3 [[vi 0,vi 0,vu 0]] 0)))
abbrev QhX:=λN c e f (Q:(Ex (List Int × Bool) (List Int))→Prop) n (st:St)=>∃g d h,Qb8 N c e f n g d=some h/\Q h/\((∃a b,st.n=80/\st.s 1600=some (a,.arr false 3 1 (d.map e3) 0)/\st.t 0=s99 c/\st.t 3=.ept 192 b 6 0 0/\st.t 6=.clo (.func 169) [] []/\st.t 7=s55 f.1/\st.t 9=.osl 1600 a 1 0 d.length/\st.t 26=s99 c/\st.t 27=vi c.length/\st.t 28=vi g/\st.s 192=some (b,.arr true 28 6 [e28 e] 0)))
def g29:(∀N a0,OK (Qgr N a0) 213 [.agg (e28 a0)] [] (λr=>.agg (Xqw r)) λr=>[])/\(∀N a0,OK (Qfc N a0) 214 [.agg (e28 a0)] [] (λr=>.agg (Xqw r)) λr=>[])/\(∀N a0 a1,OK (QfM N a0 a1) 95 [s99 a0,.agg (e28 a1)] [] (λr=>.tup [s3 r.1,.v (.bool r.2)]) λr=>[]):=by
 refine⟨λN _=>rk Tryz.f213 ?_,λN _=>rk Tryz.f214 ?_,λN _ _=>rk Tryz.f95 ?_⟩<;>(rintro _ hw r hr C _ rfl hwf hf;simp only[Tryz.f213,Tryz.f214,Tryz.f95,Option.get!];(first|rw[Qgr]at hr|rw[Qfc]at hr|rw[QfM]at hr);repeat' first
 |(refine El.el hr ?_;intro hr)
 |(with_reducible intro h;refine XH hr h ?_;intro hr)
 |with_reducible intro _
 |(refine Xu hr ?_;rintro rfl;have hr:=hk;clear hk)
 |simp only[go_sem,simprocAttr,E,hl3,X2,K3,XS]
 |(with_reducible first|apply Xk|apply Xj|apply XA|apply XF|apply XG)
 |((first|with_reducible refine Y1 hr ag ?_ ?_|(with_reducible refine YN hr ?_ ?_;rotate_left;intro p;rotate_right));(·simp only[go_sem,simprocAttr]);intro hp hn hd hr;(try have hl3:=hd _ e3);(try simp only[go_sem,simprocAttr]at hl3);(try have X2:=hd _ e55);(try simp only[go_sem,simprocAttr]at X2);(try have K3:=hd _ e99);(try simp only[go_sem,simprocAttr]at K3);(try have XS:=hd _ Y8);(try simp only[go_sem,simprocAttr]at XS))
 |(refine XB ?_ ?_;.first|assumption|omega)
 |(with_reducible first|refine CallX.c ?_ _|refine OK.c hr hw ?_ (λy hr=>?_) _)
 |(with_reducible refine lp (QjU N _) hr N ?_ (λex hq hk=>⟨_,ex,hq,hk,?_⟩) _;clear hr;(try clear E);rintro n1 st ⟨v1,ex,hr,hk,⟨_,_,E⟩⟩<;>(obtain _|n1:=n1<;>rw[Qa3]at hr))
 |refine⟨_,WK _,_,_,hr,hk,?_⟩
 |(with_reducible refine lp (Qie N _ _ _ _ _) hr N ?_ (λex hq hk=>⟨_,ex,hq,hk,?_⟩) _;clear hr;(try clear E);rintro n1 st ⟨v6,ex,hr,hk,⟨_,_,E⟩⟩<;>(obtain _|n1:=n1<;>rw[QaK]at hr))
 |(with_reducible refine lp (Qif N _ _) hr N ?_ (λex hq hk=>⟨_,ex,hq,hk,?_⟩) _;clear hr;(try clear E);rintro n2 st ⟨v2,ex,hr,hk,⟨_,_,E⟩⟩<;>(obtain _|n2:=n2<;>rw[Qcn]at hr))
 |(with_reducible refine lp (QhX N _ _ _) hr N ?_ (λex hq hk=>⟨_,_,ex,hq,hk,?_⟩) _;clear hr;(try clear E);rintro n1 st ⟨v2,v3,ex,hr,hk,⟨_,_,E⟩⟩<;>(obtain _|n1:=n1<;>rw[Qb8]at hr))
 |refine⟨_,WK _,_,_,_,hr,hk,?_⟩
 |refine dc 95 11 hf 70 [(0,50,[]),(0,49,[]),(3,48,[]),(7,48,[]),(0,15,[]),(16,15,[]),(63,0,[]),(127,0,[]),(255,0,[[1600],[]])] ?_
 |(refine Xu hr ?_;rintro rfl;with_reducible refine X4 ?_)
 |exact Za hr
 |exact Yb hr
 |(apply Yc;assumption)
 |((first|refine XH (c:=true) hr rfl ?_|refine XH (c:=false) hr rfl ?_|refine XH hr ag ?_);intro hr)
 |fail)
abbrev QmC:=g29.1
abbrev QjV:=g29.2.1
abbrev QiX:=g29.2.2
attribute [instance] QmC QjV QiX
instance Qok:∀N a0,OK (Qb2 N a0) 195 [.agg (e28 a0)] [] (λr=>.v (.bool r)) λr=>[]:=by
 refineλN _=>rk Tryz.f195 ?_<;>(rintro _ hw r hr C _ rfl hwf hf;simp only[Tryz.f195,Option.get!];(rw[Qb2]at hr);repeat' first
 |(refine El.el hr ?_;intro hr)
 |(with_reducible intro h;refine XH hr h ?_;intro hr)
 |with_reducible intro _
 |simp only[go_sem,simprocAttr]
 |(with_reducible first|apply Xk|apply Xj|apply XA)
 |(refine XB ?_ ?_;.first|assumption|omega)
 |(with_reducible first|refine CallX.c ?_ _|refine OK.c hr hw ?_ (λy hr=>?_) _)
 |(refine Xu hr ?_;rintro rfl;with_reducible refine X4 ?_)
 |exact Za hr
 |exact Yb hr
 |(apply Yc;assumption)
 |fail)
end Go.Sx
