import Derived.Test.YtjmgebidnekjdaaGreatLG19
set_option linter.all false
namespace Go.Sx
open Go.Proofs
set_option maxRecDepth 10000
set_option maxHeartbeats 100000000
abbrev Qkx:=λ N a0 a1 y2 (Q:(Ex Bool (List Int))→Prop) n (st:St)=>∃ v3 v4 ex,Qbg N a0 a1 y2 n v3 v4=some ex/\Q ex/\((∃ w1664 w128,st.n=103/\st.s 1664=some (w1664,.arr false 3 1 (v4.map e3) 0)/\st.t 1=s92 a1/\st.t 2=.ept 128 w128 6 0 0/\st.t 5=s76 y2.1/\st.t 7=.osl 1664 w1664 1 0 v4.length/\st.t 8=vi v3/\st.s 128=some (w128,.arr true 27 6 [e27 a0] 0)))
abbrev Qky:=λ N a0 y16 (Q:(Ex Bool Unit)→Prop) n (st:St)=>∃ v17 ex,QbB N a0 y16 n v17=some ex/\Q ex/\((∃ w1664 w128,st.n=103/\st.s 1664=some (w1664,.arr false 3 1 (y16.map e3) 0)/\st.t 2=.ept 128 w128 6 0 0/\st.t 7=.osl 1664 w1664 1 0 y16.length/\st.t 9=vi v17/\st.s 128=some (w128,.arr true 27 6 [e27 a0] 0)))
abbrev Qjz:=λ N a1 y2 (Q:(Ex Bool Unit)→Prop) n (st:St)=>∃ v3 ex,Qak N a1 y2 n v3=some ex/\Q ex/\((st.n=36/\st.t 1=s76 a1/\st.t 5=s76 y2.1/\st.t 7=vi v3))
abbrev Qkz:=λ N a0 y3 (Q:(List WM)→Prop) n (st:St)=>∃ v4 v5 ex,QcQ N a0 y3 n v4 v5=some ex/\Q ex/\((∃ w1472 w64 w128 w256,st.n=61/\st.s 1472=some (w1472,.arr false 136 4 (v5.map Yp) 0)/\st.t 1=.ept 64 w64 6 0 0/\st.t 2=.ept 128 w128 16 0 0/\st.t 4=.ept 256 w256 16 0 0/\st.t 5=vi v4/\st.s 64=some (w64,.arr true 27 6 [e27 a0] 0)/\st.s 128=some (w128,.arr true 216 16 [[vi 0,vi 0,.nsl,.nsl,vi 0,vi 0,.nsl,.nsl,.nsl,vi 0,vi 0,vi 0,vi 0,vi 0,vi 0,vi 0]] 0)/\st.s 256=some (w256,.arr true 216 16 [[vi a0.Conf.PageWords,vi a0.Conf.Pages,s76 a0.Words,.osl 1472 w1472 4 0 v5.length,vi a0.Space,vi a0.Bump,s76 y3.1,.nsl,.nsl,vi 0,vi 0,vi 0,vi 0,vi 0,vi 0,vi 0]] 0)))
abbrev Qjc:=λ N a0 a1 (Q:Int→Prop) n (st:St)=>∃ v3 v4 ex,Qb5 N a0 a1 n v3 v4=some ex/\Q ex/\((∃ w128,st.n=65/\st.t 1=vu a1/\st.t 2=.ept 128 w128 6 0 0/\st.t 5=vi v3/\st.t 6=vi v4/\st.s 128=some (w128,.arr true 27 6 [e27 a0] 0)))
abbrev QkA:=λ N a0 (Q:Int→Prop) n (st:St)=>∃ v4 v5 ex,Qcm N a0 n v4 v5=some ex/\Q ex/\((∃ w64 w128,st.n=50/\st.t 1=.ept 64 w64 6 0 0/\st.t 2=.ept 128 w128 3 0 0/\st.t 5=vi v4/\st.t 25=Y3 a0.Pages/\st.t 26=vi a0.Pages.length/\st.t 27=vi v5/\st.s 64=some (w64,.arr true 27 6 [e27 a0] 0)/\st.s 128=some (w128,.arr true 257 3 [[vi 0,vi 0,vu 0]] 0)))
def g33:(∀ N a0 a1,OK (QbG N a0 a1) 64 [.agg (e27 a0),s92 a1] [] (λ r=>.v (.bool r)) λ r=>[])/\(∀ N a0 a1,OK (Qa5 N a0 a1) 70 [.agg (e27 a0),s76 a1] [] (λ r=>.v (.bool r)) λ r=>[])/\(∀ N a0,OK (QdI N a0) 140 [.agg (e27 a0)] [] (λ r=>.tup [.agg (KR r.1),vi r.2]) λ r=>[])/\(∀ N a0 a1,OK (Qdm N a0 a1) 221 [.agg (e27 a0),vu a1] [] (λ r=>.v (.bool r)) λ r=>[])/\(∀ N a0,OK (Qhr N a0) 175 [.agg (e27 a0)] [] (λ r=>.agg (XoP r)) λ r=>[]):=by
 refine ⟨λ N _ _=>rk Tryz.f64 [.tmp 4] [] 103 ?_,λ N _ _=>rk Tryz.f70 [.tmp 4] [] 36 ?_,λ N _=>rk Tryz.f140 [.cell 2 216,.tmp 3] [] 61 ?_,λ N _ _=>rk Tryz.f221 [.tmp 4] [] 65 ?_,λ N _=>rk Tryz.f175 [.cell 2 257] [] 50 ?_⟩<;>(rintro _ hw r hr C _ rfl hwf hf;simp only[Tryz.f64,Tryz.f70,Tryz.f140,Tryz.f221,Tryz.f175,Option.get!];(first|rw[QbG] at hr|rw[Qa5] at hr|rw[QdI] at hr|rw[Qdm] at hr|rw[Qhr] at hr);repeat' first
 |(refine El.el hr ?_;intro hr)
 |(with_reducible intro h;refine Xx hr h ?_;intro hr)
 |with_reducible intro _
 |(refine Xo hr ?_;rintro rfl;have hr:=hk;clear hk)
 |simp only[go_sem,simprocAttr,E,hl3,XS,ZC,XE]
 |(with_reducible first|apply Xh|apply Xg|apply Xr|apply Xt|apply Xu)
 |((first|with_reducible refine Yn hr (by assumption) ?_ ?_|(with_reducible refine Yk hr ?_ ?_;rotate_left;intro p;rotate_right));(·simp only[go_sem,simprocAttr]);intro hp hn hd hr;(try have hl3:=hd _ e3);(try simp only[go_sem,simprocAttr] at hl3);(try have XS:=hd _ e76);(try simp only[go_sem,simprocAttr] at XS);(try have ZC:=hd _ e92);(try simp only[go_sem,simprocAttr] at ZC);(try have XE:=hd _ Yp);(try simp only[go_sem,simprocAttr] at XE))
 |(refine Xs ?_ ?_;·first|assumption|omega)
 |(with_reducible first|refine CallX.c ?_ _|refine OK.c hr hw ?_ (λ y hr=>?_) _|refine Ol hr hw ?_ (λ y hr=>?_) _)
 |(with_reducible refine lp (Qkx N _ _ _) hr N ?_ (λ ex hq hk=>⟨_,_,ex,hq,hk,?_⟩) _;clear hr;(try clear E);rintro n1 st ⟨v3,v4,ex,hr,hk,⟨_,_,E⟩⟩<;>(obtain _|n1:=n1<;>rw[Qbg] at hr))
 |refine ⟨_,WH _,_,_,_,hr,hk,?_⟩
 |(with_reducible refine lp (Qky N _ _) hr N ?_ (λ ex hq hk=>⟨_,ex,hq,hk,?_⟩) _;clear hr;(try clear E);rintro n2 st ⟨v17,ex,hr,hk,⟨_,_,E⟩⟩<;>(obtain _|n2:=n2<;>rw[QbB] at hr))
 |refine ⟨_,WH _,_,_,hr,hk,?_⟩
 |(with_reducible refine lp (Qjz N _ _) hr N ?_ (λ ex hq hk=>⟨_,ex,hq,hk,?_⟩) _;clear hr;(try clear E);rintro n1 st ⟨v3,ex,hr,hk,E⟩<;>(obtain _|n1:=n1<;>rw[Qak] at hr))
 |(with_reducible refine lp (Qkz N _ _) hr N ?_ (λ ex hq hk=>⟨_,_,ex,hq,hk,?_⟩) _;clear hr;(try clear E);rintro n1 st ⟨v4,v5,ex,hr,hk,⟨_,_,_,_,E⟩⟩<;>(obtain _|n1:=n1<;>rw[QcQ] at hr))
 |(with_reducible refine lp (Qjc N _ _) hr N ?_ (λ ex hq hk=>⟨_,_,ex,hq,hk,?_⟩) _;clear hr;(try clear E);rintro n1 st ⟨v3,v4,ex,hr,hk,⟨_,E⟩⟩<;>(obtain _|n1:=n1<;>rw[Qb5] at hr))
 |(with_reducible refine lp (QkA N _) hr N ?_ (λ ex hq hk=>⟨_,_,ex,hq,hk,?_⟩) _;clear hr;(try clear E);rintro n1 st ⟨v4,v5,ex,hr,hk,⟨_,_,E⟩⟩<;>(obtain _|n1:=n1<;>rw[Qcm] at hr))
 |refine dc 64 10 hf 68 [(0,31998,[]),(0,31869,[]),(0,31755,[]),(0,31751,[]),(12,31747,[]),(28,31747,[]),(60,31747,[]),(126,31745,[]),(255,31744,[]),(511,31744,[]),(0,3071,[]),(0,2047,[]),(3072,1023,[]),(7168,1023,[]),(15360,1023,[]),(32767,0,[]),(65535,0,[]),(131071,0,[[1664],[]])] ?_
 |refine dc 64 14 hf 92 [(0,964,[]),(1,964,[]),(0,963,[]),(7,960,[]),(15,960,[]),(31,960,[]),(0,191,[]),(0,127,[]),(192,63,[]),(448,63,[]),(1023,0,[])] ?_
 |refine dc 221 9 hf 7 [(0,962072674305,[[],[448]]),(1,962072674305,[[],[448]]),(0,377957122049,[[],[448]]),(0,240518168577,[[],[448]]),(12,103079215105,[[],[448]]),(31,1,[[],[448]]),(63,1,[[],[448]]),(0,4363686772736,[[448],[]]),(255,0,[[448],[]])] ?_
 |(refine Xo hr ?_;rintro rfl;with_reducible refine XP ?_)
 |exact Yw hr
 |exact XV hr
 |(apply XW;assumption)
 |((first|refine Xx (c:=true) hr rfl ?_|refine Xx (c:=false) hr rfl ?_|refine Xx hr (by assumption) ?_);intro hr)
 |fail)
abbrev Qnr:=g33.1
abbrev Qmm:=g33.2.1
abbrev Qns:=g33.2.2.1
abbrev QlE:=g33.2.2.2.1
abbrev Qnt:=g33.2.2.2.2
attribute [instance] Qnr Qmm Qns QlE Qnt
end Go.Sx
