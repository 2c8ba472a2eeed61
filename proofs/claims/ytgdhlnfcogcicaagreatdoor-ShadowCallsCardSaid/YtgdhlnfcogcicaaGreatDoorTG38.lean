import Derived.Test.YtgdhlnfcogcicaaGreatDoorTF
import Derived.Test.YtgdhlnfcogcicaaGreatDoorTG4
import Derived.Test.YtgdhlnfcogcicaaGreatDoorTG7
import Derived.Test.YtgdhlnfcogcicaaGreatDoorTG9
import Derived.Test.YtgdhlnfcogcicaaGreatDoorTG21
import Derived.Test.YtgdhlnfcogcicaaGreatDoorTG28
import Derived.Test.YtgdhlnfcogcicaaGreatDoorTG36
import Derived.Test.YtgdhlnfcogcicaaGreatDoorTG37
set_option linter.all false
namespace Go.Sx
open Go.Proofs
set_option maxRecDepth 10000
set_option maxHeartbeats 100000000
abbrev QhB:=λ N (a0:Wm) (a1:List Int) (a2:List Int) (a7:UH) (y1:IL) (Q:(List I4)→Prop) n (st:St)=>∃ (v2:Int) (v3:List Int) (v4:Int) (v5:List I4) (ex:_),QbT N a0 a1 a2 a7 y1 n v2 v3 v4 v5=some ex/\Q ex/\((∃ w3200 w512 w960 w1088 w2240,st.n=131/\st.s 3200=some (w3200,.arr false 53 4 (v5.map e53) 0)/\st.t 1=.isl 3 1 (a1.map e3)/\st.t 2=.isl 3 1 (a2.map e3)/\st.t 8=.ept 512 w512 10 0 0/\st.t 15=.ept 960 w960 3 0 0/\st.t 17=.ept 1088 w1088 24 0 0/\st.t 18=.ept 2240 w2240 2 0 0/\st.t 19=.osl 3200 w3200 4 0 v5.length/\st.t 20=.v (.int .i64 v2)/\st.s 512=some (w512,.arr true 36 10 [e36 a0] 0)/\st.s 960=some (w960,.arr true 39 3 [e39 a7] 0)/\st.s 1088=some (w1088,.arr true 47 24 [e47 y1] 0)/\st.s 2240=some (w2240,.arr true 51 2 [[.isl 3 1 (v3.map e3),.v (.int .i64 v4)]] 0)))
abbrev QhC:=λ N (a7:UH) (y7:List I4) (y8:List Wm) (p10:Wm) (v9:Int) (Q:(Ex Bool Unit)→Prop) n (st:St)=>∃ (v11:Int) (ex:_),QaX N a7 y7 y8 p10 v9 n v11=some ex/\Q ex/\((∃ w3200 w960 w1408,st.n=131/\st.s 3200=some (w3200,.arr false 53 4 (y7.map e53) 0)/\st.t 15=.ept 960 w960 3 0 0/\st.t 19=.osl 3200 w3200 4 0 y7.length/\st.t 22=.ept 1408 w1408 10 0 0/\st.t 64=.isl 36 10 (y8.map e36)/\st.t 65=.v (.int .i64 ((y8.length:Nat):Int))/\st.t 66=.v (.int .i64 v9)/\st.t 70=.osl 3200 w3200 4 0 y7.length/\st.t 71=.v (.int .i64 ((y7.length:Nat):Int))/\st.t 72=.v (.int .i64 v11)/\st.s 960=some (w960,.arr true 39 3 [e39 a7] 0)/\st.s 1408=some (w1408,.arr true 36 10 [e36 p10] 0)))
abbrev QhD:=λ N (a7:UH) (y7:List I4) (y8:List Wm) (Q:(Ex Bool Unit)→Prop) n (st:St)=>∃ (v9:Int) (ex:_),QaY N a7 y7 y8 n v9=some ex/\Q ex/\((∃ w3200 w960,st.n=131/\st.s 3200=some (w3200,.arr false 53 4 (y7.map e53) 0)/\st.t 15=.ept 960 w960 3 0 0/\st.t 19=.osl 3200 w3200 4 0 y7.length/\st.t 64=.isl 36 10 (y8.map e36)/\st.t 65=.v (.int .i64 ((y8.length:Nat):Int))/\st.t 66=.v (.int .i64 v9)/\st.s 960=some (w960,.arr true 39 3 [e39 a7] 0)))
instance QkQ:∀ N (a0:Wm) (a1:List Int) (a2:List Int) (a3:Int) (a4:Int) (a5:Int) (a6:Int) (a7:UH),OK (QdI N a0 a1 a2 a3 a4 a5 a6 a7) 3 [.agg (e36 a0),.isl 3 1 (a1.map e3),.isl 3 1 (a2.map e3),.v (.int .i64 a3),.v (.int .u64 a4),.v (.int .u64 a5),.v (.int .u64 a6),.agg (e39 a7)] [] (λ r=>.v (.bool r)) λ r=>[]:=by
 refine λ N _ _ _ _ _ _ _ _=>rn Tryz.f3 [.tmp 16] [] 131 (by kernel_rfl) ?_<;>(rintro _ hw r hr C _ rfl hwf hf;simp only[Tryz.f3,Option.get!];(rw[QdI] at hr);repeat' first
 |(refine El.el hr ?_;intro hr)
 |(with_reducible intro h;refine Xz hr h ?_;intro hr)
 |with_reducible intro _
 |(refine Xq hr ?_;rintro rfl;have hr:=hk;clear hk)
 |simp only[go_sem,simprocAttr,E,Xnk,Xnl]
 |(with_reducible first|apply Xg|apply Xf|apply Xs|apply Xx|apply Xy)
 |((first|with_reducible refine Ye hr (by assumption) ?_ ?_|(with_reducible refine Yd hr ?_ ?_;rotate_left;intro p;rotate_right));(·simp only[go_sem,simprocAttr]);intro hp hn hd hr;(try have Xnk:=hd _ e36);(try simp only[go_sem,simprocAttr] at Xnk);(try have Xnl:=hd _ e53);(try simp only[go_sem,simprocAttr] at Xnl))
 |(refine Xl ?_ ?_;·first|assumption|omega)
 |(with_reducible first|refine CallX.c ?_ _|refine OK.c hr hw ?_ (λ y hr=>?_) _|refine Oy hr hw ?_ (λ y hr=>?_) _)
 |(with_reducible refine Xj (I:=QhB N _ _ _ _ _) hr 1000 N (λ ex hq hk=>⟨_,_,_,_,ex,hq,hk,?_⟩) ?_ _;rotate_left;clear hr;(try clear E);rintro n1 st ⟨v2,v3,v4,v5,ex,hr,hk,⟨_,_,_,_,_,E⟩⟩<;>(obtain _|n1:=n1<;>rw[QbT] at hr))
 |refine ⟨_,WJ _,_,_,_,_,_,hr,hk,?_⟩
 |(with_reducible refine Xj (I:=QhC N _ _ _ _ _) hr 1000 N (λ ex hq hk=>⟨_,ex,hq,hk,?_⟩) ?_ _;rotate_left;clear hr;(try clear E);rintro n2 st ⟨v11,ex,hr,hk,⟨_,_,_,E⟩⟩<;>(obtain _|n2:=n2<;>rw[QaX] at hr))
 |refine ⟨_,WJ _,_,_,hr,hk,?_⟩
 |(with_reducible refine Xj (I:=QhD N _ _ _) hr 1000 N (λ ex hq hk=>⟨_,ex,hq,hk,?_⟩) ?_ _;rotate_left;clear hr;(try clear E);rintro n3 st ⟨v9,ex,hr,hk,⟨_,_,E⟩⟩<;>(obtain _|n3:=n3<;>rw[QaY] at hr))
 |refine db 3 14 hf 25 [(0,590277795960196169729,[[],[1600]]),(1,590277795960196169729,[[],[1600]]),(0,590237263563549835265,[[],[1600]]),(4,590237263563549835265,[[],[1600]]),(0,590075133976964497409,[[],[1600]]),(16,590075133976964497409,[[],[1600]]),(0,589426615630623145985,[[],[1600]]),(64,589426615630623145985,[[],[1600]]),(0,586832542245257740289,[[],[1600]]),(256,586832542245257740289,[[],[1600]]),(0,281308343524443291649,[[],[1600]]),(1024,281308343524443291649,[[],[1600]]),(0,239803169358596800513,[[],[1600]]),(4096,239803169358596800513,[[],[1600]]),(0,73782472695210835969,[[],[1600]]),(16384,73782472695210835969,[[],[1600]]),(64512,4607182418800017409,[[],[1600]]),(131071,1,[[],[1600]]),(262143,1,[[],[1600]]),(524287,7083549724304467820545,[[],[1600]]),(524287,5902958103587056517121,[[],[1600]]),(524287,3541774862152233910275,[[],[1600]]),(0,9444730713939476742144,[[1600],[]]),(5242879,7083549724304467820544,[[1600],[]]),(14680063,4722366482869645213696,[]),(33554431,0,[])] rfl rfl (by kernel_rfl) ?_ _
 |refine db 3 16 hf 113 [(0,2,[]),(0,1,[]),(3,0,[]),(7,0,[]),(15,32,[]),(15,16,[]),(63,0,[]),(127,0,[]),(255,0,[]),(511,2048,[]),(1023,2048,[]),(511,1536,[]),(4095,0,[]),(8191,0,[]),(16383,0,[])] rfl rfl (by kernel_rfl) ?_ _
 |(refine Xq hr ?_;rintro rfl;with_reducible refine XG ?_)
 |exact Yo hr
 |((first|refine Xz (c:=true) hr rfl ?_|refine Xz (c:=false) hr rfl ?_|refine Xz hr (by assumption) ?_);intro hr)
 |fail)
end Go.Sx
