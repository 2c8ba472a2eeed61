import Derived.Test.YtgdhlnfcogcicaaGreatDoorTF
import Derived.Test.YtgdhlnfcogcicaaGreatDoorTG9
import Derived.Test.YtgdhlnfcogcicaaGreatDoorTG18
import Derived.Test.YtgdhlnfcogcicaaGreatDoorTG20
import Derived.Test.YtgdhlnfcogcicaaGreatDoorTG21
import Derived.Test.YtgdhlnfcogcicaaGreatDoorTG22
set_option linter.all false
namespace Go.Sx
open Go.Proofs
set_option maxRecDepth 10000
set_option maxHeartbeats 100000000
theorem H0:True:=trivial
theorem Xo3:JC Tryz.prog 170=some (.i64,168):=by kernel_rfl
theorem Qj9 (G:Nat→Option (List D)):YF Tryz.prog G 79 [] [] (Eqs (.fmp .i64 [1,2,3,4,5,6,7,8,9,10,11,13,15,12,14,16,17,18,19,20] [.agg [.clo (.func 146) [] []],.agg [.clo (.func 148) [] []],.agg [.clo (.func 149) [] []],.agg [.clo (.func 144) [] []],.agg [.clo (.func 144) [] []],.agg [.clo (.func 142) [] []],.agg [.clo (.func 142) [] []],.agg [.clo (.func 150) [] []],.agg [.clo (.func 151) [] []],.agg [.clo (.func 152) [] []],.agg [.clo (.func 153) [] []],.agg [.clo (.func 155) [] []],.agg [.clo (.func 157) [] []],.agg [.clo (.func 158) [] []],.agg [.clo (.func 160) [] []],.agg [.clo (.func 161) [] []],.agg [.clo (.func 162) [] []],.agg [.clo (.func 163) [] []],.agg [.clo (.func 164) [] []],.agg [.clo (.func 165) [] []]]) []):=by
 refine X6 (fn:=Tryz.f79) (body:=(Tryz.f79.body).get!) (rs:=[.tmp 0]) 1000 [192] 29 (by kernel_rfl) (by kernel_rfl) (by kernel_rfl) (by kernel_rfl) (by kernel_rfl) (by simp) λ C _ hG hwf=>?_
 subst hG
 simp only[Tryz.f79,Option.get!]
 simp only[go_sem,simprocAttr,Xo3]
 with_reducible refine XG ?_
 simp only[go_sem,simprocAttr]
instance Qmb:∀ N (a0:Wm) (a1:Int) (a2:Int) (a3:Int) (a4:Int) (a5:Bool),OK (Qai N a0 a1 a2 a3 a4 a5) 39 [.agg (e61 a0),.v (.int .i64 a1),.v (.int .u64 a2),.v (.int .u64 a3),.v (.int .u64 a4),.v (.bool a5)] [] (λ r=>.v (.int .i64 r)) λ r=>[]:=by
 refine λ N a0 a1 a2 a3 a4 a5=>?_
 have hc:a1=1\/a1=2\/a1=3\/a1=4\/a1=5\/a1=6\/a1=7\/a1=8\/a1=9\/a1=10\/a1=11\/a1=13\/a1=15\/a1=12\/a1=14\/a1=16\/a1=17\/a1=18\/a1=19\/a1=20\/(a1≠1/\a1≠2/\a1≠3/\a1≠4/\a1≠5/\a1≠6/\a1≠7/\a1≠8/\a1≠9/\a1≠10/\a1≠11/\a1≠13/\a1≠15/\a1≠12/\a1≠14/\a1≠16/\a1≠17/\a1≠18/\a1≠19/\a1≠20):=by omega
 rcases hc with rfl|rfl|rfl|rfl|rfl|rfl|rfl|rfl|rfl|rfl|rfl|rfl|rfl|rfl|rfl|rfl|rfl|rfl|rfl|rfl|H0
 all_goals
  refine rn Tryz.f39 [.tmp 12] [] 35 (by kernel_rfl) ?_
  rintro _ hw r hr C _ rfl hwf hf
  rw[Qai] at hr
  simp only[Tryz.f39,Option.get!]
  repeat' first
   |simp only[go_sem,simprocAttr,Xo3,List.zip_cons_cons,List.zip_nil_left,H0]
   |(with_reducible intro h;refine Xz hr h ?_;intro hr)
   |(refine El.el hr ?_;intro hr)
   |(with_reducible first|apply Xg|apply Xf|apply Xs)
   |(refine Xl ?_ ?_;(·first|assumption|omega))
   |with_reducible refine CallX.c ?_ _
   |with_reducible refine OK.c hr hw ?_ (λ y hr=>?_) _
   |with_reducible refine CallG.ofE (Qj9 _) ?_ ?_ _
   |with_reducible refine CallG.ofE (OK.h _ hw _ hr) ?_ ?_ _
   |(refine Xq hr ?_;rintro rfl;with_reducible refine XG ?_)
   |((first|refine Xz (c:=true) hr rfl ?_|refine Xz (c:=false) hr rfl ?_|refine Xz (c:=false) hr (WY.2 (by simp only[H0,ne_eq,not_false_eq_true])) ?_);intro hr)
   |exact Yo hr
   |with_reducible refine XG ?_
   |fail
instance Qoo:∀ N (a0:Wz),OK (QeF N a0) 240 [.agg (e42 a0)] [] (λ r=>.v (.bool r)) λ r=>[]:=by
 refine λ N _=>rn Tryz.f240 [.tmp 2] [] 7 (by kernel_rfl) ?_<;>(rintro _ hw r hr C _ rfl hwf hf;simp only[Tryz.f240,Option.get!];(rw[QeF] at hr);repeat' first
 |(refine El.el hr ?_;intro hr)
 |(with_reducible intro h;refine Xz hr h ?_;intro hr)
 |with_reducible intro _
 |simp only[go_sem,simprocAttr]
 |(with_reducible first|apply Xg|apply Xf|apply Xs)
 |(refine Xl ?_ ?_;·first|assumption|omega)
 |(with_reducible first|refine CallX.c ?_ _|refine OK.c hr hw ?_ (λ y hr=>?_) _)
 |(refine Xq hr ?_;rintro rfl;with_reducible refine XG ?_)
 |exact Yo hr
 |fail)
abbrev QhW:=λ N (y2:List Bool) (y3:Wm) (Q:(List WP)→Prop) n (st:St)=>∃ (v4:Int) (v5:List WP) (ex:_),Qa6 N y2 y3 n v4 v5=some ex/\Q ex/\((∃ w960 w961 w962 w128 w320,st.n=49/\st.s 960=some (w960,.arr false 77 4 (y3.Things.map e77) 0)/\st.s 961=some (w961,.arr false 132 3 (v5.map XC) 0)/\st.s 962=some (w962,.arr false 116 3 (y3.Marks.map Yv) 0)/\st.t 2=.ept 128 w128 10 0 0/\st.t 4=.isl 4 1 (y2.map e4)/\st.t 5=.ept 320 w320 10 0 0/\st.t 18=.osl 961 w961 3 0 v5.length/\st.t 19=.v (.int .i64 ((y3.Weaks.Entries.length:Nat):Int))/\st.t 20=.v (.int .i64 v4)/\st.s 128=some (w128,.arr true 61 10 [[.v (.int .i64 0),.v (.int .i64 0),.nsl,.nsl,.nsl,.nsl,.nsl,.nsl,.nsl,.nsl]] 0)/\st.s 320=some (w320,.arr true 61 10 [[.v (.int .i64 y3.Conf.PageWords),.v (.int .i64 y3.Conf.Pages),.osl 960 w960 4 0 y3.Things.length,.isl 210 3 (y3.Locals.Slots.map X4),.isl 159 3 (y3.Locals.Scopes.map X9),.isl 3 1 (y3.Locals.Issued.map e3),.isl 132 3 (y3.Globals.Entries.map XC),.osl 961 w961 3 0 v5.length,.osl 962 w962 3 0 y3.Marks.length,.isl 37 1 (y3.Roots.map e37)]] 0)))
instance Qlx:∀ N (a0:Wm),OK (QcV N a0) 23 [.agg (e61 a0)] [] (λ r=>.tup [.agg [.v (.int .i64 r.1.Conf.PageWords),.v (.int .i64 r.1.Conf.Pages),.fsl 77 4 (r.1.Things.map e77),.isl 210 3 (r.1.Locals.Slots.map X4),.isl 159 3 (r.1.Locals.Scopes.map X9),.isl 3 1 (r.1.Locals.Issued.map e3),.isl 132 3 (r.1.Globals.Entries.map XC),.isl 132 3 (r.1.Weaks.Entries.map XC),.isl 116 3 (r.1.Marks.map Yv),.isl 37 1 (r.1.Roots.map e37)],.v (.int .i64 r.2)]) λ r=>[]:=by
 refine λ N _=>rn Tryz.f23 [.cell 2 61,.tmp 3] [960] 49 (by kernel_rfl) ?_<;>(rintro _ hw r hr C _ rfl hwf hf;simp only[Tryz.f23,Option.get!];(rw[QcV] at hr);repeat' first
 |(refine El.el hr ?_;intro hr)
 |(with_reducible intro h;refine Xz hr h ?_;intro hr)
 |with_reducible intro _
 |(refine Xq hr ?_;rintro rfl;have hr:=hk;clear hk)
 |simp only[go_sem,simprocAttr,E,hl4,Yw]
 |(with_reducible first|apply Xg|apply Xf|apply Xs)
 |((first|with_reducible refine Ye hr (by assumption) ?_ ?_|(with_reducible refine Yd hr ?_ ?_;rotate_left;intro p;rotate_right));(·simp only[go_sem,simprocAttr]);intro hp hn hd hr;(try have hl4:=hd _ e4);(try simp only[go_sem,simprocAttr] at hl4);(try have Yw:=hd _ XC);(try simp only[go_sem,simprocAttr] at Yw))
 |(refine Xl ?_ ?_;·first|assumption|omega)
 |(with_reducible first|refine CallX.c ?_ _|refine OK.c hr hw ?_ (λ y hr=>?_) _)
 |(with_reducible refine Xj (I:=QhW N _ _) hr 1000 N (λ ex hq hk=>⟨_,_,ex,hq,hk,?_⟩) ?_ _;rotate_left;clear hr;(try clear E);rintro n1 st ⟨v4,v5,ex,hr,hk,⟨_,_,_,_,_,E⟩⟩<;>(obtain _|n1:=n1<;>rw[Qa6] at hr))
 |refine ⟨_,WJ _,_,_,_,hr,hk,?_⟩
 |(refine Xq hr ?_;rintro rfl;with_reducible refine XG ?_)
 |exact Yo hr
 |((first|refine Xz (c:=true) hr rfl ?_|refine Xz (c:=false) hr rfl ?_|refine Xz hr (by assumption) ?_);intro hr)
 |fail)
end Go.Sx
