import Derived.Test.YtokkmapiallffaaGreatDoorTie
import Derived.Test.YtokkmapiallffaaGreatDoorCards
import Derived.Test.YtokkmapiallffaaGreatDoorKF
set_option linter.all false
namespace Go.Proofs.YtokkmapiallffaaGreatDoor
open Go Go.Sx Go.ChangeShapes Go.WideShapes Go.ChangeAt Go.WideElems Go.RowKit
def own:ownKnob Tryz.prog.godebug=none:=ae
abbrev laidL:List (String×DataW Unit):=Rows.envKeepsRow.laid
def gWidths:Tryz.prog.globalNamed ((laidL.map (·.1)).headD "")=some 0:=ae
def Xvf:laidOutB Tryz.prog=true:=ae
def GG:Nat->Option (List D):=λg=>if g=0 then some [.v (.int .i64 2),.v (.int .i64 16),.v (.int .i64 32)]else if g=roK 221 then some []else none
def gw:GW GG:=⟨rfl,λf=>by
 unfold GG roK
 rw[Wj ab]
 by_cases h:f=221
 .rw[Wm h,Wm ab]
 .rw[Wj h,Wj ab]⟩
def Xu4(os:Os)(args:Array Value):laidMetH Tryz.prog laidL ((World.doorLaid Tryz.prog 400 os).forCall (λ_ _=>0) ⟨#[],args,[]⟩).memory:=
 laidMetH_of_parts3 (fuel:=8) (laidMet_of_run' 8 ae ae) ae ae
def XrB:∃t e,(Tryz.prog.globals[0]?).map (·.type)=some t/\Tryz.prog.underlying t=some (.array 3 e)/\Tryz.prog.underlying e=some (.int .i64)/\Tryz.prog.cellsOf e=1/\Tryz.prog.cellsOf t=3:=⟨178,3,ae,ae,ae,ae,ae⟩
def Xvg{W:World}(h:laidMetH Tryz.prog laidL W):∀g cs,GG g=some cs->RepC Tryz.prog (Z6 W) cs g 0:=by
 rw[MakeChecks.laidMetH_plain _ _ _ ae]at h;obtain⟨ps,⟨g0,t0,cs0,f0,p0,q0,hg0,ht0,hv0,hd0,_,_⟩,_,_⟩:=h;obtain rfl:=Wz (gWidths.symm.trans hg0);obtain⟨t,e,e1,e2,e3,e4,e5⟩:=XrB;obtain rfl:=Wz (e1.symm.trans ht0);obtain⟨xs,m1,rfl,hx1,hlen,hn3,hel⟩:=DataW.trod_array e2 hd0;have key:∀(i:Nat) (n:Int),i<3->(([2,16,32]:List Int)[i]?)=some n->Z6 W 0 i=some (.int .i64 n):=by
  intro i n hi hn;have h0:=hel i hi;rw[e4,Nat.mul_one]at h0;rw[Wb ab]at h0;obtain⟨k,g1,g2,_⟩:=DataW.trod_int e3 h0;have hxi:xs[i].1=.lit (.int .i64 n):=by
   have hx2:Rows.laid_semispace_handle_widths=DataW.agg (xs.map (·.1)):=(Prod.mk.inj hx1).1;unfold Rows.laid_semispace_handle_widths at hx2;have:=congrArg (λl:List (DataW Unit)=>l[i]?) (DataW.agg.inj hx2);simp only[US,Wb (show i<xs.length by omega),UZ]at this;match i,hi,hn with
   |0,_,hn=>simp at hn;subst hn;exact(Wz this).symm
   |1,_,hn=>simp at hn;subst hn;exact(Wz this).symm
   |2,_,hn=>simp at hn;subst hn;exact(Wz this).symm
  rw[g2]at hxi;have hk:k=n:=by simpa using hxi
  subst hk;refine Xe4 ?_ rfl;have hc:=World.var?_cell hg0 hv0 i;rw[hc];have:(cs0.toList.drop i).take 1=[.int .i64 k]:=g1;have h2:=congrArg (λl:List Value=>l[0]?) this;simpa using h2
 intro g cs hg;unfold GG at hg;split at hg
 .rename_i e0;subst e0;simp only[Wo]at hg;subst hg;simp only[RepC];exact⟨⟨_,key 0 2 ab rfl,YZ _ _ ⟨ag,ag⟩⟩,⟨_,key 1 16 ab rfl,YZ _ _ ⟨ag,ag⟩⟩,⟨_,key 2 32 ab rfl,YZ _ _ ⟨ag,ag⟩⟩,trivial⟩
 split at hg
 .cases hg;trivial
 cases hg
end Go.Proofs.YtokkmapiallffaaGreatDoor
namespace Go.Sx
open Go.Proofs
def Xps(a0:List Int){l:List D}(_:WfL Tryz.prog l):∃N,Qfq N a0=some true:=⟨10000001,XeR (by unfold NB;omega) a0⟩
end Go.Sx
