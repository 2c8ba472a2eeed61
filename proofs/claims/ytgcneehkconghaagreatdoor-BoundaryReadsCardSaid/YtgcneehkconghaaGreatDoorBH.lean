import Derived.Test.YtgcneehkconghaaGreatDoorTie
import Derived.Test.YtgcneehkconghaaGreatDoorCards
import Derived.Test.YtgcneehkconghaaGreatDoorBF
import Derived.Test.YtgcneehkconghaaGreatDoorBE
set_option linter.all false
namespace Go.Proofs.YtgcneehkconghaaGreatDoor
open Go Go.Sx Go.ChangeShapes Go.WideShapes Go.ChangeAt Go.WideElems Go.RowKit
theorem own:ownKnob Tryz.prog.godebug=none:=by kernel_rfl
abbrev laidL:List (String×DataW Unit):=Rows.boundaryReadsRow.laid
theorem gWidths:Tryz.prog.globalNamed ((laidL.map (·.1)).headD "")=some 0:=by kernel_rfl
theorem Xn8:laidOutB Tryz.prog=true:=by kernel_rfl
def GG:Nat->Option (List D):=λ g=>if g=0 then some [.v (.int .i64 2),.v (.int .i64 16),.v (.int .i64 32)] else none
theorem gw:GW GG:=rfl
theorem XnW (os:Os) (args:Array Value):laidMetH Tryz.prog laidL ((World.doorLaid Tryz.prog 400 os).forCall (λ _ _=>0) ⟨#[],args,[]⟩).memory :=
 laidMetH_of_parts3 (fuel:=8) (laidMet_of_run' 8 (by kernel_rfl) (by kernel_rfl)) (by kernel_rfl) (by kernel_rfl)
theorem Xlt:∃ t e,(Tryz.prog.globals[0]?).map (·.type)=some t/\Tryz.prog.underlying t=some (.array 3 e)/\Tryz.prog.underlying e=some (.int .i64)/\Tryz.prog.cellsOf e=1/\Tryz.prog.cellsOf t=3:=⟨131,3,by kernel_rfl,by kernel_rfl,by kernel_rfl,by kernel_rfl,by kernel_rfl⟩
theorem Xn9 {W:World} (h:laidMetH Tryz.prog laidL W):∀ g cs,GG g=some cs->RepC Tryz.prog (Zm W) cs g 0:=by
 rw[MakeChecks.laidMetH_plain _ _ _ (by kernel_rfl)] at h
 obtain ⟨ps,⟨g0,t0,cs0,f0,p0,q0,hg0,ht0,hv0,hd0,_,_⟩,_,_⟩:=h
 obtain rfl:=WO (gWidths.symm.trans hg0)
 obtain ⟨t,e,e1,e2,e3,e4,e5⟩:=Xlt
 obtain rfl:=WO (e1.symm.trans ht0)
 obtain ⟨xs,m1,rfl,hx1,hlen,hn3,hel⟩:=DataW.trod_array e2 hd0
 have key:∀ (i:Nat) (n:Int),i<3->(([2,16,32]:List Int)[i]?)=some n->Zm W 0 i=some (.int .i64 n):=by
  intro i n hi hn
  have h0:=hel i hi
  rw[e4,Nat.mul_one] at h0
  rw[Wd (by omega)] at h0
  obtain ⟨k,g1,g2,_⟩:=DataW.trod_int e3 h0
  have hxi:xs[i].1=.lit (.int .i64 n):=by
   have hx2:Rows.laid_semispace_handle_widths=DataW.agg (xs.map (·.1)):=(Prod.mk.inj hx1).1
   unfold Rows.laid_semispace_handle_widths at hx2
   have:=congrArg (λ l:List (DataW Unit)=>l[i]?) (DataW.agg.inj hx2)
   simp only[Ib,Wd (show i<xs.length by omega),If] at this
   match i,hi,hn with
   | 0,_,hn=>simp at hn;subst hn;exact (WO this).symm
   | 1,_,hn=>simp at hn;subst hn;exact (WO this).symm
   | 2,_,hn=>simp at hn;subst hn;exact (WO this).symm
  rw[g2] at hxi
  have hk:k=n:=by simpa using hxi
  subst hk
  refine XbM ?_ rfl
  have hc:=World.var?_cell hg0 hv0 i
  rw[hc]
  have:(cs0.toList.drop i).take 1=[.int .i64 k]:=g1
  have h2:=congrArg (λ l:List Value=>l[0]?) this
  simpa using h2
 intro g cs hg
 unfold GG at hg
 split at hg
 ·rename_i e0
  subst e0
  simp only[Wb] at hg
  subst hg
  simp only[RepC]
  exact ⟨⟨_,key 0 2 (by omega) rfl,Yv _ _ ⟨by decide,by decide⟩⟩,⟨_,key 1 16 (by omega) rfl,Yv _ _ ⟨by decide,by decide⟩⟩,⟨_,key 2 32 (by omega) rfl,Yv _ _ ⟨by decide,by decide⟩⟩,trivial⟩
 ·cases hg
end Go.Proofs.YtgcneehkconghaaGreatDoor
namespace Go.Sx
open Go.Proofs
theorem Xeq (a0:List Int) (a1 a2 a3:Int) {l:List D} (_:WfL Tryz.prog l) (t1:tU a1) (t2:tU a2):∃ N,QbV N a0 a1 a2 a3=some true:=⟨10000001,J5 (by unfold NB;omega) a0 t1 t2 a3⟩
end Go.Sx
