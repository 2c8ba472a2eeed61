import Derived.LoopNIn
import Derived.OrdersIn
import Derived.TacticsIn
import Derived.Scope
import Derived.Test.YtmpbhfnjjaocoaaGreatCA
set_option linter.all false
namespace Go.Sx
variable {P:Program}
section
variable {C:Cx}{s:Heap}{U:Nat->Prop}{ver:Nat}{M:Mem}{β:Loc}{w:World}
def VL{fd:Field}(hne:P.cellsOf fd.type≠0)(b o:Nat):(fieldPlace ⟨b,o,none⟩ fd).run P w=.ok ⟨b,o+fd.offset,none⟩ w:=by have:=KP (P:=P) (t:=fd.type) rfl hne w;simp[fieldPlace,this,hne,UQ]
def VT{fields:Array Field}{f off sz ft:Nat}(h:(fields.toList.map λf=>(f.offset,P.cellsOf f.type,f.type))[f]? = some (off,sz,ft)):∃fd,fields[f]? = some fd/\fd.offset=off/\P.cellsOf fd.type=sz/\fd.type=ft:=by simp_all
def Xgt(fields:Array Field)(hall:∀fd∈fields.toList,((P.info? fd.type).map (·.size)).isSome=true)(w:World):
 (fields.mapM λf=>do pure (f.offset,←sizeOf f.type):Sem (Array (Nat×Nat))).run P w=.ok (fields.map λf=>(f.offset,P.cellsOf f.type)) w:=by
 rw[Array.mapM_eq_mapM_toList];have:∀l:List Field,(∀fd∈l,((P.info? fd.type).map (·.size)).isSome=true)->(l.mapM λf=>do pure (f.offset,←sizeOf f.type):Sem (List (Nat×Nat))).run P w=.ok (l.map λf=>(f.offset,P.cellsOf f.type)) w:=by
  intro l;induction l with
  |nil=>simp
  |cons f l ih=>
   intro h;have h1:=h f ab;have ih':=ih λfd hf=>h fd (by simp[hf]);cases hi:P.info? f.type with
   |none=>simp[hi]at h1
   |some i=>
    have:(sizeOf f.type).run P w=.ok (P.cellsOf f.type) w:=by simp[sizeOf,typeInfo,hi,Program.cellsOf]
    simp only[List.mapM_cons,Sem.run_bind,this,Result.andThen_ok,Sem.run_pure,ih',Uf]
 have h:=this fields.toList hall;simp only[Sem.run_map,h,Result.andThen_ok];congr 1;grind
def XmW(I:UO P C s U M β w)(_hv:¬U ver){dst:Option Tmp}{type:TypeId}{pos:String}{after:Array Edge}{guard:Option (Nat×Bool)}(ρ:Operand->Value)(t:Operand->D)(hρ:∀x,Rep P M β (t x) (ρ x)){c:Prop}{d:D}{u:Up}(x:Operand)(h:opF P dst ver t s (.move x)=some (c,d,u))(hc:c):OpOK P C s u U ver M β ((execOp ρ ⟨dst,(.move x),type,pos,after,guard⟩).run P w) d:=by unfold execOp;obtain⟨rfl,rfl,rfl⟩:=h;exact .val I rfl (hρ x)
def XiA(I:UO P C s U M β w)(_hv:¬U ver){dst:Option Tmp}{type:TypeId}{pos:String}{after:Array Edge}{guard:Option (Nat×Bool)}(ρ:Operand->Value)(t:Operand->D)(hρ:∀x,Rep P M β (t x) (ρ x)){c:Prop}{d:D}{u:Up}(x:Operand)(h:opF P dst ver t s (.assign x)=some (c,d,u))(hc:c):OpOK P C s u U ver M β ((execOp ρ ⟨dst,(.assign x),type,pos,after,guard⟩).run P w) d:=by unfold execOp;obtain⟨rfl,rfl,rfl⟩:=h;exact .val I rfl (hρ x)
def XmX(I:UO P C s U M β w)(_hv:¬U ver){dst:Option Tmp}{type:TypeId}{pos:String}{after:Array Edge}{guard:Option (Nat×Bool)}(ρ:Operand->Value)(t:Operand->D)(hρ:∀x,Rep P M β (t x) (ρ x)){c:Prop}{d:D}{u:Up}(g:Operand)(a:Operand)(b:Operand)(h:opF P dst ver t s (.pick g a b)=some (c,d,u))(hc:c):OpOK P C s u U ver M β ((execOp ρ ⟨dst,(.pick g a b),type,pos,after,guard⟩).run P w) d:=by
 unfold execOp;simp only[opF]at h;split at h
 .rename_i bb hg;obtain⟨rfl,rfl,rfl⟩:=h;have hgr:=hρ g;rw[hg]at hgr;refine .val I (v:=if bb then ρ a else ρ b) (by simp[hgr.1,asBool]) ?_;have ha:=hρ a;have hb:=hρ b;unfold XjH;split
  .rename_i p q e1 e2;rw[e1]at ha;rw[e2]at hb;cases bb
   .simp[Rep,hb.1,wfV]
   simp[Rep,ha.1,wfV]
  cases bb
  .exact hb
  exact ha
 simp_all
def XjM(I:UO P C s U M β w)(hv:¬U ver){dst:Option Tmp}{type:TypeId}{pos:String}{after:Array Edge}{guard:Option (Nat×Bool)}(ρ:Operand->Value)(t:Operand->D)(_hρ:∀x,Rep P M β (t x) (ρ x)){c:Prop}{d:D}{u:Up}(T:TypeId)(h:opF P dst ver t s (.alloc T)=some (c,d,u))(hc:c):OpOK P C s u U ver M β ((execOp ρ ⟨dst,(.alloc T),type,pos,after,guard⟩).run P w) d:=by
 unfold execOp;simp only[opF]at h;split at h
 .rename_i ty hT;split at h
  .rename_i cs hcs;split at h
   .rename_i hcond;obtain⟨rfl,rfl,rfl⟩:=h;have⟨z1,z2⟩:=Y3 (P:=P) (M:=M) (β:=β) hcs;have e:(Instr.alloc T true (.tuple #[])).run P w=((do pure (Value.pointer (some (←newVar T ty.zero))):Sem Value)).run P w:=by simp[Instr.alloc,Ke hT]
    exact VOK.op (sem:=Instr.alloc T true (.tuple #[])) (by rw[e];exact XjI I hv hT z1 z2 hcond.1 hcond.2 (Kv dst))
   cases h
  cases h
 simp_all
def Xph(I:UO P C s U M β w)(hv:¬U ver){dst:Option Tmp}{type:TypeId}{pos:String}{after:Array Edge}{guard:Option (Nat×Bool)}(ρ:Operand->Value)(t:Operand->D)(hρ:∀x,Rep P M β (t x) (ρ x)){c:Prop}{d:D}{u:Up}(T:TypeId)(x:Operand)(h:opF P dst ver t s (.box T x)=some (c,d,u))(hc:c):OpOK P C s u U ver M β ((execOp ρ ⟨dst,(.box T x),type,pos,after,guard⟩).run P w) d:=by
 unfold execOp;simp only[opF]at h;split at h
 .rename_i ty cs hT hcs;split at h
  .rename_i hby;obtain⟨rfl,rfl,rfl⟩:=h;have⟨z1,z2⟩:=KC hcs (hρ x);exact VOK.op (XjI I hv hT z1 z2 hc hby (Kv dst))
  cases h
 simp_all
def XjN(I:UO P C s U M β w)(_hv:¬U ver){dst:Option Tmp}{type:TypeId}{pos:String}{after:Array Edge}{guard:Option (Nat×Bool)}(ρ:Operand->Value)(t:Operand->D)(hρ:∀x,Rep P M β (t x) (ρ x)){c:Prop}{d:D}{u:Up}(T:TypeId)(parts:Array (Nat×Operand))(h:opF P dst ver t s (.build T parts)=some (c,d,u))(hc:c):OpOK P C s u U ver M β ((execOp ρ ⟨dst,(.build T parts),type,pos,after,guard⟩).run P w) d:=by
 unfold execOp;simp only[opF]at h;split at h
 .rename_i ty hT;have⟨p1,p2⟩:=Xdm hρ parts.toList;split at h
  .rename_i cs fs hzc hk;simp only[Ue,Wx]at h;obtain⟨r,hr,rfl,rfl,rfl⟩:=h;have⟨z1,z2⟩:=Y3 (P:=P) (M:=M) (β:=β) hzc;have⟨sz0,by0,z0,k0⟩:=ty;subst hk;obtain⟨fields,hu,rfl,hall⟩:=Z2 hT;have⟨vs,k1,k2⟩:=XbV _ (λi=>(fields.map λf=>(f.offset,P.cellsOf f.type))[i]?) (λi x hx=>by
    simp only[Ue,List.getElem?_map,UN]at hx
    obtain⟨y,⟨fd,h1,rfl⟩,rfl⟩:=hx
    simp[h1]) _ (parts.map λx=>(x.1,ρ x.2)).toList cs z0.cells r hr z1 ab (by simpa using p2)
   refine .val I (v:=.agg vs) ?_ ?_
   .simp only[Instr.build,Sem.run_bind,Ke hT,Result.andThen_ok,run_underlying hu,Xgt fields hall,k1,Sem.run_pure]
   exact⟨vs.toList,ab,k2⟩
  .rename_i cs n e sz hzc hk;split at h
   .rename_i te hE;simp only[Ue,Wx]at h;obtain⟨r,hr,rfl,rfl,rfl⟩:=h;have⟨z1,z2⟩:=Y3 (P:=P) (M:=M) (β:=β) hzc;have⟨sz0,by0,z0,k0⟩:=ty;subst hk;have⟨hu,hsz⟩:=KB hT;have hsize:∀w:World,(sizeOf e).run P w=.ok sz w:=λw=>by rw[YH hE,hsz,XbR hE]
    have⟨vs,k1,k2⟩:=XbV _ (λi=>some (i*sz,sz)) (λi x hx=>hx) _ (parts.map λx=>(x.1,ρ x.2)).toList cs z0.cells r hr z1 ab (by simpa using p2);refine .val I (v:=.agg vs) ?_ ?_
    .simp only[Instr.build,Sem.run_bind,Ke hT,Result.andThen_ok,run_underlying hu,hsize,k1,Sem.run_pure]
    exact⟨vs.toList,ab,k2⟩
   cases h
  cases h
 simp_all
def Xdc(I:UO P C s U M β w)(hv:¬U ver){dst:Option Tmp}{type:TypeId}{pos:String}{after:Array Edge}{guard:Option (Nat×Bool)}(ρ:Operand->Value)(t:Operand->D)(hρ:∀x,Rep P M β (t x) (ρ x)){c:Prop}{d:D}{u:Up}(T:TypeId)(n:Nat)(parts:Array (Nat×Operand))(h:opF P dst ver t s (.buildSlice T n parts)=some (c,d,u))(hc:c):OpOK P C s u U ver M β ((execOp ρ ⟨dst,(.buildSlice T n parts),type,pos,after,guard⟩).run P w) d:=by
 unfold execOp;simp only[opF]at h;split at h
 .rename_i a b zz E z hT;split at h
  .rename_i te hE;split at h
   .rename_i zc hzc;split at h
    .rename_i hcond;have⟨h1,h2,h3,h4,h5⟩:=hcond;split at h
     .rename_i cc ps l hps;simp only[Ue,Wx]at h;obtain⟨es,hes,rfl,rfl,rfl⟩:=h;have⟨p1,p2⟩:=Xdm hρ parts.toList;have⟨M',I',hM,hF⟩:=I.freeze l;have⟨q3,q4⟩:=Xdn I hM hps hc hF p2;have q1:ps.map (·.1)=(parts.map λx=>(x.1,ρ x.2)).toList.map (·.1):=by rw[q4,p1,Array.toList_map]
      have q2:RepL P M' Yt (ps.map (·.2)) ((parts.map λx=>(x.1,ρ x.2)).toList.map (·.2)):=by rw[Array.toList_map];exact q3
      have⟨M2,β2,w2,v2,g1,g2,g3,g4,g5⟩:=VOK.op (Xdb I' hv hT hE hzc h1 h2 h3 h4 h5 hes q1 q2 (Kv dst));refine⟨M2,β2,w2,v2,g1,?_,g3,hM.trans g4,g5⟩;rw[YU,J5];exact g2
     cases h
    cases h
   cases h
  cases h
 simp_all
def XmY(I:UO P C s U M β w)(_hv:¬U ver){dst:Option Tmp}{type:TypeId}{pos:String}{after:Array Edge}{guard:Option (Nat×Bool)}(ρ:Operand->Value)(t:Operand->D)(hρ:∀x,Rep P M β (t x) (ρ x)){c:Prop}{d:D}{u:Up}(T:TypeId)(a:Operand)(h:opF P dst ver t s (.load T a)=some (c,d,u))(hc:c):OpOK P C s u U ver M β ((execOp ρ ⟨dst,(.load T a),type,pos,after,guard⟩).run P w) d:=by
 unfold execOp;simp only[opF]at h;split at h
 .rename_i ty c' cs o z hT hl;split at h
  .rename_i hcond;obtain⟨rfl,rfl,rfl⟩:=h;exact VOK.op (XmS I hT hl hc hcond.1 hcond.2 (hρ a))
  cases h
 simp_all
def XjO(I:UO P C s U M β w)(_hv:¬U ver){dst:Option Tmp}{type:TypeId}{pos:String}{after:Array Edge}{guard:Option (Nat×Bool)}(ρ:Operand->Value)(t:Operand->D)(hρ:∀x,Rep P M β (t x) (ρ x)){c:Prop}{d:D}{u:Up}(T:TypeId)(a:Operand)(x:Operand)(h:opF P dst ver t s (.store T a x)=some (c,d,u))(hc:c):OpOK P C s u U ver M β ((execOp ρ ⟨dst,(.store T a x),type,pos,after,guard⟩).run P w) d:=by
 unfold execOp;simp only[opF]at h;split at h
 .rename_i ty id v z i cc hT ha;have hp:=hρ a;rw[ha]at hp;split at h
  .rename_i v' E z' es fz hs;split at h
   .rename_i ds hx;split at h
    .rename_i hcond;have⟨rfl,rfl,hfit⟩:=hcond;obtain⟨rfl,rfl,rfl⟩:=h;exact Xe7 I hT hs hp hx (hρ x) hc.1 hc.2.1 hc.2.2 hfit
    cases h
   cases h
  .rename_i v' E z' es fz hs;split at h
   .rename_i c1 dd l hsn;split at h
    .rename_i ds hx;split at h
     .rename_i hcond;have⟨rfl,rfl,hfit,hnl⟩:=hcond;obtain⟨rfl,rfl,rfl⟩:=h;have⟨hc1,hc2,hc3,hc4⟩:=hc;have⟨M',I',hM,hF⟩:=I.freeze l;have hr':=snap_rep I hM hsn hc1 hF (hρ x);have hs':frz s l id=some (v,.arr false E z es fz):=by unfold frz;rw[Wn hnl];exact hs
      have⟨M2,β2,w2,v2,g1,g2,g3,g4,g5⟩:=Xe7 (ver:=ver) I' hT hs' (hp.mono hM (BLe.refl _)) hx hr' hc2 hc3 hc4 hfit;refine⟨M2,β2,w2,v2,g1,?_,g3,hM.trans g4,g5⟩;rw[YU,J5];exact g2
     cases h
    cases h
   cases h
  cases h
 simp_all
def Xfb(I:UO P C s U M β w)(_hv:¬U ver){dst:Option Tmp}{type:TypeId}{pos:String}{after:Array Edge}{guard:Option (Nat×Bool)}(ρ:Operand->Value)(t:Operand->D)(hρ:∀x,Rep P M β (t x) (ρ x)){c:Prop}{d:D}{u:Up}(x:Operand)(h:opF P dst ver t s (.nilCheck x)=some (c,d,u))(hc:c):OpOK P C s u U ver M β ((execOp ρ ⟨dst,(.nilCheck x),type,pos,after,guard⟩).run P w) d:=by
 unfold execOp;simp only;simp only[opF]at h;split at h
 .rename_i id v z i cc hx;obtain⟨rfl,rfl,rfl⟩:=h;have hr:=hρ x;rw[hx]at hr;have hr':=hr;have⟨b,cb,_,he⟩:=hr';refine .val I (v:=ρ x) ?_ hr;rw[he];rfl
 .rename_i z cs cc hx;obtain⟨rfl,rfl,rfl⟩:=h;have hr:=hρ x;rw[hx]at hr;have hr':=hr;have⟨_,b,o,he,_⟩:=hr';refine .val I (v:=ρ x) ?_ hr;rw[he];rfl
 simp_all
def XiB(I:UO P C s U M β w){op:BinOp}{T:TypeId}{x:D}{ρ:Operand->Value}{oy:Operand}{c:Prop}{d:D}(h:Xd7 P op T x=some (c,d))(hc:c){vx:Value}(rx:Rep P M β x vx){ox:Operand}(hn:XbN oy=true)(hy:∀v,oy=.const v->ρ oy=v):VOK P C s [] U ver M β ((do eqGuard op T ox oy vx (ρ oy);binOp op T vx (ρ oy):Sem Value).run P w) d:=by
 have hoy:∃l c,ρ oy=.slice none l c:=by
  cases oy with
  |const v=>
   simp only[XbN]at hn;unfold Xgp at hn;split at hn
   .cases hn
   .cases hn
   .rename_i l c;exact⟨l,c,hy _ rfl⟩
   cases hn
  |_=>simp[XbN]at hn
 have⟨ly,cy,hoy⟩:=hoy;rw[hoy];have key:∀(a:Option Addr)(l cp:Nat){x1 x2:Nat}{x3:Value}{E z:Nat},Xo P T=some ⟨x1,x2,x3,.slice E z⟩->(Op.equal T (.slice a l cp) (.slice none ly cy)).run P w=.ok a.isNone w:=by intro a l cp x1 x2 x3 E z hT;unfold Op.equal Op.maxDepth Op.equalIn;cases a<;>simp[run_underlying (X3 hT).1]
 have hg:∀(op:BinOp)(a:Option Addr)(l cp:Nat),(eqGuard op T ox oy (.slice a l cp) (.slice none ly cy)).run P w=.ok () w:=by intro op a l cp;unfold eqGuard;cases op<;>simp
 unfold Xd7 at h;split at h
 .obtain⟨_,_,_,a,cap,rfl,_,hr⟩:=rx;split at h
  .rename_i hT;obtain⟨rfl,rfl⟩:=h;obtain⟨b,o,rfl,_⟩:=hr.resolve_left hc;refine .same I (v:=.bool false) ?_ (Zc _);simp[hg,binOp,key _ _ _ hT]
  .rename_i hT;obtain⟨rfl,rfl⟩:=h;obtain⟨b,o,rfl,_⟩:=hr.resolve_left hc;refine .same I (v:=.bool true) ?_ (Zc _);simp[hg,binOp,key _ _ _ hT]
  cases h
 .rename_i a l cp;obtain⟨rfl,_⟩:=rx;split at h
  .rename_i hT;obtain⟨rfl,rfl⟩:=h;refine .same I (v:=.bool a.isNone) ?_ (Zc _);simp[hg,binOp,key _ _ _ hT]
  .rename_i hT;simp only[Wr,Wx]at h;obtain⟨rfl,rfl⟩:=h;refine .same I (v:=.bool (!a.isNone)) ?_ (Zc _);simp[hg,binOp,key _ _ _ hT]
  cases h
 simp_all
def XjP(I:UO P C s U M β w)(_hv:¬U ver){dst:Option Tmp}{type:TypeId}{pos:String}{after:Array Edge}{guard:Option (Nat×Bool)}(ρ:Operand->Value)(t:Operand->D)(hρ:∀x,Rep P M β (t x) (ρ x)){c:Prop}{d:D}{u:Up}(op:BinOp)(T:TypeId)(x:Operand)(y:Operand)(yt:TypeId)(hy:∀v,y=.const v->ρ y=v)(h:opF P dst ver t s (.binOp op T x y yt)=some (c,d,u))(hc:c):OpOK P C s u U ver M β ((execOp ρ ⟨dst,(.binOp op T x y yt),type,pos,after,guard⟩).run P w) d:=by
 unfold execOp;simp only[opF,Ue,Wx]at h;obtain⟨⟨c',d'⟩,hb,rfl,rfl,rfl⟩:=h;split at hb
 .rename_i hn;exact VOK.op (XiB I hb hc (hρ x) hn hy)
 exact VOK.op (XmR I hb hc (hρ x) (hρ y) x y)
def XmZ(I:UO P C s U M β w)(_hv:¬U ver){dst:Option Tmp}{type:TypeId}{pos:String}{after:Array Edge}{guard:Option (Nat×Bool)}(ρ:Operand->Value)(t:Operand->D)(hρ:∀x,Rep P M β (t x) (ρ x)){c:Prop}{d:D}{u:Up}(op:UnOp)(T:TypeId)(x:Operand)(h:opF P dst ver t s (.unOp op T x)=some (c,d,u))(hc:c):OpOK P C s u U ver M β ((execOp ρ ⟨dst,(.unOp op T x),type,pos,after,guard⟩).run P w) d:=by
 unfold execOp;simp only;simp only[opF]at h;have hr:=hρ x;split at h
 .rename_i b hx;obtain⟨rfl,rfl,rfl⟩:=h;rw[hx]at hr;refine .val I (v:=.bool (!b)) ?_ (Zc _);rw[hr.1];simp[Op.unary]
 .rename_i k n hx;obtain⟨rfl,rfl,rfl⟩:=h;rw[hx]at hr;refine .val I (v:=.int k (k.wrap (0-n))) ?_ (Zi _ _ (ZP _ _));rw[hr.1];simp[Op.unary,Op.intArith]
 simp_all
def Xgu(I:UO P C s U M β w)(_hv:¬U ver){dst:Option Tmp}{type:TypeId}{pos:String}{after:Array Edge}{guard:Option (Nat×Bool)}(ρ:Operand->Value)(t:Operand->D)(hρ:∀x,Rep P M β (t x) (ρ x)){c:Prop}{d:D}{u:Up}(S:TypeId)(T:TypeId)(x:Operand)(h:opF P dst ver t s (.convert S T x)=some (c,d,u))(hc:c):OpOK P C s u U ver M β ((execOp ρ ⟨dst,(.convert S T x),type,pos,after,guard⟩).run P w) d:=by
 unfold execOp;simp only;simp only[opF]at h;split at h
 .rename_i tS a b zz k k' n hS hT hx;obtain⟨rfl,rfl,rfl⟩:=h;have hr:=hρ x;rw[hx]at hr;have⟨i,dd,_,hu,_⟩:=Yc hS;refine .val I (v:=.int k (k.wrap n)) ?_ (Zi _ _ (ZP _ _));rw[hr.1];simp[convert,run_underlying hu,run_underlying (Xbs hT),Conv.intToInt]
 simp_all
def Xfc(I:UO P C s U M β w)(_hv:¬U ver){dst:Option Tmp}{type:TypeId}{pos:String}{after:Array Edge}{guard:Option (Nat×Bool)}(ρ:Operand->Value)(t:Operand->D)(hρ:∀x,Rep P M β (t x) (ρ x)){c:Prop}{d:D}{u:Up}(fn:Fn)(first:Array Operand)(captured:Array Operand)(h:opF P dst ver t s (.makeFunc fn first captured)=some (c,d,u))(hc:c):OpOK P C s u U ver M β ((execOp ρ ⟨dst,(.makeFunc fn first captured),type,pos,after,guard⟩).run P w) d:=by
 unfold execOp;obtain⟨rfl,rfl,rfl⟩:=h;refine .val I (v:=.func fn (first.map ρ) (captured.map ρ)) (by simp[Instr.makeFunc]) ?_;refine⟨first.toList.map ρ,captured.toList.map ρ,?_,Xec hρ _,Xec hρ _⟩;have e:∀l:Array Operand,l.map ρ=⟨l.toList.map ρ⟩:=λl=>by apply Array.ext';simp
 simp_all
def Xef(I:UO P C s U M β w)(hv:¬U ver){dst:Option Tmp}{type:TypeId}{pos:String}{after:Array Edge}{guard:Option (Nat×Bool)}(ρ:Operand->Value)(t:Operand->D)(hρ:∀x,Rep P M β (t x) (ρ x)){c:Prop}{d:D}{u:Up}(T:TypeId)(l:Operand)(cc:Operand)(h:opF P dst ver t s (.makeSlice T l cc)=some (c,d,u))(hc:c):OpOK P C s u U ver M β ((execOp ρ ⟨dst,(.makeSlice T l cc),type,pos,after,guard⟩).run P w) d:=by
 unfold execOp;simp only;simp only[opF]at h;split at h
 .rename_i a b zz E z n m hT hl hm;split at h
  .rename_i te hE;split at h
   .rename_i zc hzc;split at h
    .rename_i hcond;obtain⟨rfl,rfl,rfl⟩:=h;have⟨h0,rfl,h1,h2⟩:=hc;have⟨k,hk,_⟩:=JA hl (hρ l);have⟨k',hk',_⟩:=JA hm (hρ cc);rw[hk,hk'];exact VOK.op (XmV I hv hT hE hzc hcond.1 hcond.2 h0 h1 h2 (Kv dst))
    cases h
   cases h
  cases h
 simp_all
def XjQ(I:UO P C s U M β w)(_hv:¬U ver){dst:Option Tmp}{type:TypeId}{pos:String}{after:Array Edge}{guard:Option (Nat×Bool)}(ρ:Operand->Value)(t:Operand->D)(hρ:∀x,Rep P M β (t x) (ρ x)){c:Prop}{d:D}{u:Up}(T:TypeId)(x:Operand)(lo:Option Operand)(hi:Option Operand)(mx:Option Operand)(h:opF P dst ver t s (.slice T x lo hi mx)=some (c,d,u))(hc:c):OpOK P C s u U ver M β ((execOp ρ ⟨dst,(.slice T x lo hi mx),type,pos,after,guard⟩).run P w) d:=by
 unfold execOp;simp only[opF]at h;split at h
 .rename_i a b zz E sz l hh m hT hl hhh hm;split at h
  .rename_i te hE;simp only[Ue,Wx]at h;obtain⟨⟨c',d'⟩,hs,rfl,rfl,rfl⟩:=h;have⟨k1,e1⟩:=JB hρ hl;have⟨k2,e2⟩:=JB hρ hhh;have⟨k3,e3⟩:=JB hρ hm;simp only[e1,e2,e3];exact VOK.op (Xiw I hT hE hs hc (hρ x))
  cases h
 .rename_i a b zz n E sz' hT hl hhh hm;split at h
  .rename_i te z cs hE hx;split at h
   .rename_i hcond;have⟨h1,rfl,h0,h2,h3⟩:=hcond;obtain⟨rfl,rfl,rfl⟩:=h;have⟨k1,e1⟩:=JB hρ hl;have⟨k2,e2⟩:=JB hρ hhh;have⟨k3,e3⟩:=JB hρ hm;simp only[e1,e2,e3];have hr:=hρ x;rw[hx]at hr;exact VOK.op (Xix I hT hE h1 h0 h2 h3 hr)
   cases h
  cases h
 simp_all
def Xeg(I:UO P C s U M β w)(_hv:¬U ver){dst:Option Tmp}{type:TypeId}{pos:String}{after:Array Edge}{guard:Option (Nat×Bool)}(ρ:Operand->Value)(t:Operand->D)(hρ:∀x,Rep P M β (t x) (ρ x)){c:Prop}{d:D}{u:Up}(T:TypeId)(x:Operand)(f:Nat)(h:opF P dst ver t s (.fieldAddr T x f)=some (c,d,u))(hc:c):OpOK P C s u U ver M β ((execOp ρ ⟨dst,(.fieldAddr T x f),type,pos,after,guard⟩).run P w) d:=by
 unfold execOp;simp only;simp only[opF]at h;have hr:=hρ x;split at h
 .rename_i a b zz fs id v z i cc hT hx;split at h
  .rename_i off sz ft hf;split at h
   .cases h
   rename_i hne;obtain⟨rfl,rfl,rfl⟩:=h;rw[hx]at hr;have⟨bb,cb,hb,he⟩:=hr;obtain⟨fields,hu,rfl,_⟩:=Z2 hT;have⟨fd,g1,g2,g3,g4⟩:=VT hf;have hp:=VL (P:=P) (w:=w) (fd:=fd) (by rw[g3];exact hne) bb (i*z+cc);refine .val I (v:=.pointer (some ⟨bb,i*z+cc+off,none⟩)) ?_ ?_
   .rw[he];simp[Instr.fieldAt,run_underlying hu,g1,Instr.sureAddr,hp,g2]
   exact⟨bb,cb,hb,by rw[Nat.add_assoc]⟩
  cases h
 .rename_i a b zz fs z cs cc hT hx;split at h
  .rename_i off sz ft hf;split at h
   .cases h
   rename_i hne;obtain⟨rfl,rfl,rfl⟩:=h;rw[hx]at hr;obtain⟨hz,bb,o,he,hrc⟩:=hr;obtain⟨fields,hu,rfl,_⟩:=Z2 hT;obtain⟨fd,g1,g2,g3,g4⟩:=VT hf;have hp:=VL (P:=P) (w:=w) (fd:=fd) (by rw[g3];exact hne) bb (o+cc);refine .val I (v:=.pointer (some ⟨bb,o+cc+off,none⟩)) ?_ ?_
   .rw[he];simp[Instr.fieldAt,run_underlying hu,g1,Instr.sureAddr,hp,g2]
   simp only[Rep];exact⟨hz,bb,o,by rw[Nat.add_assoc],hrc⟩
  cases h
 simp_all
def XjR(I:UO P C s U M β w)(_hv:¬U ver){dst:Option Tmp}{type:TypeId}{pos:String}{after:Array Edge}{guard:Option (Nat×Bool)}(ρ:Operand->Value)(t:Operand->D)(hρ:∀x,Rep P M β (t x) (ρ x)){c:Prop}{d:D}{u:Up}(T:TypeId)(x:Operand)(f:Nat)(h:opF P dst ver t s (.field T x f)=some (c,d,u))(hc:c):OpOK P C s u U ver M β ((execOp ρ ⟨dst,(.field T x f),type,pos,after,guard⟩).run P w) d:=by
 unfold execOp;simp only;simp only[opF]at h;have hr:=hρ x;split at h
 .rename_i a b zz fs cs hT hx;split at h
  .rename_i off sz ft hf;split at h
   .rename_i ty hty;split at h
    .rename_i hsz;obtain⟨rfl,rfl,rfl⟩:=h;have⟨hfit,hag⟩:=hc;rw[hx]at hr;have⟨vs,he,hrl⟩:=hr;obtain⟨fields,hu,rfl,_⟩:=Z2 hT;have⟨fd,g1,g2,g3,g4⟩:=VT hf;subst g4;rw[he];cases hagg:ty.isAgg with
     |true=>
      refine .val I (v:=.agg ((vs.toArray).extract off (off+sz))) ?_ ?_
      .simp[Instr.field,run_underlying hu,g1,part,asAgg,KA hty,hagg,YH hty,hsz,g2]
      refine⟨(vs.drop off).take sz,?_,(hrl.drop off).take sz⟩;congr 1;simp[List.extract_eq_take_drop]
     |false=>
      have h1:sz=1:=by rcases hag with h|h;(rw[hagg]at h;cases h);exact h
      subst h1;have⟨x0,hx0,hr0⟩:=hrl.get off (cs[off]'aa) ab;refine .val I (v:=x0) ?_ ?_
      .simp[Instr.field,run_underlying hu,g1,part,asAgg,KA hty,hagg,g2,hx0]
      simp only[KO,U4,if_false];have:((cs.drop off).take 1).headD .any=cs[off]'aa:=by rw[List.take_one];simp[List.head?_drop,show off<cs.length by omega]
      rw[this];exact hr0
    cases h
   cases h
  cases h
 simp_all
def Xeh(I:UO P C s U M β w)(_hv:¬U ver){dst:Option Tmp}{type:TypeId}{pos:String}{after:Array Edge}{guard:Option (Nat×Bool)}(ρ:Operand->Value)(t:Operand->D)(hρ:∀x,Rep P M β (t x) (ρ x)){c:Prop}{d:D}{u:Up}(T:TypeId)(x:Operand)(ix:Operand)(h:opF P dst ver t s (.indexAddr T x ix)=some (c,d,u))(hc:c):OpOK P C s u U ver M β ((execOp ρ ⟨dst,(.indexAddr T x ix),type,pos,after,guard⟩).run P w) d:=by
 unfold execOp;simp only;simp only[opF]at h;have hr:=hρ x;split at h
 .rename_i a b zz E sz E' z es i hT hx hi;split at h
  .rename_i hsz;have⟨rfl,hne⟩:=hsz;obtain⟨rfl,rfl,rfl⟩:=h;have⟨k,hk,_⟩:=JA hi (hρ ix);have⟨hu,hcz⟩:=X3 hT;rw[hx]at hr;have⟨q1,q2,q3,base,cap,he,hcap,hr⟩:=hr;have hlt:i.toNat<es.length:=aa;rcases hr with rfl|⟨bb,o,rfl,hr⟩
   .simp at hlt
   have hsize:∀{n:Nat},sz=n->n≠0->(sizeOf E).run P w=.ok n w:=λ{n} h1 h2=>KP (hcz.symm.trans h1) h2 w;have hrc:=hr.get q1 i.toNat es[i.toNat] (by simp[hlt]);have hgd:es.getD i.toNat []=es[i.toNat]:=by rw[Wo,Wb hlt];rfl
   rcases W9 sz with hz0|hz0
   .exact absurd hz0 hne
   refine .val I (v:=.pointer (some ⟨bb,o+i.toNat*sz,none⟩)) ?_ ?_
   .rw[he,hk];simp[Instr.indexAt,run_underlying hu,asIntOf,hc.1,hc.2,hsize rfl aa,UQ]
   rw[hgd];exact⟨q1 _ (WN _),bb,o+i.toNat*sz,ab,hrc⟩
  cases h
 .rename_i a b zz E sz id v z off len i hT hx hi;split at h
  .rename_i hsz;have⟨rfl,hne⟩:=hsz;obtain⟨rfl,rfl,rfl⟩:=h;obtain⟨k,hk,_⟩:=JA hi (hρ ix);obtain⟨hu,hcz⟩:=X3 hT;rw[hx]at hr;simp only[Rep]at hr;rcases hr with⟨_,_,rfl,_,_⟩|⟨bb,cb,o,cap,hb1,he,hcap,hcb,ho⟩
   .omega
   have ho':o=off*sz:=by rcases ho with h|h;exact h;omega
   subst ho';refine .val I (v:=.pointer (some ⟨bb,off*sz+i.toNat*sz,none⟩)) ?_ ?_
   .rw[he,hk];have hsize:=KP hcz.symm hne w;simp[Instr.indexAt,run_underlying hu,asIntOf,hc.1,hc.2,hsize,UQ]
   simp only[Rep];exact⟨bb,cb,hb1,by rw[Us];simp⟩
  cases h
 .rename_i a b zz n E sz z cs cc i hT hx hi;split at h
  .cases h
  rename_i hne;simp only[Wr,Wx]at h;obtain⟨rfl,rfl,rfl⟩:=h;obtain⟨k,hk,_⟩:=JA hi (hρ ix);obtain⟨hu,hcz⟩:=KB hT;have hsize:=KP hcz.symm hne w;rw[hx]at hr;simp only[Rep]at hr;obtain⟨hz,bb,o,he,hrc⟩:=hr;refine .val I (v:=.pointer (some ⟨bb,o+cc+i.toNat*sz,none⟩)) ?_ ?_
  .rw[he,hk];simp[Instr.indexAt,run_underlying hu,asIntOf,Instr.sureAddr,hc.1,hc.2,hsize,UQ]
  simp only[Rep];exact⟨hz,bb,o,by rw[Nat.add_assoc],hrc⟩
 .rename_i a b zz n E sz id v z j cc i hT hx hi;split at h
  .cases h
  rename_i hne;simp only[Wr,Wx]at h;obtain⟨rfl,rfl,rfl⟩:=h;obtain⟨k,hk,_⟩:=JA hi (hρ ix);obtain⟨hu,hcz⟩:=KB hT;have hsize:=KP hcz.symm hne w;rw[hx]at hr;simp only[Rep]at hr;obtain⟨bb,cb,hb1,he⟩:=hr;refine .val I (v:=.pointer (some ⟨bb,j*z+cc+i.toNat*sz,none⟩)) ?_ ?_
  .rw[he,hk];simp[Instr.indexAt,run_underlying hu,asIntOf,Instr.sureAddr,hc.1,hc.2,hsize,UQ]
  simp only[Rep];exact⟨bb,cb,hb1,by rw[Nat.add_assoc]⟩
 simp_all
def XjS(I:UO P C s U M β w)(_hv:¬U ver){dst:Option Tmp}{type:TypeId}{pos:String}{after:Array Edge}{guard:Option (Nat×Bool)}(ρ:Operand->Value)(t:Operand->D)(hρ:∀x,Rep P M β (t x) (ρ x)){c:Prop}{d:D}{u:Up}(T:TypeId)(x:Operand)(ix:Operand)(h:opF P dst ver t s (.index T x ix)=some (c,d,u))(hc:c):OpOK P C s u U ver M β ((execOp ρ ⟨dst,(.index T x ix),type,pos,after,guard⟩).run P w) d:=by
 unfold execOp;simp only;simp only[opF]at h;have hr:=hρ x;split at h
 .rename_i a b zz n e sz cs i hT hx hi;split at h
  .rename_i ty hty;split at h
   .rename_i hsz;obtain⟨rfl,rfl,rfl⟩:=h;have⟨h0,hn,hfit,hag⟩:=hc;have⟨k,hk,_⟩:=JA hi (hρ ix);have⟨hu,hcz⟩:=KB hT;rw[hx]at hr;have⟨vs,he,hrl⟩:=hr;rw[he,hk];cases hagg:ty.isAgg with
    |true=>
     refine .val I (v:=.agg ((vs.toArray).extract (i.toNat*sz) (i.toNat*sz+sz))) ?_ ?_
     .simp[Instr.index,run_underlying hu,asIntOf,h0,hn,part,asAgg,KA hty,hagg,YH hty,hsz]
     refine⟨(vs.drop (i.toNat*sz)).take sz,?_,(hrl.drop (i.toNat*sz)).take sz⟩;congr 1;simp[List.extract_eq_take_drop]
    |false=>
     have h1:sz=1:=by rcases hag with h|h;(rw[hagg]at h;cases h);exact h
     subst h1;have⟨x0,hx0,hr0⟩:=hrl.get (i.toNat*1) (cs[i.toNat*1]'aa) ab;refine .val I (v:=x0) ?_ ?_
     .simp[Instr.index,run_underlying hu,asIntOf,h0,hn,part,asAgg,KA hty,hagg,YH hty,hsz];have:vs[i.toNat]? = some x0:=by rw[←hx0,Nat.mul_one]
      simp[this]
     simp only[KO,U4,if_false];have:((cs.drop (i.toNat*1)).take 1).headD .any=cs[i.toNat*1]'aa:=by rw[List.take_one];have hl:i.toNat<cs.length:=aa;simp[List.head?_drop,hl]
     rw[this];exact hr0
   cases h
  cases h
 simp_all
def Xgv(I:UO P C s U M β w)(_hv:¬U ver){dst:Option Tmp}{type:TypeId}{pos:String}{after:Array Edge}{guard:Option (Nat×Bool)}(ρ:Operand->Value)(t:Operand->D)(hρ:∀x,Rep P M β (t x) (ρ x)){c:Prop}{d:D}{u:Up}(x:Operand)(i:Nat)(h:opF P dst ver t s (.extract x i)=some (c,d,u))(hc:c):OpOK P C s u U ver M β ((execOp ρ ⟨dst,(.extract x i),type,pos,after,guard⟩).run P w) d:=by
 unfold execOp;simp only;simp only[opF]at h;have hr:=hρ x;split at h
 .rename_i ds hx;split at h
  .rename_i hi;obtain⟨rfl,rfl,rfl⟩:=h;rw[hx]at hr;have⟨vs,he,hrl⟩:=hr;have⟨v,hv1,hv2⟩:=hrl.get i ds[i] (by simp[hi]);refine .val I (v:=v) ?_ ?_
   .rw[he];simp[Instr.extract,hv1]
   rw[Wo,Wb hi];exact hv2
  cases h
 simp_all
def Xab{t:Operand->D}{ρ:Operand->Value}(hρ:∀x,Rep P M β (t x) (ρ x)){args:Array Operand}{d:D}(h:args.toList.map t=[d]):∃v,args.map ρ=#[v]/\Rep P M β d v:=by
 have⟨l⟩:=args;match l,h with
 |[x],h=>grind
def J6{t:Operand->D}{ρ:Operand->Value}(hρ:∀x,Rep P M β (t x) (ρ x)){args:Array Operand}{d e:D}(h:args.toList.map t=[d,e]):∃v u,args.map ρ=#[v,u]/\Rep P M β d v/\Rep P M β e u:=by
 have⟨l⟩:=args;match l,h with
 |[x,y],h=>grind
def XaF{types:Array TypeId}{T:TypeId}(h:types.toList=[T]):types=#[T]:=by grind
def XiC{types:Array TypeId}{T T2:TypeId}(h:types.toList=[T,T2]):types=#[T,T2]:=by grind
def Vt{n:Nat}(h:n<=Xp):wfV (.int .i64 n):=by simp only[wfV,IntKind.min,IntKind.max,IntKind.signed,IntKind.bits,if_true];grind[Xp]
def Xpi(I:UO P C s U M β w){dst:Option Tmp}{type:TypeId}{pos:String}{after:Array Edge}{guard:Option (Nat×Bool)}(ρ:Operand->Value)(t:Operand->D)(hρ:∀x,Rep P M β (t x) (ρ x)){c:Prop}{d:D}{u:Up}(args:Array Operand)(types:Array TypeId)(h:opF P dst ver t s (.call ⟨.builtin .len,args,types⟩)=some (c,d,u))(hc:c):OpOK P C s u U ver M β ((execOp ρ ⟨dst,.call ⟨.builtin .len,args,types⟩,type,pos,after,guard⟩).run P w) d:=by
 simp only[opF]at h;split at h
 .rename_i d0 T ha ht;have⟨v,hv,hr⟩:=Xab hρ ha;have hty:=XaF ht;subst hty;have start:∀r:Int,(Builtin.len_ #[T] type #[v]).run P w=.ok (.int .i64 r) w->(execOp ρ ⟨dst,.call ⟨.builtin .len,args,#[T]⟩,type,pos,after,guard⟩).run P w=.ok (.value (.int .i64 r)) w:=by intro r hrun;simp[execOp,resolve,invoke,builtin,hv,hrun]
  split at h
  .rename_i a b zz E sz hT;obtain⟨rfl,rfl,rfl⟩:=h;obtain⟨a',rfl⟩:=hr;exact .val I (v:=.int .i64 0) (start 0 (by simp[Builtin.len_,run_underlying (X3 hT).1,goInt])) (Zi _ _ (Vt (n:=0) ae))
  .rename_i a b zz E sz E' z es hT;obtain⟨rfl,rfl,rfl⟩:=h;obtain⟨_,h2,_,a',cap,rfl,_⟩:=hr;exact .val I (v:=.int .i64 es.length) (start _ (by simp[Builtin.len_,run_underlying (X3 hT).1,goInt])) (Zi _ _ (Vt h2))
  .rename_i a b zz E sz id v' z off len hT;obtain⟨rfl,rfl,rfl⟩:=h;have hv2:∃a cap,v=.slice a len cap:=by
    simp only[Rep]at hr;rcases hr with⟨_,_,rfl,a,rfl⟩|⟨_,_,_,cap,_,rfl,_⟩
    .exact⟨_,_,rfl⟩
    exact⟨_,_,rfl⟩
   obtain⟨a',cap,rfl⟩:=hv2;exact .val I (v:=.int .i64 len) (start _ (by simp[Builtin.len_,run_underlying (X3 hT).1,goInt])) (Zi _ _ (Vt hc))
  .rename_i a b zz n E sz hT;split at h
   .rename_i hn;simp only[Wr,Wx]at h;obtain⟨rfl,rfl,rfl⟩:=h;exact .val I (v:=.int .i64 n) (start _ (by simp[Builtin.len_,run_underlying (KB hT).1,goInt])) (Zi _ _ (Vt hn))
   cases h
  .rename_i id v0 _;split at h
   .rename_i k E v' k2 es hT hs;split at h
    .rename_i hcond;obtain⟨rfl,rfl⟩:=hcond;simp only[Wr,Wx]at h;obtain⟨rfl,rfl,rfl⟩:=h;obtain⟨K,hT1,hT2⟩:=Z4 hT;simp only[Rep]at hr;obtain⟨b,cb,hb,rfl⟩:=hr;obtain⟨x0,hx0,hob⟩:=I.obs id v0 _ hs;rw[hb]at hx0;obtain rfl:some (b,cb)=x0:=by simpa using hx0
     obtain⟨rfl,h1,h2,ents,clock,h3,h4,h5,h6⟩:=hob;have hl:=h4.length;have hl':ents.size=es.length:=by simpa using hl
     exact .val I (v:=.int .i64 es.length) (start _ (by simp[Builtin.len_,run_underlying hT1,goInt,Go.MapKept.run_getObj_map h3,hl'])) (Zi _ _ (Vt h1))
    cases h
   cases h
  cases h
 simp_all
def XiD(I:UO P C s U M β w){dst:Option Tmp}{type:TypeId}{pos:String}{after:Array Edge}{guard:Option (Nat×Bool)}(ρ:Operand->Value)(t:Operand->D)(hρ:∀x,Rep P M β (t x) (ρ x)){c:Prop}{d:D}{u:Up}(args:Array Operand)(types:Array TypeId)(h:opF P dst ver t s (.call ⟨.builtin .delete,args,types⟩)=some (c,d,u))(_hc:c):OpOK P C s u U ver M β ((execOp ρ ⟨dst,.call ⟨.builtin .delete,args,types⟩,type,pos,after,guard⟩).run P w) d:=by
 simp only[opF]at h;split at h
 .rename_i id v k' n T ts ha ht;have⟨v1,v2,hvs,hr1,hr2⟩:=J6 hρ ha;have⟨tl⟩:=types;subst ht;split at h
  .rename_i k E v' k2 es hT hs;split at h
   .rename_i hcond;have⟨rfl,rfl,rfl⟩:=hcond;obtain⟨rfl,rfl,rfl⟩:=h;have⟨K,hT1,hT2⟩:=Z4 hT;obtain⟨b,cb,hb,rfl⟩:=hr1;obtain⟨rfl,_⟩:=hr2;have⟨x0,hx0,hob⟩:=I.obs id v _ hs;rw[hb]at hx0;obtain rfl:some (b,cb)=x0:=by simpa using hx0
    obtain⟨rfl,h1,h2,ents,clock,h3,h4,h5,h6⟩:=hob;have start:∀a,Instr.findNow (.int k) (.int k n) ents.toList 0=some a->(Builtin.delete_ ⟨T::ts⟩ type #[.map (some b),.int k n]).run P w =
     .ok (.tuple #[]) {w with heap:=w.heap.setIfInBounds b (.map (match a with|some (i,_)=>ents.eraseIdxIfInBounds i|none=>ents) clock)}:=by
     intro a ha
     unfold Builtin.delete_
     cases a with
     |none=>simp[run_underlying hT1,Go.MapKept.run_getObj_map h3,Go.MapKept.run_checkKey hT2 (Vs k n),Go.MapKept.run_findKey hT2 ha,Go.MapKept.run_setObj_map _ h3]
     |some y=>simp[run_underlying hT1,Go.MapKept.run_getObj_map h3,Go.MapKept.run_checkKey hT2 (Vs k n),Go.MapKept.run_findKey hT2 ha,Go.MapKept.run_setObj_map _ h3]
    have start2:∀a,Instr.findNow (.int k) (.int k n) ents.toList 0=some a->(execOp ρ ⟨dst,.call ⟨.builtin .delete,args,⟨T::ts⟩⟩,type,pos,after,guard⟩).run P w =
     .ok (.value (.tuple #[])) {w with heap:=w.heap.setIfInBounds b (.map (match a with|some (i,_)=>ents.eraseIdxIfInBounds i|none=>ents) clock)}:=by
     intro a ha
     simp[execOp,resolve,invoke,builtin,hvs,start a ha]
    rcases Xaa n ents.toList es 0 h4 with⟨g1,g2,g3,g4⟩|⟨j,e,d0,g1,g2,g3,g4,g5,g6,g7,g8,g9⟩
    .refine⟨M,β,_,.tuple #[],.inl (start2 _ g4),?_,by simp[Rep,RepL],MLe.refl _,BLe.refl _⟩;rw[g2];exact(I.setMap hs hb h3 h1 h4 h5 h6).mono λ_ h=>.inl h
    have hle:(ents.eraseIdxIfInBounds (0+j)).toList=ents.toList.eraseIdx j:=by
     have hj:j<ents.size:=by
      rcases Uq j ents.size with h'|h'
      .exact h'
      rw[WY (by exact h')]at g3;cases g3
     rw[Ux];simp[Array.eraseIdxIfInBounds,hj]
    refine⟨M,β,_,.tuple #[],.inl (start2 _ g2),?_,by simp[Rep,RepL],MLe.refl _,BLe.refl _⟩;refine(I.setMap hs hb h3 aa (by rw[hle];exact g7) ?_ ?_).mono λ_ h=>.inl h
    .rw[hle];exact h5.sublist ((List.eraseIdx_sublist _ _).map _)
    intro e' he';rw[hle]at he';exact h6 e' (List.mem_of_mem_eraseIdx he')
   cases h
  cases h
 simp_all
def Xpj(I:UO P C s U M β w){dst:Option Tmp}{type:TypeId}{pos:String}{after:Array Edge}{guard:Option (Nat×Bool)}(ρ:Operand->Value)(t:Operand->D)(hρ:∀x,Rep P M β (t x) (ρ x)){c:Prop}{d:D}{u:Up}(args:Array Operand)(types:Array TypeId)(h:opF P dst ver t s (.call ⟨.builtin .cap,args,types⟩)=some (c,d,u))(_hc:c):OpOK P C s u U ver M β ((execOp ρ ⟨dst,.call ⟨.builtin .cap,args,types⟩,type,pos,after,guard⟩).run P w) d:=by
 simp only[opF]at h;split at h
 .rename_i d0 T ha ht;have⟨v,hv,hr⟩:=Xab hρ ha;have hty:=XaF ht;subst hty;split at h
  .rename_i a b zz E sz hT;obtain⟨rfl,rfl,rfl⟩:=h;obtain⟨a',rfl⟩:=hr;exact .val I (v:=.int .i64 0) (by simp[execOp,resolve,invoke,builtin,hv,Builtin.cap_,run_underlying (X3 hT).1,goInt]) (Zi _ _ (Vt (n:=0) ae))
  cases h
 simp_all
def Xpk(I:UO P C s U M β w){dst:Option Tmp}{type:TypeId}{pos:String}{after:Array Edge}{guard:Option (Nat×Bool)}(ρ:Operand->Value)(t:Operand->D)(hρ:∀x,Rep P M β (t x) (ρ x)){c:Prop}{d:D}{u:Up}(args:Array Operand)(types:Array TypeId)(h:opF P dst ver t s (.call ⟨.builtin .min,args,types⟩)=some (c,d,u))(_hc:c):OpOK P C s u U ver M β ((execOp ρ ⟨dst,.call ⟨.builtin .min,args,types⟩,type,pos,after,guard⟩).run P w) d:=by
 simp only[opF]at h;split at h
 .rename_i j a k b ha;split at h
  .rename_i hk;subst hk;have⟨v1,v2,hv,hr1,hr2⟩:=J6 hρ ha;obtain⟨rfl,rfl,rfl⟩:=h;obtain⟨rfl,w1⟩:=hr1;obtain⟨rfl,w2⟩:=hr2;refine .val I (v:=.int j (if b<a then b else a)) (by simp[execOp,resolve,invoke,builtin,hv,Builtin.min_,Builtin.min2]) (Zi _ _ ?_);split<;>assumption
  cases h
 simp_all
def Xpl(I:UO P C s U M β w){dst:Option Tmp}{type:TypeId}{pos:String}{after:Array Edge}{guard:Option (Nat×Bool)}(ρ:Operand->Value)(t:Operand->D)(hρ:∀x,Rep P M β (t x) (ρ x)){c:Prop}{d:D}{u:Up}(args:Array Operand)(types:Array TypeId)(h:opF P dst ver t s (.call ⟨.builtin .max,args,types⟩)=some (c,d,u))(_hc:c):OpOK P C s u U ver M β ((execOp ρ ⟨dst,.call ⟨.builtin .max,args,types⟩,type,pos,after,guard⟩).run P w) d:=by
 simp only[opF]at h;split at h
 .rename_i j a k b ha;split at h
  .rename_i hk;subst hk;have⟨v1,v2,hv,hr1,hr2⟩:=J6 hρ ha;obtain⟨rfl,rfl,rfl⟩:=h;obtain⟨rfl,w1⟩:=hr1;obtain⟨rfl,w2⟩:=hr2;refine .val I (v:=.int j (if a<b then b else a)) (by simp[execOp,resolve,invoke,builtin,hv,Builtin.max_,Builtin.max2]) (Zi _ _ ?_);split<;>assumption
  cases h
 simp_all
def XiE(I:UO P C s U M β w)(hv:¬U ver){dst:Option Tmp}{type:TypeId}{pos:String}{after:Array Edge}{guard:Option (Nat×Bool)}(ρ:Operand->Value)(t:Operand->D)(hρ:∀x,Rep P M β (t x) (ρ x)){c:Prop}{d:D}{u:Up}(args:Array Operand)(types:Array TypeId)(h:opF P dst ver t s (.call ⟨.builtin .append,args,types⟩)=some (c,d,u))(hc:c):OpOK P C s u U ver M β ((execOp ρ ⟨dst,.call ⟨.builtin .append,args,types⟩,type,pos,after,guard⟩).run P w) d:=by
 simp only[opF]at h;split at h
 .rename_i d0 x0 T T2 ha ht;have⟨v1,v2,hvs,hr1,hr2⟩:=J6 hρ ha;have hty:=XiC ht;subst hty;have start:∀{d u},VOK P C s u U ver M β ((Builtin.append_ #[T,T2] type #[v1,v2]).run P w) d->OpOK P C s u U ver M β ((execOp ρ ⟨dst,.call ⟨.builtin .append,args,#[T,T2]⟩,type,pos,after,guard⟩).run P w) d:=by
   intro d u hk;have:=VOK.op (sem:=Builtin.append_ #[T,T2] type #[v1,v2]) hk;have e:(execOp ρ ⟨dst,.call ⟨.builtin .append,args,#[T,T2]⟩,type,pos,after,guard⟩).run P w=((do pure (Next.value (←Builtin.append_ #[T,T2] type #[v1,v2])):Sem Next)).run P w:=by simp[execOp,resolve,invoke,builtin,hvs]
   rw[e];exact this
  split at h
  .rename_i a b zz E z hT;split at h
   .rename_i te hE;split at h
    .rename_i zc hzc;split at h
     .rename_i hcond;have⟨hz,hzl⟩:=hcond;have⟨z1,z2⟩:=Y3 (P:=P) (M:=M) (β:=β) hzc;have hzs:te.zero.cells.size=te.size:=by have:=z1.length;simp at this;omega
      split at h
      .rename_i a2 b2 zz2 E2 sz2 hT2;split at h
       .rename_i c0 src hel;have hc0:c0:=by
         unfold Xc8 at h;split at h
         .simp at h;rw[←h.1]at hc;exact hc.1
         .split at h
          .split at h
           .split at h
            .simp at h;rw[←h.1]at hc;exact hc.1
            simp at h;rw[←h.1]at hc;exact hc.1
           cases h
          cases h
         cases h
        obtain⟨base,cap,vals,rfl,e1,e2,e3,e4,e5,e6⟩:=Xe8 I hel hc0 hr2;have R:=Xeb (w:=w) (o':=type) (X3 hT).1 (X3 hT2).1 hE (xb:=base) (m:=src.length) (xc:=cap) (vals:=vals) (by rw[hz];exact e2) e3 e4 e6;exact start (Xhw I hv hE hz hzc hzl e1 e5 e6 R h hc hr1)
       cases h
      .rename_i a2 b2 zz2 k2 hT2;split at h
       .rename_i n hn;have hc0:(0<=n/\n<=Xp/\n.toNat*te.bytes<=Xp):=by
         unfold Xc8 at h;split at h
         .simp only[Wr,Wx]at h;rw[←h.1]at hc;exact hc.1
         .split at h
          .split at h
           .split at h
            .simp only[Wr,Wx]at h;rw[←h.1]at hc;exact hc.1
            simp only[Wr,Wx]at h;rw[←h.1]at hc;exact hc.1
           cases h
          cases h
         cases h
        have⟨g0,g1,g2⟩:=hc0;have⟨k',hk',_⟩:=JA hn hr2;subst hk';have hvl:(if n.toNat*te.size=0 then([]:List Value)else(Builtin.zeroCells te.zero.cells n.toNat).toList)=(Builtin.zeroCells te.zero.cells n.toNat).toList:=by
         split
         .rename_i h0;refine(WJ ?_).symm;rw[UU,Yf,hzs];exact h0
         rfl
        have hone:∀v∈(Builtin.zeroCells te.zero.cells n.toNat).toList,v.oneCell'=true:=λv hv=>Y4 z2 n.toNat v (by simpa using hv);have R:=Xe9 (w:=w) (o':=type) (k':=k') (X3 hT).1 (Xbs hT2) hE g0 g1 g2 (vals:=(Builtin.zeroCells te.zero.cells n.toNat).toList) hvl.symm hone hzs;exact start (Xhw I hv hE hz hzc hzl (YM _ _ _ hzl) (Vr hzc n.toNat) hone (by rw[WS];exact R) h hc hr1)
       cases h
      cases h
     cases h
    cases h
   cases h
  cases h
 simp_all
def XjT(I:UO P C s U M β w){dst:Option Tmp}{type:TypeId}{pos:String}{after:Array Edge}{guard:Option (Nat×Bool)}(ρ:Operand->Value)(t:Operand->D)(hρ:∀x,Rep P M β (t x) (ρ x)){c:Prop}{d:D}{u:Up}(args:Array Operand)(types:Array TypeId)(h:opF P dst ver t s (.call ⟨.builtin .clear,args,types⟩)=some (c,d,u))(hc:c):OpOK P C s u U ver M β ((execOp ρ ⟨dst,.call ⟨.builtin .clear,args,types⟩,type,pos,after,guard⟩).run P w) d:=by
 simp only[opF]at h;split at h
 .rename_i id v z off len T ha ht;have⟨v1,hvs,hr1⟩:=Xab hρ ha;have hty:=XaF ht;subst hty;split at h
  .rename_i a b zz E sz hT;split at h
   .rename_i te hE;split at h
    .rename_i zc v' E' z' es fz hzc hs;split at h
     .rename_i hcond;have⟨rfl,rfl,rfl,hz,hzl⟩:=hcond;obtain⟨rfl,rfl,rfl⟩:=h;have⟨hfit,hfz⟩:=hc;have⟨hu,hcz⟩:=X3 hT;have start:∀{w'},(Builtin.clear_ #[T] type #[v1]).run P w=.ok (.tuple #[]) w'->(execOp ρ ⟨dst,.call ⟨.builtin .clear,args,#[T]⟩,type,pos,after,guard⟩).run P w=.ok (.value (.tuple #[])) w':=by intro w' hk;simp[execOp,resolve,invoke,builtin,hvs,hk]
      have same:len=0->upd s id (some (v,.arr false E' z (es.take off++List.replicate len zc++es.drop (off+len)) fz))=s:=by
       rintro rfl;funext i;unfold upd;split
       .rename_i e;subst e;rw[hs];simp
       rfl
      have nil:∀{a cap},len=0->v1=.slice a 0 cap->OpOK P C s [(id,v,.arr false E' z (es.take off++List.replicate len zc++es.drop (off+len)) fz)] U ver M β ((execOp ρ ⟨dst,.call ⟨.builtin .clear,args,#[T]⟩,type,pos,after,guard⟩).run P w) (.tup []):=by
       intro a cap h0 h1;subst h1;refine⟨M,β,w,.tuple #[],.inl (start ?_),?_,by simp[Rep,RepL],MLe.refl _,BLe.refl _⟩
       .unfold Builtin.clear_;cases a<;>simp[run_underlying hu]
       rw[Xiv,same h0];exact I.mono λ_ h=>.inl h
      have⟨x0,hx0,hob⟩:=I.obs id v _ hs;rcases hr1 with⟨hn,h1,h2,a,rfl⟩|⟨bb,cb,o,cap,hb1,rfl,hcap,hcb,ho⟩
      .exact nil h2 rfl
      rw[hb1]at hx0;obtain rfl:some (bb,cb)=x0:=by simpa using hx0
      have⟨cs,T0,k1,k2,k3,k4,k5,k6,k7,k8,k9,k10⟩:=hob;by_cases h0:len=0
      .subst h0;exact nil rfl rfl
      have ho':o=off*z:=by rcases ho with h|h;exact h;omega
      subst ho';have⟨z1,z2⟩:=Y3 (P:=P) (M:=M) (β:=Yt) hzc;have hzs:te.zero.cells.size=z:=by have:=z1.length;simp at this;omega
      have hvl:(Builtin.zeroCells te.zero.cells len).toList.length=(List.replicate len zc).length*z:=by rw[UU,Yf,WS,hzs]
      have hone:∀x∈(Builtin.zeroCells te.zero.cells len).toList,x.oneCell'=true:=λx hx=>Y4 z2 len x (by simpa using hx);have hmul:(off+len)*z<=cb*z:=WZ _ aa;rw[Us]at hmul;have hst:=run_storeCells_at P bb (off*z) T0 (Builtin.zeroCells te.zero.cells len).toList 0 cs w k1 (by rw[hvl,WS];omega) hone;have I':=I.seg (p:=off) (src:=List.replicate len zc) hs hb1 k1 k2 k3 k4 k8 (by exact k10) (λe he=>by rw[(List.mem_replicate.1 he).2];exact hzl) hvl (Vr hzc len) hone (by rw[WS];exact hfit) hfz;rw[WS]at I';refine⟨M,β,_,.tuple #[],.inl (start ?_),(by rw[Xiv];exact I'.mono λ_ h=>.inl h),by simp[Rep,RepL],MLe.refl _,BLe.refl _⟩;unfold Builtin.clear_;cases len with
      |zero=>exact absurd rfl h0
      |succ len=>simp[run_underlying hu,Ke hE,hst]
     cases h
    cases h
   cases h
  cases h
 .rename_i id v T ts ha ht;have⟨v1,hvs,hr1⟩:=Xab hρ ha;have⟨tl⟩:=types;subst ht;split at h
  .rename_i k E v' k2 es hT hs;split at h
   .rename_i hcond;have⟨rfl,rfl⟩:=hcond;simp only[Wr,Wx]at h;obtain⟨rfl,rfl,rfl⟩:=h;obtain⟨K,hT1,hT2⟩:=Z4 hT;simp only[Rep]at hr1;obtain⟨b,cb,hb,rfl⟩:=hr1;obtain⟨x0,hx0,hob⟩:=I.obs id v _ hs;rw[hb]at hx0;obtain rfl:some (b,cb)=x0:=by simpa using hx0
    obtain⟨rfl,h1,h2,ents,clock,h3,h4,h5,h6⟩:=hob;have start:(execOp ρ ⟨dst,.call ⟨.builtin .clear,args,⟨T::ts⟩⟩,type,pos,after,guard⟩).run P w=.ok (.value (.tuple #[])) {w with heap:=w.heap.setIfInBounds b (.map #[] clock)}:=by
     have:(Builtin.clear_ ⟨T::ts⟩ type #[.map (some b)]).run P w=.ok (.tuple #[]) {w with heap:=w.heap.setIfInBounds b (.map #[] clock)}:=by unfold Builtin.clear_;simp[run_underlying hT1,Go.MapKept.run_getObj_map h3,Go.MapKept.run_setObj_map _ h3]
     simp[execOp,resolve,invoke,builtin,hvs,this]
    refine⟨M,β,_,.tuple #[],.inl start,?_,by simp[Rep,RepL],MLe.refl _,BLe.refl _⟩;exact(I.setMap (es':=[]) (ents':=#[]) hs hb h3 (UM _) rfl ab ab).mono λ_ h=>.inl h
   cases h
  cases h
 simp_all
def Xm0(I:UO P C s U M β w){dst:Option Tmp}{type:TypeId}{pos:String}{after:Array Edge}{guard:Option (Nat×Bool)}(ρ:Operand->Value)(t:Operand->D)(hρ:∀x,Rep P M β (t x) (ρ x)){c:Prop}{d:D}{u:Up}(args:Array Operand)(types:Array TypeId)(h:opF P dst ver t s (.call ⟨.builtin .copy,args,types⟩)=some (c,d,u))(hc:c):OpOK P C s u U ver M β ((execOp ρ ⟨dst,.call ⟨.builtin .copy,args,types⟩,type,pos,after,guard⟩).run P w) d:=by
 simp only[opF]at h;split at h
 .rename_i id v z off len x T ts ha ht;have⟨v1,v2,hvs,hr1,hr2⟩:=J6 hρ ha;have⟨types⟩:=types;subst ht;split at h
  .rename_i a b zz E sz hT;split at h
   .rename_i te v' E' z' es fz c0 src hE hs hel;split at h
    .rename_i hcond;have⟨rfl,rfl,rfl,hz⟩:=hcond;obtain⟨rfl,rfl,rfl⟩:=h;have⟨hc0,hlen,hfit,hfz⟩:=hc;have⟨hu,hcz⟩:=X3 hT;obtain⟨base,cap2,vals,rfl,e1,e2,e3,e4,e5,e6⟩:=Xe8 I hel hc0 hr2;have hf:(Builtin.firstCells te.size src.length (.slice base src.length cap2)).run P w=.ok vals.toArray w:=by
      cases base with
      |none=>have hm:=e3 rfl;have:vals=[]:=WJ (by rw[e2,hm,Nat.zero_mul]);subst this;simp[Builtin.firstCells]
      |some a=>exact run_firstCells_some (P:=P) w te.size src.length a src.length cap2 vals (by rw[hz];exact e2) (λj v hj=>e4 a rfl j v hj)
     have start:∀{w' x'},(Builtin.copy_ ⟨T::ts⟩ type #[v1,.slice base src.length cap2]).run P w=.ok x' w'->(execOp ρ ⟨dst,.call ⟨.builtin .copy,args,⟨T::ts⟩⟩,type,pos,after,guard⟩).run P w=.ok (.value x') w':=by intro w' x' hk;simp[execOp,resolve,invoke,builtin,hvs,hk]
     have hl47:src.length<=140737488355328:=by
      have:=(I.obs id v _ hs)
      obtain⟨x0,_,hob⟩:=this;cases x0 with
      |none=>obtain⟨_,h2,_⟩:=hob;subst h2;simp at hfit;omega
      |some bc=>obtain⟨_,_,_,_,_,_,h5,_⟩:=hob;simp only[Xp]at h5;omega
     have hres:Rep P M β (.v (.int .i64 (src.length:Int))) (goInt src.length):=Zi _ _ ⟨by show(-9223372036854775808:Int)<=_;omega,by show _<=(9223372036854775807:Int);omega⟩;have hn:Nat.min src.length len=src.length:=Nat.min_eq_left hlen;have nil:∀{a cap},src=[]->v1=.slice a len cap->OpOK P C s [(id,v,.arr false E' z (es.take off++src++es.drop (off+src.length)) fz)] U ver M β ((execOp ρ ⟨dst,.call ⟨.builtin .copy,args,⟨T::ts⟩⟩,type,pos,after,guard⟩).run P w) (.v (.int .i64 (src.length:Int))):=by
      intro a cap h0 h1;subst h1;have hv0:vals=[]:=WJ (by rw[e2,h0];simp);have same:upd s id (some (v,.arr false E' z (es.take off++src++es.drop (off+src.length)) fz))=s:=by
       funext i;unfold upd;split
       .rename_i e;subst e;rw[hs,h0];simp
       rfl
      refine⟨M,β,w,goInt src.length,.inl (start ?_),?_,hres,MLe.refl _,BLe.refl _⟩
      .unfold Builtin.copy_;rw[hv0]at hf;cases a<;>simp[run_underlying hu,Builtin.lenOf,hn,YH hE,hf,storeCells]
      rw[Xiv,same];exact I.mono λ_ h=>.inl h
     have⟨x0,hx0,hob⟩:=I.obs id v _ hs;rcases hr1 with⟨hn0,h1,h2,a,rfl⟩|⟨bb,cb,o,cap,hb1,rfl,hcap,hcb,ho⟩
     .subst h2;exact nil (WJ aa) rfl
     rw[hb1]at hx0;obtain rfl:some (bb,cb)=x0:=by simpa using hx0
     have⟨cs,T0,k1,k2,k3,k4,k5,k6,k7,k8,k9,k10⟩:=hob;by_cases h0:src.length=0
     .exact nil (WJ h0) rfl
     have ho':o=off*z:=by rcases ho with h|h;exact h;omega
     subst ho';have hmul:(off+src.length)*z<=cb*z:=WZ _ aa;rw[Us]at hmul;have hst:=run_storeCells_at P bb (off*z) T0 vals 0 cs w k1 (by rw[e2];omega) e6;have I':=I.seg (p:=off) (src:=src) hs hb1 k1 k2 k3 k4 k8 (by exact k10) e1 e2 e5 e6 aa hfz;refine⟨M,β,_,goInt src.length,.inl (start ?_),(by rw[Xiv];exact I'.mono λ_ h=>.inl h),hres,MLe.refl _,BLe.refl _⟩;unfold Builtin.copy_;simp[run_underlying hu,Builtin.lenOf,hn,YH hE,hf,hst]
    cases h
   cases h
  cases h
 simp_all
def JC{t:TypeId}{ty:I8}(h:Xo P t=some ty)(hi:¬ty.isIface=true):∃d,P.underlying t=some d/\∀m,d≠.interface m:=by have⟨i,d,_,h2,_,_,_,h6⟩:=Yc h;refine⟨d,h2,λm e=>hi ?_⟩;subst e;unfold I8.isIface;rw[←h6];rfl
def XaG(I:UO P C s U M β w)(_hv:¬U ver){dst:Option Tmp}{type:TypeId}{pos:String}{after:Array Edge}{guard:Option (Nat×Bool)}(ρ:Operand->Value)(t:Operand->D)(hρ:∀x,Rep P M β (t x) (ρ x)){c:Prop}{d:D}{u:Up}(T:TypeId)(x:Operand)(h:opF P dst ver t s (.makeInterface T x)=some (c,d,u))(hc:c):OpOK P C s u U ver M β ((execOp ρ ⟨dst,(.makeInterface T x),type,pos,after,guard⟩).run P w) d:=by
 unfold execOp;simp only[opF]at h;split at h
 .rename_i ty hT;split at h
  .cases h
  rename_i hi;obtain⟨rfl,rfl,rfl⟩:=h;have⟨dd,hu,hne⟩:=JC hT hi;refine .val I (v:=.iface T (ρ x)) ?_ ?_
  .cases dd<;>first|exact absurd rfl (hne _)|simp[Instr.makeInterface,run_underlying hu]
  exact⟨_,rfl,hρ x⟩
 simp_all
def Xdd(I:UO P C s U M β w)(_hv:¬U ver){dst:Option Tmp}{type:TypeId}{pos:String}{after:Array Edge}{guard:Option (Nat×Bool)}(ρ:Operand->Value)(t:Operand->D)(hρ:∀x,Rep P M β (t x) (ρ x)){c:Prop}{d:D}{u:Up}(x:Operand)(xT A:TypeId)(ok:Bool)(h:opF P dst ver t s (.typeAssert x xT A ok)=some (c,d,u))(hc:c):OpOK P C s u U ver M β ((execOp ρ ⟨dst,(.typeAssert x xT A ok),type,pos,after,guard⟩).run P w) d:=by
 unfold execOp;simp only;simp only[opF]at h;have hr:=hρ x;split at h
 .rename_i te T d0 hT hx;rw[hx]at hr;split at h
  .cases h
  rename_i hi;have⟨dd,hu,hne⟩:=JC hT hi;have⟨y,he,hy⟩:=hr;split at h
  .rename_i e;obtain⟨rfl,rfl,rfl⟩:=h;refine .val I (v:=.tuple #[y,.bool true]) ?_ ?_
   .rw[he];cases dd<;>first|exact absurd rfl (hne _)|simp[Instr.typeAssert,run_underlying hu,e]
   exact⟨_,rfl,_,_,rfl,hy,_,_,rfl,⟨rfl,trivial⟩,rfl⟩
  rename_i e;obtain⟨rfl,rfl,rfl⟩:=h;refine .val I (v:=.tuple #[te.zero,.bool false]) ?_ ?_
  .rw[he];cases dd<;>first|exact absurd rfl (hne _)|simp[Instr.typeAssert,run_underlying hu,e,Ke hT]
  exact⟨_,rfl,_,_,rfl,Vq _,_,_,rfl,⟨rfl,trivial⟩,rfl⟩
 .rename_i te hT hx;rw[hx]at hr;split at h
  .cases h
  rename_i hi;have⟨dd,hu,hne⟩:=JC hT hi;simp only[Wr,Wx]at h;obtain⟨rfl,rfl,rfl⟩:=h;refine .val I (v:=.tuple #[te.zero,.bool false]) ?_ ?_
  .rw[hr.1];cases dd<;>first|exact absurd rfl (hne _)|simp[Instr.typeAssert,run_underlying hu,Ke hT]
  simp only[Rep,RepL];exact⟨_,rfl,_,_,rfl,Vq _,_,_,rfl,⟨rfl,trivial⟩,rfl⟩
 simp_all
def XjU(I:UO P C s U M β w)(hv:¬U ver)(o:Oper)(ρ:Operand->Value)(t:Operand->D)(hρ:∀x,Rep P M β (t x) (ρ x))(hcn:∀v,ρ (.const v)=v){c:Prop}{d:D}{u:Up}(h:opF P o.dst ver t s o.op=some (c,d,u))(hc:c):OpOK P C s u U ver M β ((execOp ρ o).run P w) d:=by
 have⟨dst,op,type,pos,after,guard⟩:=o;cases op with
 |move x=>exact XmW I hv ρ t hρ x h hc
 |assign x=>exact XiA I hv ρ t hρ x h hc
 |pick g a b=>exact XmX I hv ρ t hρ g a b h hc
 |alloc T=>exact XjM I hv ρ t hρ T h hc
 |box T x=>exact Xph I hv ρ t hρ T x h hc
 |build T parts=>exact XjN I hv ρ t hρ T parts h hc
 |buildSlice T n parts=>exact Xdc I hv ρ t hρ T n parts h hc
 |load T a=>exact XmY I hv ρ t hρ T a h hc
 |store T a x=>exact XjO I hv ρ t hρ T a x h hc
 |nilCheck x=>exact Xfb I hv ρ t hρ x h hc
 |binOp op T x y yt=>exact XjP I hv ρ t hρ op T x y yt (λv e=>by simp_all) h hc
 |unOp op T x=>exact XmZ I hv ρ t hρ op T x h hc
 |convert S T x=>exact Xgu I hv ρ t hρ S T x h hc
 |makeFunc fn first captured=>exact Xfc I hv ρ t hρ fn first captured h hc
 |makeSlice T l cc=>exact Xef I hv ρ t hρ T l cc h hc
 |slice T x lo hi mx=>exact XjQ I hv ρ t hρ T x lo hi mx h hc
 |fieldAddr T x f=>exact Xeg I hv ρ t hρ T x f h hc
 |field T x f=>exact XjR I hv ρ t hρ T x f h hc
 |indexAddr T x ix=>exact Xeh I hv ρ t hρ T x ix h hc
 |index T x ix=>exact XjS I hv ρ t hρ T x ix h hc
 |makeMap T r=>exact Xgs I hv ρ t hρ T r h hc
 |mapUpdate T m k x=>exact Xee I hv ρ t hρ T m k x h hc
 |insert T m k x=>exact Xiy I hv ρ t hρ T m k x h hc
 |lookup T m k ok=>exact Xiz I hv ρ t hρ T m k ok h hc
 |extract x i=>exact Xgv I hv ρ t hρ x i h hc
 |makeInterface T x=>exact XaG I hv ρ t hρ T x h hc
 |typeAssert x xT A ok=>exact Xdd I hv ρ t hρ x xT A ok h hc
 |call cl=>
  have⟨callee,args,types⟩:=cl;cases callee with
  |value f=>simp_all[opF]
  |invoke r m=>simp_all[opF]
  |builtin b=>
   cases b with
   |len=>exact Xpi I ρ t hρ args types h hc
   |delete=>exact XiD I ρ t hρ args types h hc
   |clear=>exact XjT I ρ t hρ args types h hc
   |copy=>exact Xm0 I ρ t hρ args types h hc
   |cap=>exact Xpj I ρ t hρ args types h hc
   |min=>exact Xpk I ρ t hρ args types h hc
   |max=>exact Xpl I ρ t hρ args types h hc
   |append=>exact XiE I hv ρ t hρ args types h hc
   |_=>simp[opF]at h
 |_=>simp[opF]at h
end
variable {P:Program}
structure St where
 t:Nat->D
 s:Heap
 n:Nat
 k:Nat
def Rel(P:Program)(C:Cx)(st:St)(a:Act)(w:World):Prop:=
 a.defers=C.df/\a.tmps.size=st.n/\∃M β,BLe C.b0 β/\(∀x,Rep P M β (st.t x) (a.tmps.getD x undef))/\UO P C st.s (·<st.k) M β w
def XbX{C:Cx}{s:Heap}{U:Nat->Prop}{M:Mem}{β:Loc}{w:World}(I:UO P C s U M β w){t:Nat->D}{a:Act}(h:∀x,Rep P M β (t x) (a.tmps.getD x undef))(x:Operand):
 Rep P M β (ev t C.G x) (a.eval x):=by
 cases x with
 |tmp i=>exact h i
 |const v=>exact Vq v
 |global g=>
  simp only[ev,Act.eval];split
  .rename_i cs hcs;simp only[Rep];exact⟨trivial,g,0,rfl,RepC.mono I.le (I.glob g cs hcs)⟩
  simp[Rep]
 |func f=>simp[ev,Act.eval,Rep,RepL]
def LB:Nat:=1000000
def ZX(lb:List (Nat×Nat)):Loc:=λid v=>if v=0/\LB<=id then(lb[id-LB]?).map some else none
def KR(ls:List Ob):Heap:=λid=>if LB<=id then(ls[id-LB]?).map (λo=>(0,o))else none
mutual
def FrRep(P:Program)(M:Mem)(w:World)(B:Nat):D->Value->List (Option (Nat×Nat))->Prop
 |.fsl E z es,y,l=>(l=[none]/\es=[]/\∃a,y=.slice a 0 0) \/
  ∃b cb o,l=[some (b,cb)]/\B<=b/\y=.slice (some ⟨b,o,none⟩) es.length cb/\(o=0\/cb=0)/\ObRep P M Yt w (some (b,cb)) (.arr false E z es 0)
 |.fmp k ks vs,y,l=>∃b,l=[some (b,0)]/\B<=b/\y=.map (some b)/\ks.length=vs.length/\ObRep P M Yt w (some (b,0)) (.mp k (ks.zip vs))
 |.agg cs,y,l=>∃vs,y=.agg ⟨vs⟩/\FrRepL P M w B cs vs l
 |.tup cs,y,l=>∃vs,y=.tuple ⟨vs⟩/\FrRepL P M w B cs vs l
 |.ifc t d,y,l=>∃x,y=.iface t x/\FrRep P M w B d x l
 |.clo fn a b,y,l=>∃va vb,y=.func fn ⟨va⟩ ⟨vb⟩/\∃l1 l2,l=l1++l2/\FrRepL P M w B a va l1/\FrRepL P M w B b vb l2
 |.any,_,l=>l=[]
 |.v x,y,l=>l=[]/\Rep P M Yt (.v x) y
 |.nsl,y,l=>l=[]/\Rep P M Yt .nsl y
 |.isl E z es,y,l=>l=[]/\Rep P M Yt (.isl E z es) y
 |.ipt z cs c,y,l=>l=[]/\Rep P M Yt (.ipt z cs c) y
 |_,_,_=>False
def FrRepL(P:Program)(M:Mem)(w:World)(B:Nat):List D->List Value->List (Option (Nat×Nat))->Prop
 |[],vs,l=>vs=[]/\l=[]
 |d::ds,vs,l=>∃x xs l1 l2,vs=x::xs/\l=l1++l2/\FrRep P M w B d x l1/\FrRepL P M w B ds xs l2
end
def XV(l:List (Option (Nat×Nat))):List Nat:=l.filterMap (·.map (·.1))
def Xm1(P:Program)(M:Mem)(w:World)(lb:List (Nat×Nat))(R:D->List Ob->Prop)(e:Ending)(w':World):Prop:=
 ∃v r ls M' l,e=.returned v/\R r ls/\Kp w (lb.map (·.1)) w'/\MemOK M' w'/\(∀b o,b<w.heap.size->M' b o=M b o)/\ls.length=lb.length /\
  (∀(k:Nat)ob x,ls[k]? = some ob->lb[k]? = some x->ObRep P M' Yt w' (some x) ob/\ob.bx=true)/\FrRep P M' w' w.heap.size r v l/\(XV l).Nodup
def YK(P:Program)(G:Nat->Option (List D))(f:FuncId)(args:List D)(lent:List Ob)(R:D->List Ob->Prop):Prop:=
 (∃fn,P.funcs[f]? = some fn/\fn.body.isNone=false/\(fn.name== "runtime.NumGoroutine")=false) /\
 ∀M w vs lb,MemOK M w->(∀g cs,G g=some cs->RepC P M cs g 0)->lb.length=lent.length->(lb.map (·.1)).Nodup ->
  (∀(k:Nat)ob x,lent[k]? = some ob->lb[k]? = some x->ObRep P M Yt w (some x) ob/\ob.bx=true)->RepL P M (ZX lb) args vs->Calls P f ⟨vs⟩ w (Xm1 P M w lb R)
mutual
def imp(ver:Nat):Nat->D->D×Nat×Up
 |n,.fsl E z es=>(.osl n ver z 0 es.length,n+1,[(n,ver,.arr false E z es 0)])
 |n,.fmp k ks vs=>(.omp n ver,n+1,[(n,ver,.mp k (ks.zip vs))])
 |n,.agg cs=>let r:=JW ver n cs;(.agg r.1,r.2.1,r.2.2)
 |n,.tup cs=>let r:=JW ver n cs;(.tup r.1,r.2.1,r.2.2)
 |n,.ifc t d=>let r:=imp ver n d;(.ifc t r.1,r.2.1,r.2.2)
 |n,.clo fn a b=>let r:=JW ver n a;let q:=JW ver r.2.1 b;(.clo fn r.1 q.1,q.2.1,r.2.2++q.2.2)
 |n,d=>(d,n,[])
def JW(ver:Nat):Nat->List D->List D×Nat×Up
 |n,[]=>([],n,[])
 |n,d::ds=>let r:=imp ver n d;let q:=JW ver r.2.1 ds;(r.1::q.1,q.2.1,r.2.2++q.2.2)
end
section
variable {C:Cx}{U:Nat->Prop}{M:Mem}{w:World}{ver:Nat}
def Xgw(s:Heap)(β:Loc)(l:List Nat):Prop:=∀b∈l,∀id v ob cb,s id=some (v,ob)->β id v≠some (some (b,cb))
structure Oh(P:Program)(C:Cx)(s:Heap)(U:Nat->Prop)(M:Mem)(β:Loc)(w:World)(ver n n':Nat)(u:Up)(l:List (Option (Nat×Nat)))(β':Loc):Prop where
 inv:UO P C (app s u) (λv=>U v\/v=ver) M β' w
 le:BLe β β'
 next:n<=n'
 high:∀i,n'<=i->β' i ver=none
 free:∀l',Xgw s β l'->(∀b∈l',b∉XV l)->Xgw (app s u) β' l'
def Oh.nil{s:Heap}{β:Loc}(I:UO P C s U M β w){n:Nat}(hi:∀i,n<=i->β i ver=none):Oh P C s U M β w ver n n [] [] β:=
 ⟨I.mono λ_ h=>.inl h,BLe.refl _,Un _,hi,λ_ h _=>h⟩
def ObRep.row{b cb:Nat}{ob:Ob}(h:ObRep P M Yt w (some (b,cb)) ob)(hb:ob.bx=false)(β:Loc):ObRep P M β w (some (b,cb)) ob:=by
 cases ob with
 |mp kk es=>exact h
 |raw o=>exact h
 |arr bx E z es fz=>have:bx=false:=hb;subst this;exact h
def X4(l1 l2:List (Option (Nat×Nat))):XV (l1++l2)=XV l1++XV l2:=by simp[XV]
mutual
def imp_ok{B:Nat}(hB:C.w0.heap.size<=B):∀(d:D)(y:Value)(l:List (Option (Nat×Nat)))(n:Nat){s:Heap}{U:Nat->Prop}{β:Loc},UO P C s U M β w->(∀i,n<=i->β i ver=none)->FrRep P M w B d y l->(XV l).Nodup->Xgw s β (XV l) ->
 ∃β',Oh P C s U M β w ver n (imp ver n d).2.1 (imp ver n d).2.2 l β'/\Rep P M β' (imp ver n d).1 y
 |.fsl E z es,y,l,n,s,U,β,I,hi,hr,hnd,hf=>by
  simp only[imp];have hid:β n ver=none:=hi n (Un _);rcases hr with⟨rfl,rfl,a,rfl⟩|⟨b,cb,o,rfl,hb,rfl,ho,hob⟩
  .refine⟨Zb β n ver none,⟨I.setNil n ver E z (YT hid) (XI ..) Y2,YT hid,aa,λi h=>?_,λl' h _=>?_⟩,?_⟩
   .unfold Zb;grind
   .intro b hb id v ob cb hs hx;by_cases hn:id=n
    .subst hn;have hs':some (ver,Ob.arr false E z [] 0)=some (v,ob):=by rw[←hs];show _=upd s id _ id;rw[YB]
     simp_all[XI]
    have hs':s id=some (v,ob):=by rw[←hs];show _=upd s n _ id;rw[Yb _ _ _ _ hn]
    have hx':β id v=some (some (b,cb)):=by unfold Zb at hx;rw[Wn (λh=>hn h.1)]at hx;exact hx
    exact h b hb id v ob cb hs' hx'
   exact .inl ⟨XI ..,ab⟩
  have hfree:∀id' v' ob' cb',id'≠n->s id'=some (v',ob')->β id' v'≠some (some (b,cb')):=λid' v' ob' cb' _ hs=>hf b (by simp[XV]) id' v' ob' cb' hs;have hob':=hob;have⟨cs,T,k1,k2,k3,k4,k5,k6,k7,k8,k9,k10⟩:=hob';have I':=I.set (M':=M) (β':=Zb β n ver (some (b,cb))) (w':=w) n ver (.arr false E z es 0) b cb (MLe.refl _) (YT hid) (λ_ _=>rfl) (λ_ _ _=>rfl) (λo x hx=>I.mem b o x hx) (XI ..) (hob.row rfl _) hfree (.inl aa) (λ_ _=>rfl) rfl rfl rfl (Un _) Y2;refine⟨Zb β n ver (some (b,cb)),⟨I',YT hid,aa,λi h=>?_,λl' h hl=>?_⟩,?_⟩
  .unfold Zb;grind
  .intro b' hb' id v ob cb' hs hx;by_cases hn:id=n
   .subst hn;have hs':some (ver,Ob.arr false E z es 0)=some (v,ob):=by rw[←hs];show _=upd s id _ id;rw[YB]
    grind[XI,XV]
   have hs':s id=some (v,ob):=by rw[←hs];show _=upd s n _ id;rw[Yb _ _ _ _ hn]
   have hx':β id v=some (some (b',cb')):=by unfold Zb at hx;rw[Wn (λh=>hn h.1)]at hx;exact hx
   exact h b' hb' id v ob cb' hs' hx'
  exact .inr ⟨b,cb,o,cb,XI ..,rfl,k4,ab,aa⟩
 |.fmp k ks vs,y,l,n,s,U,β,I,hi,hr,hnd,hf=>by
  simp only[imp];have hid:β n ver=none:=hi n (Un _);obtain⟨b,rfl,hb,rfl,hlen,hob⟩:=hr;have hfree:∀id' v' ob' cb',id'≠n->s id'=some (v',ob')->β id' v'≠some (some (b,cb')):=λid' v' ob' cb' _ hs=>hf b (by simp[XV]) id' v' ob' cb' hs;have I':=I.set (M':=M) (β':=Zb β n ver (some (b,0))) (w':=w) n ver (.mp k (ks.zip vs)) b 0 (MLe.refl _) (YT hid) (λ_ _=>rfl) (λ_ _ _=>rfl) (λo x hx=>I.mem b o x hx) (XI ..) (hob.row rfl _) hfree (.inl aa) (λ_ _=>rfl) rfl rfl rfl (Un _) Y2;refine⟨Zb β n ver (some (b,0)),⟨I',YT hid,aa,λi h=>?_,λl' h hl=>?_⟩,?_⟩
  .unfold Zb;grind
  .intro b' hb' id v ob cb' hs hx;by_cases hn:id=n
   .subst hn;have hs':some (ver,Ob.mp k (ks.zip vs))=some (v,ob):=by rw[←hs];show _=upd s id _ id;rw[YB]
    grind[XI,XV]
   have hs':s id=some (v,ob):=by rw[←hs];show _=upd s n _ id;rw[Yb _ _ _ _ hn]
   have hx':β id v=some (some (b',cb')):=by unfold Zb at hx;rw[Wn (λh=>hn h.1)]at hx;exact hx
   exact h b' hb' id v ob cb' hs' hx'
  exact⟨b,0,XI ..,rfl⟩
 |.agg cs,y,l,n,s,U,β,I,hi,hr,hnd,hf=>by obtain⟨vs,rfl,hr⟩:=hr;have⟨β',h1,h2⟩:=Xac hB cs vs l n I hi hr hnd hf;grind[imp,Rep]
 |.tup cs,y,l,n,s,U,β,I,hi,hr,hnd,hf=>by obtain⟨vs,rfl,hr⟩:=hr;have⟨β',h1,h2⟩:=Xac hB cs vs l n I hi hr hnd hf;grind[imp,Rep]
 |.ifc t d,y,l,n,s,U,β,I,hi,hr,hnd,hf=>by obtain⟨x,rfl,hr⟩:=hr;have⟨β',h1,h2⟩:=imp_ok hB d x l n I hi hr hnd hf;grind[imp,Rep]
 |.clo fn a b,y,l,n,s,U,β,I,hi,hr,hnd,hf=>by
  obtain⟨va,vb,rfl,l1,l2,rfl,hr1,hr2⟩:=hr;rw[X4,Io]at hnd;rw[X4]at hf;have⟨β1,h1,h2⟩:=Xac hB a va l1 n I hi hr1 hnd.1 (λx hx=>hf x (W0 _ hx));have hf2:Xgw (app s (JW ver n a).2.2) β1 (XV l2):=h1.free _ (λx hx=>hf x (Ua _ hx)) (λx hx hx'=>hnd.2.2 x hx' x hx rfl);have⟨β2,h3,h4⟩:=Xac hB b vb l2 (JW ver n a).2.1 h1.inv h1.high hr2 hnd.2.1 hf2;refine⟨β2,⟨?_,h1.le.trans h3.le,Um h1.next h3.next,h3.high,λl' hl' hb=>?_⟩,?_⟩
  .simp only[imp];rw[YU];exact h3.inv.mono λv hv=>by simp_all
  .simp only[imp];rw[YU];refine h3.free _ (h1.free _ hl' λx hx hx'=>hb x hx ?_) λx hx hx'=>hb x hx ?_
   .rw[X4];exact W0 _ hx'
   simp_all[X4]
  exact⟨va,vb,rfl,h2.mono (MLe.refl _) h3.le,h4⟩
 |.any,y,l,n,s,U,β,I,hi,hr,hnd,hf=>by subst hr;exact⟨β,.nil I hi,by simp[imp,Rep]⟩
 |.v x,y,l,n,s,U,β,I,hi,hr,hnd,hf=>by obtain⟨rfl,hr⟩:=hr;exact⟨β,.nil I hi,hr.mono (MLe.refl _) (BLe.zero _)⟩
 |.nsl,y,l,n,s,U,β,I,hi,hr,hnd,hf=>by obtain⟨rfl,hr⟩:=hr;exact⟨β,.nil I hi,hr.mono (MLe.refl _) (BLe.zero _)⟩
 |.isl E z es,y,l,n,s,U,β,I,hi,hr,hnd,hf=>by obtain⟨rfl,hr⟩:=hr;exact⟨β,.nil I hi,hr.mono (MLe.refl _) (BLe.zero _)⟩
 |.ipt z cs c,y,l,n,s,U,β,I,hi,hr,hnd,hf=>by obtain⟨rfl,hr⟩:=hr;exact⟨β,.nil I hi,hr.mono (MLe.refl _) (BLe.zero _)⟩
 |.osl ..,y,l,n,s,U,β,I,hi,hr,hnd,hf=>by simp_all[FrRep]
 |.ept ..,y,l,n,s,U,β,I,hi,hr,hnd,hf=>by simp_all[FrRep]
 |.omp ..,y,l,n,s,U,β,I,hi,hr,hnd,hf=>by simp_all[FrRep]
def Xac{B:Nat}(hB:C.w0.heap.size<=B):∀(ds:List D)(ys:List Value)(l:List (Option (Nat×Nat)))(n:Nat){s:Heap}{U:Nat->Prop}{β:Loc},UO P C s U M β w->(∀i,n<=i->β i ver=none)->FrRepL P M w B ds ys l->(XV l).Nodup->Xgw s β (XV l) ->
 ∃β',Oh P C s U M β w ver n (JW ver n ds).2.1 (JW ver n ds).2.2 l β'/\RepL P M β' (JW ver n ds).1 ys
 |[],ys,l,n,s,U,β,I,hi,hr,hnd,hf=>by obtain⟨rfl,rfl⟩:=hr;exact⟨β,.nil I hi,by rfl⟩
 |d::ds,ys,l,n,s,U,β,I,hi,hr,hnd,hf=>by
  obtain⟨x,xs,l1,l2,rfl,rfl,hr1,hr2⟩:=hr;rw[X4,Io]at hnd;rw[X4]at hf;have⟨β1,h1,h2⟩:=imp_ok hB d x l1 n I hi hr1 hnd.1 (λx hx=>hf x (W0 _ hx));have hf2:Xgw (app s (imp ver n d).2.2) β1 (XV l2):=h1.free _ (λx hx=>hf x (Ua _ hx)) (λx hx hx'=>hnd.2.2 x hx' x hx rfl);have⟨β2,h3,h4⟩:=Xac hB ds xs l2 (imp ver n d).2.1 h1.inv h1.high hr2 hnd.2.1 hf2;refine⟨β2,⟨?_,h1.le.trans h3.le,Um h1.next h3.next,h3.high,λl' hl' hb=>?_⟩,?_⟩
  .simp only[JW];rw[YU];exact h3.inv.mono λv hv=>by simp_all
  .simp only[JW];rw[YU];refine h3.free _ (h1.free _ hl' λx hx hx'=>hb x hx ?_) λx hx hx'=>hb x hx ?_
   .rw[X4];exact W0 _ hx'
   simp_all[X4]
  exact⟨x,xs,rfl,h2.mono (MLe.refl _) h3.le,h4⟩
end
end
variable {P:Program}
def pos:List Nat->Nat->Option Nat
 |[],_=>none
 |x::l,i=>if x=i then some 0 else(pos l i).map (·+1)
def Xhy:∀{l:List Nat}{i j:Nat},pos l i=some j->l[j]? = some i
 |[],i,j,h=>by simp_all[pos]
 |x::l,i,j,h=>by
  unfold pos at h;split at h
  .grind
  simp at h;obtain⟨k,hk,rfl⟩:=h;simpa using Xhy hk
def Xfd:∀{l:List Nat}{i:Nat},pos l i=none->i∉l
 |[],i,_=>by simp
 |x::l,i,h=>by
  unfold pos at h;split at h
  .grind
  rename_i hx;simp at h;simp;exact⟨λe=>hx e.symm,Xfd h⟩
mutual
def lend(s:Heap):List Nat->D->Option (Prop×D×List Nat×List Nat)
 |ls,.ept id ver z i c=>match s id with
  |some (ver',.arr true _ z' [_] _)=>if ver=ver'/\z=z'/\i=0 then
   match pos ls id with
   |some j=>some (True,.ept (LB+j) 0 z 0 c,ls,[])
   |none=>some (True,.ept (LB+ls.length) 0 z 0 c,ls++[id],[])
   else none
  |_=>none
 |ls,.agg cs=>match Zp s ls cs with
  |some (c,ds,ls',l)=>some (c,.agg ds,ls',l)
  |none=>none
 |ls,.tup cs=>match Zp s ls cs with
  |some (c,ds,ls',l)=>some (c,.tup ds,ls',l)
  |none=>none
 |ls,.clo fn a b=>match Zp s ls a with
  |some (c,a',ls',l)=>match Zp s ls' b with
   |some (c',b',ls'',l')=>some (c/\c',.clo fn a' b',ls'',l++l')
   |none=>none
  |none=>none
 |ls,.ifc t d=>match lend s ls d with
  |some (c,e,ls',l)=>some (c,.ifc t e,ls',l)
  |none=>none
 |ls,d=>match snap s d with
  |some (c,e,l)=>some (c,e,ls,l)
  |none=>none
def Zp(s:Heap):List Nat->List D->Option (Prop×List D×List Nat×List Nat)
 |ls,[]=>some (True,[],ls,[])
 |ls,d::ds=>match lend s ls d with
  |some (c,e,ls',l)=>match Zp s ls' ds with
   |some (c',es,ls'',l')=>some (c/\c',e::es,ls'',l++l')
   |none=>none
  |none=>none
end
mutual
def lend_prefix{s:Heap}:∀{d d':D}{ls ls':List Nat}{c:Prop}{l:List Nat},lend s ls d=some (c,d',ls',l)->ls <+:ls'
 |.ept id ver z i k,d',ls,ls',c,l,h=>by unfold lend at h;grind
 |.agg cs,d',ls,ls',c,l,h=>by
  unfold lend at h;split at h
  .rename_i hl;obtain⟨_,_,rfl,_⟩:=h;exact YV hl
  simp_all
 |.tup cs,d',ls,ls',c,l,h=>by
  unfold lend at h;split at h
  .rename_i hl;obtain⟨_,_,rfl,_⟩:=h;exact YV hl
  simp_all
 |.clo fn a b,d',ls,ls',c,l,h=>by
  unfold lend at h;split at h
  .rename_i h1;split at h
   .rename_i h2;obtain⟨_,_,rfl,_⟩:=h;exact(YV h1).trans (YV h2)
   cases h
  simp_all
 |.ifc t d,d',ls,ls',c,l,h=>by
  unfold lend at h;split at h
  .rename_i hl;obtain⟨_,_,rfl,_⟩:=h;exact lend_prefix hl
  simp_all
 |.osl id ver z off len,d',ls,ls',c,l,h=>by unfold lend at h;grind
 |.any,d',ls,ls',c,l,h=>by unfold lend at h;grind
 |.v x,d',ls,ls',c,l,h=>by unfold lend at h;grind
 |.nsl,d',ls,ls',c,l,h=>by unfold lend at h;grind
 |.isl E z es,d',ls,ls',c,l,h=>by unfold lend at h;grind
 |.ipt z cs k,d',ls,ls',c,l,h=>by unfold lend at h;grind
 |.fsl E z es,d',ls,ls',c,l,h=>by unfold lend at h;grind
 |.fmp k ks vs,d',ls,ls',c,l,h=>by unfold lend at h;grind
 |.omp id ver,d',ls,ls',c,l,h=>by unfold lend at h;grind
def YV{s:Heap}:∀{ds ds':List D}{ls ls':List Nat}{c:Prop}{l:List Nat},Zp s ls ds=some (c,ds',ls',l)->ls <+:ls'
 |[],ds',ls,ls',c,l,h=>by simp_all[Zp,Wr,Wx]
 |d::ds,ds',ls,ls',c,l,h=>by
  unfold Zp at h;split at h
  .rename_i h1;split at h
   .rename_i h2;obtain⟨_,_,rfl,_⟩:=h;exact(lend_prefix h1).trans (YV h2)
   cases h
  simp_all
end
def XbY(s:Heap)(ls:List Nat):Prop:=ls.Nodup/\∀id∈ls,∃v E z cs fz,s id=some (v,.arr true E z [cs] fz)
mutual
def lend_boxes{s:Heap}:∀{d d':D}{ls ls':List Nat}{c:Prop}{l:List Nat},lend s ls d=some (c,d',ls',l)->XbY s ls->XbY s ls'
 |.ept id ver z i k,d',ls,ls',c,l,h=>by
  intro hb;unfold lend at h;split at h
  .rename_i hs;split at h
   .split at h
    .obtain⟨_,_,rfl,_⟩:=h;exact hb
    rename_i hp;obtain⟨_,_,rfl,_⟩:=h;refine⟨Io.2 ⟨hb.1,ab,λx hx y hy=>?_⟩,λx hx=>?_⟩
    .simp at hy;subst hy;rintro rfl;exact Xfd hp hx
    simp at hx;rcases hx with hx|rfl
    .exact hb.2 x hx
    exact⟨_,_,_,_,_,hs⟩
   cases h
  simp_all
 |.agg cs,d',ls,ls',c,l,h=>by
  unfold lend at h;split at h
  .rename_i hl;obtain⟨_,_,rfl,_⟩:=h;exact YS hl
  simp_all
 |.tup cs,d',ls,ls',c,l,h=>by
  unfold lend at h;split at h
  .rename_i hl;simp only[Wr,Wx]at h;obtain⟨_,_,rfl,_⟩:=h;exact YS hl
  simp_all
 |.clo fn a b,d',ls,ls',c,l,h=>by
  unfold lend at h;split at h
  .rename_i h1;split at h
   .rename_i h2;simp only[Wr,Wx]at h;obtain⟨_,_,rfl,_⟩:=h;exactλhb=>YS h2 (YS h1 hb)
   cases h
  simp_all
 |.ifc t d,d',ls,ls',c,l,h=>by
  unfold lend at h;split at h
  .rename_i hl;simp only[Wr,Wx]at h;obtain⟨_,_,rfl,_⟩:=h;exact lend_boxes hl
  simp_all
 |.osl id ver z off len,d',ls,ls',c,l,h=>by unfold lend at h;grind
 |.any,d',ls,ls',c,l,h=>by unfold lend at h;grind
 |.v x,d',ls,ls',c,l,h=>by unfold lend at h;grind
 |.nsl,d',ls,ls',c,l,h=>by unfold lend at h;grind
 |.isl E z es,d',ls,ls',c,l,h=>by unfold lend at h;grind
 |.ipt z cs k,d',ls,ls',c,l,h=>by unfold lend at h;grind
 |.fsl E z es,d',ls,ls',c,l,h=>by unfold lend at h;grind
 |.fmp k ks vs,d',ls,ls',c,l,h=>by unfold lend at h;grind
 |.omp id ver,d',ls,ls',c,l,h=>by unfold lend at h;grind
def YS{s:Heap}:∀{ds ds':List D}{ls ls':List Nat}{c:Prop}{l:List Nat},Zp s ls ds=some (c,ds',ls',l)->XbY s ls->XbY s ls'
 |[],ds',ls,ls',c,l,h=>by simp_all[Zp,Wr,Wx]
 |d::ds,ds',ls,ls',c,l,h=>by
  unfold Zp at h;split at h
  .rename_i h1;split at h
   .rename_i h2;obtain⟨_,_,rfl,_⟩:=h;exactλhb=>YS h2 (lend_boxes h1 hb)
   cases h
  simp_all
end
section
variable {C:Cx}{s:Heap}{U:Nat->Prop}{M M':Mem}{β:Loc}{w:World}
def Xei(s:Heap)(β:Loc)(ls:List Nat)(lb:List (Nat×Nat)):Prop:=
 ∀(j:Nat)id,ls[j]? = some id->∃v E z cs fz x,s id=some (v,.arr true E z [cs] fz)/\lb[j]? = some x/\β id v=some (some x)
mutual
def lend_rep(I:UO P C s U M β w)(hM:MLe M M'){lsF:List Nat}{lbF:List (Nat×Nat)}(hL:Xei s β lsF lbF):∀{d d':D}{ls ls':List Nat}{c:Prop}{l:List Nat},lend s ls d=some (c,d',ls',l)->c->Frz s M' β w l->ls' <+:lsF ->
 ∀{y:Value},Rep P M β d y->Rep P M' (ZX lbF) d' y
 |.ept id ver z i k,d',ls,ls',c,l,h,hc,hF,hp,y,hr=>by
  have key:∀j,lsF[j]? = some id->i=0->(∃E cs fz,s id=some (ver,.arr true E z [cs] fz))->Rep P M' (ZX lbF) (.ept (LB+j) 0 z 0 k) y:=by
   rintro j hj rfl ⟨E,cs,fz,hs⟩;obtain⟨v',E',z',cs',fz',x,hs',hx,hb⟩:=hL j id hj;rw[hs]at hs';obtain⟨rfl,_⟩:ver=v'/\_:=by simpa using hs'
   simp only[Rep]at hr⊢;obtain⟨b,cb,hb',rfl⟩:=hr;rw[hb]at hb';obtain rfl:x=(b,cb):=by simpa using hb'
   exact⟨b,cb,by simp[ZX,hx],rfl⟩
  unfold lend at h;split at h
  .rename_i ver' E z' cs fz hs;split at h
   .rename_i hcond;have⟨rfl,rfl,hi⟩:=hcond;split at h
    .rename_i j hj;obtain⟨rfl,rfl,rfl,rfl⟩:=h;refine key j ?_ hi ⟨_,_,_,hs⟩;have:=Xhy hj;obtain⟨t,rfl⟩:=hp;rw[US]
     .exact this
     rcases Uq j ls.length with h|h
     .exact h
     rw[WY h]at this;cases this
    obtain⟨rfl,rfl,rfl,rfl⟩:=h;refine key ls.length ?_ hi ⟨_,_,_,hs⟩;obtain⟨t,rfl⟩:=hp;simp
   cases h
  simp_all
 |.agg cs,d',ls,ls',c,l,h,hc,hF,hp,y,hr=>by
  unfold lend at h;split at h
  .rename_i c' ds ls2 l' hl;obtain⟨rfl,rfl,rfl,rfl⟩:=h;simp only[Rep]at hr⊢;obtain⟨vs,e,hr⟩:=hr;exact⟨vs,e,KD I hM hL hl hc hF hp hr⟩
  simp_all
 |.tup cs,d',ls,ls',c,l,h,hc,hF,hp,y,hr=>by
  unfold lend at h;split at h
  .rename_i c' ds ls2 l' hl;simp only[Wr,Wx]at h;obtain⟨rfl,rfl,rfl,rfl⟩:=h;simp only[Rep]at hr⊢;obtain⟨vs,e,hr⟩:=hr;exact⟨vs,e,KD I hM hL hl hc hF hp hr⟩
  simp_all
 |.clo fn a b,d',ls,ls',c,l,h,hc,hF,hp,y,hr=>by
  unfold lend at h;split at h
  .rename_i c1 a' ls1 l1 h1;split at h
   .rename_i c2 b' ls2 l2 h2;simp only[Wr,Wx]at h;obtain⟨rfl,rfl,rfl,rfl⟩:=h;simp only[Rep]at hr⊢;obtain⟨va,vb,e,hr1,hr2⟩:=hr;exact⟨va,vb,e,KD I hM hL h1 hc.1 (λi hi=>hF i (W0 _ hi)) ((YV h2).trans hp) hr1,KD I hM hL h2 hc.2 (λi hi=>hF i (Ua _ hi)) hp hr2⟩
   cases h
  simp_all
 |.ifc t d,d',ls,ls',c,l,h,hc,hF,hp,y,hr=>by
  unfold lend at h;split at h
  .rename_i c' e ls2 l' hl;simp only[Wr,Wx]at h;obtain⟨rfl,rfl,rfl,rfl⟩:=h;simp only[Rep]at hr⊢;obtain⟨x,e,hr⟩:=hr;exact⟨x,e,lend_rep I hM hL hl hc hF hp hr⟩
  simp_all
 |.osl id ver z off len,d',ls,ls',c,l,h,hc,hF,hp,y,hr=>by
  unfold lend at h;split at h
  .rename_i c' e l' hl;simp only[Wr,Wx]at h;obtain⟨rfl,rfl,rfl,rfl⟩:=h;exact(snap_rep I hM hl hc hF hr).mono (MLe.refl _) (BLe.zero _)
  simp_all
 |.any,d',ls,ls',c,l,h,hc,hF,hp,y,hr=>by
  unfold lend at h;split at h
  .rename_i c' e l' hl;simp only[Wr,Wx]at h;obtain⟨rfl,rfl,rfl,rfl⟩:=h;exact(snap_rep I hM hl hc hF hr).mono (MLe.refl _) (BLe.zero _)
  simp_all
 |.v x,d',ls,ls',c,l,h,hc,hF,hp,y,hr=>by
  unfold lend at h;split at h
  .rename_i c' e l' hl;simp only[Wr,Wx]at h;obtain⟨rfl,rfl,rfl,rfl⟩:=h;exact(snap_rep I hM hl hc hF hr).mono (MLe.refl _) (BLe.zero _)
  simp_all
 |.nsl,d',ls,ls',c,l,h,hc,hF,hp,y,hr=>by
  unfold lend at h;split at h
  .rename_i c' e l' hl;simp only[Wr,Wx]at h;obtain⟨rfl,rfl,rfl,rfl⟩:=h;exact(snap_rep I hM hl hc hF hr).mono (MLe.refl _) (BLe.zero _)
  simp_all
 |.isl E z es,d',ls,ls',c,l,h,hc,hF,hp,y,hr=>by
  unfold lend at h;split at h
  .rename_i c' e l' hl;simp only[Wr,Wx]at h;obtain⟨rfl,rfl,rfl,rfl⟩:=h;exact(snap_rep I hM hl hc hF hr).mono (MLe.refl _) (BLe.zero _)
  simp_all
 |.ipt z cs k,d',ls,ls',c,l,h,hc,hF,hp,y,hr=>by
  unfold lend at h;split at h
  .rename_i c' e l' hl;simp only[Wr,Wx]at h;obtain⟨rfl,rfl,rfl,rfl⟩:=h;exact(snap_rep I hM hl hc hF hr).mono (MLe.refl _) (BLe.zero _)
  simp_all
 |.fsl E z es,d',ls,ls',c,l,h,hc,hF,hp,y,hr=>by simp_all[Rep]
 |.fmp k ks vs,d',ls,ls',c,l,h,hc,hF,hp,y,hr=>by simp_all[Rep]
 |.omp id ver,d',ls,ls',c,l,h,hc,hF,hp,y,hr=>by simp_all[lend,snap]
def KD(I:UO P C s U M β w)(hM:MLe M M'){lsF:List Nat}{lbF:List (Nat×Nat)}(hL:Xei s β lsF lbF):∀{ds ds':List D}{ls ls':List Nat}{c:Prop}{l:List Nat},Zp s ls ds=some (c,ds',ls',l)->c->Frz s M' β w l->ls' <+:lsF ->
 ∀{ys:List Value},RepL P M β ds ys->RepL P M' (ZX lbF) ds' ys
 |[],ds',ls,ls',c,l,h,hc,hF,hp,ys,hr=>by simp_all[Zp,Wr,Wx,RepL]
 |d::ds,ds',ls,ls',c,l,h,hc,hF,hp,ys,hr=>by
  unfold Zp at h;split at h
  .rename_i c1 e ls1 l1 h1;split at h
   .rename_i c2 es ls2 l2 h2;obtain⟨rfl,rfl,rfl,rfl⟩:=h;have⟨x,xs,e,hr1,hr2⟩:=hr;exact⟨x,xs,e,lend_rep I hM hL h1 hc.1 (λi hi=>hF i (W0 _ hi)) ((YV h2).trans hp) hr1,KD I hM hL h2 hc.2 (λi hi=>hF i (Ua _ hi)) hp hr2⟩
   cases h
  simp_all
end
end
variable {P:Program}
def KS(s:Heap):List Nat->Option (Prop×List Ob×List Nat)
 |[]=>some (True,[],[])
 |id::ids=>match s id with
  |some (_,.arr true E z [cs] fz)=>match Zt s cs,KS s ids with
   |some (c,ds,l),some (c',obs,l')=>some (c/\c',.arr true E z [ds] fz::obs,l++l')
   |_,_=>none
  |_=>none
def Zu(s:Heap):List Nat->List Ob->Up
 |id::ids,o::os=>match s id with
  |some (v,_)=>(id,v,o)::Zu s ids os
  |none=>Zu s ids os
 |_,_=>[]
section
variable {C:Cx}{s:Heap}{U:Nat->Prop}{M M':Mem}{β:Loc}{w w':World}
def XaH{lz:List Nat}(I:UO P C s U M β w)(hM:MLe M M')(I':UO P C (frz s lz) U M' β w)(hFz:Frz s M' β w lz):∀{ids:List Nat}{c:Prop}{obs:List Ob}{l:List Nat}{lb:List (Nat×Nat)},KS s ids=some (c,obs,l)->c->(∀x∈l,x∈lz)->Xei s β ids lb->lb.length=ids.length ->
 obs.length=ids.length/\∀(k:Nat)ob x,obs[k]? = some ob->lb[k]? = some x->ObRep P M' Yt w (some x) ob/\ob.bx=true
 |[],c,obs,l,lb,h,hc,hl,hL,hlen=>by simp_all[KS,Wr,Wx]
 |id::ids,c,obs,l,lb,h,hc,hl,hL,hlen=>by
  unfold KS at h;split at h
  .rename_i v E z cs fz hs;split at h
   .rename_i c1 ds l1 c2 obs2 l2 h1 h2;obtain⟨rfl,rfl,rfl⟩:=h;match lb,hlen with
    |x0::lb,hlen=>
     have hL2:Xei s β ids lb:=λj i hj=>by simpa using hL (j+1) i (by simpa using hj)
     have⟨g1,g2⟩:=XaH I hM I' hFz h2 hc.2 (λx hx=>hl x (Ua _ hx)) hL2 (by simpa using hlen);refine⟨by simp[g1],λk ob x hk hx=>?_⟩;cases k with
     |succ k=>exact g2 k ob x (by exact hk) (by exact hx)
     |zero=>
      simp at hk hx;subst hk;subst hx;refine⟨?_,rfl⟩;have⟨v',E',z',cs',fz',x,hs',hx',hb⟩:=hL 0 id ab;simp at hx';subst hx';rw[hs]at hs';obtain⟨rfl,_⟩:v=v'/\_:=by simpa using hs'
      have hsf:frz s lz id=some (v,.arr true E z [cs] fz):=by
       unfold frz;split
       .rw[hs];rfl
       exact hs
      have⟨x1,hx1,hob⟩:=I'.obs id v _ hsf;rw[hb]at hx1;obtain rfl:x0=x1:=by simpa using hx1
      have⟨b,cb⟩:=x0;have⟨y,T,k1,k2,k3,k4,k5,k6,k7,k8,k9,k10⟩:=hob;have⟨x2,hx2,hob2⟩:=I.obs id v _ hs;rw[hb]at hx2;obtain rfl:some (b,cb)=x2:=by simpa using hx2
      have⟨y2,T2,j1,j2,j3,j4,j5,j6,j7,j8,j9,j10⟩:=hob2;rw[k1]at j1;have⟨rfl,rfl⟩:y=y2/\T=T2:=by simpa using j1
      have hcsl:RepL P M β cs (y.toList.take cs.length):=by
       have hle:cs.length<=y.size:=by have:=k3 cs ab;have:z<=cb*z:=Nat.le_mul_of_pos_left _ (by simp at k4;omega);omega
       refine RepL.of ah λi d x hd hx=>?_;obtain⟨u,hu,hru⟩:=j10 i d (by simpa using hd);rw[Uk]at hx;split at hx
       .rw[UN,hu]at hx;obtain rfl:u=x:=by simpa using hx
        exact hru
       cases hx
      have hds:=Z3 I hM h1 hc.1 (λi hi=>hFz i (hl i (W0 _ hi))) hcsl;have hdl:ds.length=cs.length:=by rw[←hds.length,hcsl.length]
      refine⟨y,T,k1,k2,?_,by exact k4,by exact k5,by exact k6,by exact k7,k8,k9,λi d hd=>?_⟩
      .intro e he;simp at he;subst he;rw[hdl];exact k3 cs ab
      have hd':ds[i]? = some d:=by simpa using hd
      have⟨u,hu,hru⟩:=hds.get i d hd';rw[Uk]at hu;split at hu
      .exact⟨u,by simpa using hu,hru⟩
      cases hu
   cases h
  simp_all
def XbZ(s0:Heap):∀(ids:List Nat)(obs:List Ob)(s:Heap)(i:Nat),ids.Nodup->(∀id∈ids,∃v o,s0 id=some (v,o))->obs.length=ids.length ->
 (i∉ids->app s (Zu s0 ids obs) i=s i)/\∀(j:Nat)o,ids[j]? = some i->obs[j]? = some o->∀v o',s0 i=some (v,o')->app s (Zu s0 ids obs) i=some (v,o)
 |[],obs,s,i,_,_,_=>by simp[Zu,app]
 |id::ids,o::obs,s,i,hnd,hall,hlen=>by
  have⟨v,o0,hs⟩:=hall id ab;simp at hnd;have hu:app s (Zu s0 (id::ids) (o::obs))=app (upd s id (some (v,o))) (Zu s0 ids obs):=by simp only[Zu,hs];rfl
  have⟨g1,g2⟩:=XbZ s0 ids obs (upd s id (some (v,o))) i hnd.2 (λx hx=>hall x (by grind)) (by simp_all);rw[hu];refine⟨λhi=>?_,λj o' hj ho v' o'' hs'=>?_⟩
  .simp_all[UY,not_or,g1,hi,Yb]
  cases j with
  |zero=>simp_all[hs,g1,hnd,YB]
  |succ j=>grind
def UO.called(I:UO P C s U M β w){ids:List Nat}{lb:List (Nat×Nat)}(hB:XbY s ids)(hL:Xei s β ids lb)(hlb:lb.length=ids.length)(hK:Kp w (lb.map (·.1)) w')(hmem:MemOK M' w')(hold:∀b o,b<w.heap.size->M' b o=M b o){obs:List Ob}(hlo:obs.length=ids.length)(hobs:∀(k:Nat)ob x,obs[k]? = some ob->lb[k]? = some x->ObRep P M' Yt w' (some x) ob/\ob.bx=true):
 UO P C (app s (Zu s ids obs)) U M' β w'/\MLe M M':=by
 have hMle:MLe M M':=λb o x hx=>by rw[hold b o (I.mem.lt hx)];omega
 have hall:∀id∈ids,∃v o,s id=some (v,o):=λid hid=>by have⟨v,E,z,cs,fz,h⟩:=hB.2 id hid;simp_all
 have hsv:∀id v ob,app s (Zu s ids obs) id=some (v,ob)->(id∉ids/\s id=some (v,ob))\/∃(j:Nat) (x:Nat×Nat) (ob0:Ob),ids[j]? = some id/\lb[j]? = some x/\obs[j]? = some ob/\s id=some (v,ob0)/\ob0.bx=true/\β id v=some (some x):=by
  intro id v ob h;obtain⟨g1,g2⟩:=XbZ s ids obs s id hB.1 hall hlo;by_cases hid:id∈ids
  .right;obtain⟨j,hj,rfl⟩:=WM hid;have⟨v',E,z,cs,fz,x,hs,hx,hb⟩:=hL j _ (Wb hj);have ho:obs[j]? = some (obs[j]'aa):=Wb aa;have:=g2 j _ ab ho v' _ hs;have⟨rfl,rfl⟩:v'=v/\obs[j]'aa=ob:=by simp_all
   exact⟨j,x,_,Wb hj,hx,ho,hs,rfl,hb⟩
  simp_all
 have hnot:∀id v ob b cb,id∉ids->s id=some (v,ob)->β id v=some (some (b,cb))->b∉lb.map (·.1):=by
  intro id v ob b cb hid hs hb hm;rw[UW]at hm;obtain⟨x,hx,rfl⟩:=hm;obtain⟨j,hj,rfl⟩:=WM hx;obtain⟨v',E,z,cs,fz,x',hs',hx',hb'⟩:=hL j (ids[j]'aa) ab;have:lb[j]=x':=by rw[Wb hj]at hx';simpa using hx'
  have hid':=I.inj id v ob (ids[j]'aa) v' _ _ cb x'.2 hs hs' (by rw[hb]) (by simp_all);exact hid (hid'▸WN _)
 refine⟨?_,hMle⟩;constructor
 .omega
 .exact I.used
 .intro id v ob hs;rcases hsv id v ob hs with⟨hid,hs⟩|⟨j,x,ob0,hj,hx,ho,hs,_,hb⟩
  .have⟨x,hx,hr⟩:=I.obs id v ob hs;refine⟨x,hx,hr.mono hMle (BLe.refl _) ?_ ?_⟩
   .rintro b cb rfl;exact hK.block b hr.lt (hnot id v ob b cb hid hs hx)
   rintro b cb rfl o;exact hold b o hr.lt
  have⟨g1,g2⟩:=hobs j ob x ho hx;exact⟨some x,hb,g1.mono (MLe.refl _) (BLe.zero _) (λ_ _ _=>rfl) (λ_ _ _ _=>rfl)⟩
 .intro id v ob b cb hs hb;rcases hsv id v ob hs with⟨hid,hs⟩|⟨j,x,ob0,hj,hx,ho,hs,hbx,hb'⟩
  .exact I.own id v ob b cb hs hb
  rcases I.own id v ob0 b cb hs hb with h|h
  .exact .inl h
  grind
 .intro id v ob id' v' ob' b cb cb' hs hs' hb hb';have h1:∃o,s id=some (v,o):=by rcases hsv id v ob hs with⟨_,hs⟩|⟨_,_,o,_,_,_,hs,_⟩<;>exact⟨_,hs⟩
  have h2:∃o,s id'=some (v',o):=by rcases hsv id' v' ob' hs' with⟨_,hs⟩|⟨_,_,o,_,_,_,hs,_⟩<;>exact⟨_,hs⟩
  have⟨o1,h1⟩:=h1;have⟨o2,h2⟩:=h2;exact I.inj id v o1 id' v' o2 b cb cb' h1 h2 hb hb'
 .refine⟨hK.os.trans I.keep.os,hK.tape.trans I.keep.tape,hK.output.trans I.keep.output,Um I.keep.size hK.size,λk hk hl=>?_⟩;rw[←I.keep.block k hk hl];refine hK.block k (IB hk I.keep.size) λhm=>?_;rw[UW]at hm;obtain⟨x,hx,rfl⟩:=hm;obtain⟨j,hj,rfl⟩:=WM hx;have⟨v',E,z,cs,fz,x',hs',hx',hb'⟩:=hL j (ids[j]'aa) ab;have hx2:lb[j]=x':=by rw[Wb hj]at hx';simpa using hx'
  rcases I.own _ v' _ lb[j].1 x'.2 hs' (by rw[hb',hx2])with h|h
  .omega
  simp_all
 .intro b o hb;rw[hold b o (IB hb I.keep.size)];exact I.old b o hb
 .exact I.le.trans hMle
 exact I.glob
end
variable {P:Program}
mutual
def fits:D->D->Prop
 |.nsl,.isl _ _ es=>es=[]
 |.agg cs,.agg ds=>ZH cs ds
 |.tup cs,.tup ds=>ZH cs ds
 |.clo fn a b,.clo fn' a' b'=>fn=fn'/\ZH a a'/\ZH b b'
 |.ifc t d,.ifc t' d'=>t=t'/\fits d d'
 |d,e=>d=e
def ZH:List D->List D->Prop
 |[],[]=>True
 |d::ds,e::es=>fits d e/\ZH ds es
 |_,_=>False
end
mutual
def fits_rep{M:Mem}{β:Loc}:∀{d e:D}{y:Value},fits d e->Rep P M β d y->Rep P M β e y
 |.nsl,e,y,h,hr=>by
  cases e<;>simp only[fits,reduceCtorEq]at h<;>try (first|exact hr|(exact h.elim))
  grind[Rep,Xp]
 |.agg cs,e,y,h,hr=>by cases e<;>simp only[fits,reduceCtorEq]at h;have⟨vs,e,hr⟩:=hr;exact⟨vs,e,KF h hr⟩
 |.tup cs,e,y,h,hr=>by cases e<;>simp only[fits,reduceCtorEq]at h;have⟨vs,e,hr⟩:=hr;exact⟨vs,e,KF h hr⟩
 |.clo fn a b,e,y,h,hr=>by cases e<;>simp only[fits,reduceCtorEq]at h;have⟨rfl,h1,h2⟩:=h;have⟨va,vb,e,hr1,hr2⟩:=hr;exact⟨va,vb,e,KF h1 hr1,KF h2 hr2⟩
 |.ifc t d,e,y,h,hr=>by cases e<;>simp only[fits,reduceCtorEq]at h;have⟨rfl,h1⟩:=h;have⟨x,e,hr⟩:=hr;exact⟨x,e,fits_rep h1 hr⟩
 |.any,e,y,h,hr=>by simp_all[fits]
 |.v x,e,y,h,hr=>by simp_all[fits]
 |.isl a b c,e,y,h,hr=>by simp_all[fits]
 |.osl a b c d f,e,y,h,hr=>by simp_all[fits]
 |.ept a b c d f,e,y,h,hr=>by simp_all[fits]
 |.ipt a b c,e,y,h,hr=>by simp_all[fits]
 |.fsl a b c,e,y,h,hr=>by simp_all[Rep]
 |.fmp a b c,e,y,h,hr=>by simp_all[Rep]
 |.omp a b,e,y,h,hr=>by simp_all[fits]
def KF{M:Mem}{β:Loc}:∀{ds es:List D}{ys:List Value},ZH ds es->RepL P M β ds ys->RepL P M β es ys
 |[],es,ys,h,hr=>by grind[ZH]
 |d::ds,es,ys,h,hr=>by cases es<;>simp only[ZH]at h;have⟨x,xs,e,h1,h2⟩:=hr;exact⟨x,xs,e,fits_rep h.1 h1,KF h.2 h2⟩
end
mutual
def scal:D->Bool
 |.any=>true
 |.v _=>true
 |.agg cs=>Jj cs
 |.tup cs=>Jj cs
 |_=>false
def Jj:List D->Bool
 |[]=>true
 |d::ds=>scal d&&Jj ds
end
mutual
def scal_rep{M M':Mem}{w:World}{B:Nat}(β:Loc)(ver n:Nat):∀{d:D}{y:Value}{l:List (Option (Nat×Nat))},scal d=true->FrRep P M w B d y l->l=[]/\Rep P M' β d y/\imp ver n d=(d,n,[])
 |.any,y,l,_,hr=>by simp_all[FrRep,Rep,imp]
 |.v x,y,l,_,hr=>by simp_all[FrRep,Rep,imp]
 |.agg cs,y,l,hs,hr=>by have⟨vs,e,hr⟩:=hr;have⟨h1,h2,h3⟩:=XaI (M':=M') β ver n hs hr;simp_all[Rep,imp,h3]
 |.tup cs,y,l,hs,hr=>by have⟨vs,e,hr⟩:=hr;have⟨h1,h2,h3⟩:=XaI (M':=M') β ver n hs hr;simp_all[Rep,imp,h3]
 |.nsl,y,l,hs,hr=>by simp_all[scal]
 |.isl ..,y,l,hs,hr=>by simp_all[scal]
 |.osl ..,y,l,hs,hr=>by simp_all[scal]
 |.ept ..,y,l,hs,hr=>by simp_all[scal]
 |.ipt ..,y,l,hs,hr=>by simp_all[scal]
 |.clo ..,y,l,hs,hr=>by simp_all[scal]
 |.ifc ..,y,l,hs,hr=>by simp_all[scal]
 |.fsl ..,y,l,hs,hr=>by simp_all[scal]
 |.fmp ..,y,l,hs,hr=>by simp_all[scal]
 |.omp ..,y,l,hs,hr=>by simp_all[scal]
def XaI{M M':Mem}{w:World}{B:Nat}(β:Loc)(ver n:Nat):∀{ds:List D}{ys:List Value}{l:List (Option (Nat×Nat))},Jj ds=true->FrRepL P M w B ds ys l->l=[]/\RepL P M' β ds ys/\JW ver n ds=(ds,n,[])
 |[],ys,l,_,hr=>by simp_all[FrRepL,RepL,hr,JW]
 |d::ds,ys,l,hs,hr=>by simp only[Jj,W5]at hs;obtain⟨x,xs,l1,l2,e,rfl,h1,h2⟩:=hr;obtain⟨rfl,h3,h4⟩:=scal_rep (M':=M') β ver n hs.1 h1;obtain⟨rfl,h5,h6⟩:=XaI (M':=M') β ver n hs.2 h2;exact⟨rfl,by grind[RepL],by simp[JW,h4,h6,U1]⟩
end
mutual
def FrRep.ge{M:Mem}{w:World}{B:Nat}:∀{d:D}{y:Value}{l:List (Option (Nat×Nat))},FrRep P M w B d y l->∀b∈XV l,B<=b
 |.fsl E z es,y,l,hr=>by
  rcases hr with⟨rfl,_⟩|⟨b,cb,o,rfl,hb,_⟩
  .simp[XV]
  simp[XV,hb]
 |.fmp k ks vs,y,l,hr=>by obtain⟨b,rfl,hb,_⟩:=hr;simp[XV,hb]
 |.agg cs,y,l,hr=>by have⟨vs,_,hr⟩:=hr;exact FrRepL.ge hr
 |.tup cs,y,l,hr=>by have⟨vs,_,hr⟩:=hr;exact FrRepL.ge hr
 |.ifc t d,y,l,hr=>by have⟨vs,_,hr⟩:=hr;exact FrRep.ge hr
 |.clo fn a b,y,l,hr=>by
  obtain⟨va,vb,_,l1,l2,rfl,h1,h2⟩:=hr;intro b hb;rw[X4,WG]at hb;rcases hb with hb|hb
  .exact FrRepL.ge h1 b hb
  exact FrRepL.ge h2 b hb
 |.any,y,l,hr=>by simp_all[FrRep,XV]
 |.v _,y,l,hr=>by simp_all[FrRep,hr,XV]
 |.nsl,y,l,hr=>by simp_all[FrRep,hr,XV]
 |.isl ..,y,l,hr=>by simp_all[FrRep,hr,XV]
 |.ipt ..,y,l,hr=>by simp_all[FrRep,hr,XV]
 |.osl ..,y,l,hr=>by simp_all[FrRep]
 |.ept ..,y,l,hr=>by simp_all[FrRep]
 |.omp ..,y,l,hr=>by simp_all[FrRep]
def FrRepL.ge{M:Mem}{w:World}{B:Nat}:∀{ds:List D}{ys:List Value}{l:List (Option (Nat×Nat))},FrRepL P M w B ds ys l->∀b∈XV l,B<=b
 |[],ys,l,hr=>by simp_all[FrRepL,hr,XV]
 |d::ds,ys,l,hr=>by
  obtain⟨x,xs,l1,l2,_,rfl,h1,h2⟩:=hr;intro b hb;rw[X4,WG]at hb;rcases hb with hb|hb
  .exact FrRep.ge h1 b hb
  exact FrRepL.ge h2 b hb
end
def YY(s:Heap)(args:List D):Option (Prop×List D×List Nat×List Ob×List Nat):=
 match Zp s [] args with
 |some (c,as,ids,l1)=>match KS s ids with
  |some (c',obs,l2)=>some (c/\c',as,ids,obs,l1++l2)
  |none=>none
 |none=>none
def J7:Ob->Bool
 |.arr true _ _ es 0=>es.all Jj
 |_=>false
mutual
def scalR{M M':Mem}{β β':Loc}:∀{d:D}{y:Value},scal d=true->Rep P M β d y->Rep P M' β' d y
 |.any,y,_,_=>by simp[Rep]
 |.v x,y,_,h=>by assumption
 |.agg cs,y,hs,h=>by have⟨vs,e,h⟩:=h;exact⟨vs,e,Xgx hs h⟩
 |.tup cs,y,hs,h=>by have⟨vs,e,h⟩:=h;exact⟨vs,e,Xgx hs h⟩
 |.nsl,_,hs,_=>by assumption
 |.isl ..,_,hs,_=>by simp_all[scal]
 |.osl ..,_,hs,_=>by simp_all[scal]
 |.ept ..,_,hs,_=>by simp_all[scal]
 |.ipt ..,_,hs,_=>by simp_all[scal]
 |.clo ..,_,hs,_=>by simp_all[scal]
 |.ifc ..,_,hs,_=>by simp_all[scal]
 |.fsl ..,_,hs,_=>by assumption
 |.fmp ..,_,hs,_=>by assumption
 |.omp ..,_,hs,_=>by simp_all[scal]
def Xgx{M M':Mem}{β β':Loc}:∀{ds:List D}{ys:List Value},Jj ds=true->RepL P M β ds ys->RepL P M' β' ds ys
 |[],ys,_,h=>by assumption
 |d::ds,ys,hs,h=>by simp only[Jj,W5]at hs;have⟨x,xs,e,h1,h2⟩:=h;exact⟨x,xs,e,scalR hs.1 h1,Xgx hs.2 h2⟩
end
def Xdo:∀{ds:List D},Jj ds=true->∀d∈ds,scal d=true
 |[],_,d,h=>by grind
 |e::ds,hs,d,h=>by
  simp only[Jj,W5]at hs;rcases UY.1 h with rfl|h
  .simp_all
  exact Xdo hs.2 d h
def XiF{M M':Mem}{w:World}{x:Nat×Nat}:∀{ob:Ob},J7 ob=true->(∀b o y,M b o=some y->M' b o=some y)->ObRep P M' Yt w (some x) ob->ObRep P M Yt w (some x) ob
 |.mp ..,hs,_,_=>by simp_all[J7]
 |.raw _,hs,_,_=>by simp_all[J7]
 |.arr false ..,hs,_,_=>by simp_all[J7]
 |.arr true E z es (n+1),hs,_,_=>by simp_all[J7]
 |.arr true E z es 0,hs,hle,h=>by
  have⟨b,cb⟩:=x;simp only[J7,Ud]at hs;have⟨cs,T,k1,k2,k3,k4,k5,k6,k7,k8,k9,k10⟩:=h;refine⟨cs,T,k1,k2,k3,k4,k5,k6,k7,k8,λo=>?_,λi d hd=>?_⟩
  .have h9:=k9 o;rw[Wn aa]at h9⊢;cases hM:M b o with
   |none=>rfl
   |some y=>simp_all
  have⟨y,hy,hr⟩:=k10 i d hd;have⟨e,he,hde⟩:=List.mem_flatten.1 (Uh hd);exact⟨y,hy,scalR (Xdo (hs e he) d hde) hr⟩
def KG(s:Heap)(ids fz:List Nat)(r:D)(ls:List Ob)(ver n:Nat):D×Heap:=
 let s1:=if scal r&&ls.all J7 then s else frz s fz
 let s2:=app s1 (Zu s ids ls)
 let q:=imp ver n r
 (q.1,app s2 q.2.2)
section
variable {C:Cx}{s:Heap}{U:Nat->Prop}{M:Mem}{β:Loc}{w:World}{ver:Nat}
def XaJ(s:Heap)(fz:List Nat):∀(ids:List Nat)(obs:List Ob),(∀id∈ids,∃v o,s id=some (v,o))->Zu (frz s fz) ids obs=Zu s ids obs
 |[],_,_=>rfl
 |id::ids,[],_=>rfl
 |id::ids,o::obs,h=>by
  have⟨v,o0,hs⟩:=h id ab;have ih:=XaJ s fz ids obs λx hx=>h x (by simp[hx]);have hv:∃o',frz s fz id=some (v,o'):=by
   unfold frz;split
   .rw[hs];cases o0 with
    |mp _=>exact⟨_,rfl⟩
    |raw _=>exact⟨_,rfl⟩
    |arr bx E z es f=>cases bx<;>exact⟨_,rfl⟩
   exact⟨_,hs⟩
  have⟨o',hv⟩:=hv;simp[Zu,hv,hs,ih]
def Xhz(I:UO P C s U M β w)(hv:¬U ver){f:FuncId}{args eargs:List D}{vs:List Value}(hr:RepL P M β args vs){c:Prop}{as:List D}{ids:List Nat}{obs:List Ob}{fz:List Nat}(h:YY s args=some (c,as,ids,obs,fz))(hc:c)(hfit:ZH as eargs){R:D->List Ob->Prop}(hA:YK P C.G f eargs obs R)(n:Nat):
 Calls P f ⟨vs⟩ w λe w'=>∃v r ls M' β',e=.returned v/\R r ls/\UO P C (KG s ids fz r ls ver n).2 (λx=>U x\/x=ver) M' β' w'/\Rep P M' β' (KG s ids fz r ls ver n).1 v/\MLe M M'/\BLe β β':=by
 unfold YY at h;split at h
 .rename_i c1 as' ids' l1 hl;split at h
  .rename_i c2 obs' l2 ho;simp only[Wr,Wx]at h;have⟨rfl,rfl,rfl,rfl,rfl⟩:=h;have⟨M1,I1,hM1,hF⟩:=I.freeze (l1++l2);have hboxes:XbY s ids':=YS hl ⟨ab,ab⟩;have hlb:∃lb:List (Nat×Nat),lb.length=ids'.length/\Xei s β ids' lb:=by
    have:∀l:List Nat,(∀id∈l,∃v E z cs fz,s id=some (v,.arr true E z [cs] fz))->∃lb:List (Nat×Nat),lb.length=l.length/\Xei s β l lb:=by
     intro l;induction l with
     |nil=>intro _;exact⟨[],rfl,λj id h=>by simp at h⟩
     |cons id l ih=>
      intro hall;obtain⟨lb,h1,h2⟩:=ih λx hx=>hall x (by simp[hx]);obtain⟨v,E,z,cs,fz,hs⟩:=hall id ab;obtain⟨x,hx,hob⟩:=I.obs id v _ hs;cases x with
      |none=>simp[ObRep]at hob
      |some x=>
       refine⟨x::lb,by simp[h1],λj i hj=>?_⟩;cases j with
       |zero=>simp at hj;subst hj;exact⟨v,E,z,cs,fz,x,hs,ab,hx⟩
       |succ j=>simpa using h2 j i (by simpa using hj)
    exact this ids' hboxes.2
   have⟨lb,hlen,hL⟩:=hlb;have hargs:=KF hfit (KD I hM1 hL hl hc.1 (λi hi=>hF i (W0 _ hi)) (List.prefix_refl _) hr);have⟨g1,g2⟩:=XaH I hM1 I1 hF ho hc.2 (λx hx=>Ua _ hx) hL hlen;have hnd:(lb.map (·.1)).Nodup:=by
    rw[List.nodup_iff_pairwise_ne,UH];intro i j hi0 hj0 hij he;simp only[W4]at hi0 hj0;have hii:i<lb.length:=aa;have hj:j<lb.length:=aa;simp only[List.getElem_map]at he;obtain⟨v,E,z,cs,fz,x,hs,hx,hb⟩:=hL i (ids'[i]'aa) ab;obtain⟨v',E',z',cs',fz',x',hs',hx',hb'⟩:=hL j (ids'[j]'aa) ab;have e1:lb[i]=x:=by simpa [hii]using hx
    have e2:lb[j]=x':=by simpa [hj]using hx'
    have hid:=I.inj _ v _ _ v' _ x.1 x.2 x'.2 hs hs' hb (by rw[hb',←e2,←e1,he]);have:=(UH.1 (List.nodup_iff_pairwise_ne.1 hboxes.1)) i j aa aa hij;exact this hid
   refine(hA.2 M1 w vs lb I1.mem (λg cs hg=>RepC.mono I1.le (I1.glob g cs hg)) (by rw[hlen,g1]) hnd g2 hargs).mono ?_;rintro e w' ⟨v,r,ls,M',l,rfl,hR,hK,hmem,hold,hls,hobs,hfr,hndl⟩;refine⟨v,r,ls,?_⟩;have hlsn:ls.length=ids'.length:=by rw[hls,hlen]
   have hall:∀id∈ids',∃v o,s id=some (v,o):=λid hid=>by have⟨v,E,z,cs,fz,h⟩:=hboxes.2 id hid;exact⟨_,_,h⟩
   have hold0:∀b o x,M b o=some x->M' b o=some x:=λb o x hx=>by rw[hold b o (I.mem.lt hx)];exact hM1 _ _ _ hx
   unfold KG;by_cases hsc:(scal r&&ls.all J7)=true
   .simp only[hsc,if_true];simp only[W5]at hsc;have⟨hsc1,hso⟩:=hsc;have⟨rfl,hrv,himp⟩:=scal_rep (M':=M) β ver n hsc1 hfr;have⟨I2,_⟩:=I.called (ids:=ids') (lb:=lb) (M':=M) (w':=w') (obs:=ls) hboxes hL hlen hK (λb o x hx=>hmem b o x (hold0 b o x hx)) (λ_ _ _=>rfl) hlsn (λk ob x h1 h2=>by
     obtain⟨g3,g4⟩:=hobs k ob x h1 h2
     exact⟨XiF (Ud.1 hso ob (Uh h1)) hold0 g3,g4⟩)
    refine⟨M,β,trivial,hR,?_,?_,MLe.refl _,BLe.refl _⟩
    .rw[himp];exact I2.mono λ_ h=>.inl h
    rw[himp];exact hrv
   simp only[hsc,U4,if_false];have hB1:XbY (frz s (l1++l2)) ids':=⟨hboxes.1,λid hid=>by
    obtain⟨v,E,z,cs,fz,hs⟩:=hboxes.2 id hid
    refine⟨v,E,z,cs,fz,?_⟩
    unfold frz
    split
    .rw[hs];rfl
    .exact hs⟩
   have hL1:Xei (frz s (l1++l2)) β ids' lb:=λj id hj=>by
    obtain⟨v,E,z,cs,fz,x,hs,hx,hb⟩:=hL j id hj;refine⟨v,E,z,cs,fz,x,?_,hx,hb⟩;unfold frz;split
    .rw[hs];rfl
    exact hs
   have⟨I2,hM2⟩:=I1.called hB1 hL1 hlen hK hmem hold hlsn hobs;rw[XaJ s _ ids' ls hall]at I2;have hfree:Xgw (app (frz s (l1++l2)) (Zu s ids' ls)) β (XV l):=by
    intro b hb id v' ob cb hs hx;have hge:=FrRep.ge hfr b hb;have h1:∃o,frz s (l1++l2) id=some (v',o):=by
     obtain⟨q1,q2⟩:=XbZ (frz s (l1++l2)) ids' ls (frz s (l1++l2)) id hB1.1 (λi hi=>by
      obtain⟨v,E,z,cs,fz,h⟩:=hB1.2 i hi
      exact⟨_,_,h⟩) hlsn
     rw[XaJ s _ ids' ls hall]at q1 q2;by_cases hid:id∈ids'
     .obtain⟨j,hj,rfl⟩:=WM hid;obtain⟨v2,E,z,cs,fz,h⟩:=hB1.2 _ hid;have:=q2 j (ls[j]'aa) ab ab v2 _ h;rw[this]at hs;obtain⟨rfl,_⟩:v2=v'/\_:=by simpa using hs
      exact⟨_,h⟩
     rw[q1 hid]at hs;exact⟨_,hs⟩
    obtain⟨o,h1⟩:=h1;obtain⟨x,hx1,hob⟩:=I1.obs id v' o h1;rw[hx]at hx1;obtain rfl:some (b,cb)=x:=by simpa using hx1
    have:=hob.lt;omega
   have⟨β',h1,h2⟩:=imp_ok (C:=C) (ver:=ver) (B:=w.heap.size) I.keep.size r v l n I2 (λi _=>I2.fresh hv i) hfr hndl hfree;exact⟨M',β',trivial,hR,h1.inv,h2,hM1.trans hM2,h1.le⟩
  cases h
 simp_all
def Xm2(I:UO P C s U M β w){f:FuncId}{eargs:List D}{vs:List Value}{M1:Mem}(hM1:MLe M M1)(hm1:MemOK M1 w)(hargs:RepL P M1 Yt eargs vs){R:D->List Ob->Prop}(hA:YK P C.G f eargs [] R)(hsc:∀r ls,R r ls->scal r=true):
 Calls P f ⟨vs⟩ w λe w'=>∃v r ls,e=.returned v/\R r ls/\UO P C s U M β w'/\Rep P M β r v:=by
 refine(hA.2 M1 w vs [] hm1 (λg cs hg=>RepC.mono (I.le.trans hM1) (I.glob g cs hg)) rfl ab (λk ob x h=>ab) (hargs.mono (MLe.refl _) (BLe.zero _))).mono ?_;rintro e w' ⟨v,r,ls,M',l,rfl,hR,hK,hmem,hold,hls,hobs,hfr,hndl⟩;have hold0:∀b o x,M b o=some x->M' b o=some x:=λb o x hx=>by rw[hold b o (I.mem.lt hx)];exact hM1 _ _ _ hx
 have⟨rfl,hrv,_⟩:=scal_rep (M':=M) β 0 0 (hsc r ls hR) hfr;have⟨I2,_⟩:=I.called (ids:=[]) (lb:=[]) (M':=M) (w':=w') (obs:=[]) ⟨ab,ab⟩ (λj id h=>by grind) rfl hK (λb o x hx=>hmem b o x (hold0 b o x hx)) (λ_ _ _=>rfl) rfl (λk ob x h=>ab);exact⟨v,r,ls,rfl,hR,I2,hrv⟩
end
variable {P:Program}
def HLe(s s':Heap):Prop:=∀i x,s i=some x->s' i=some x
section
variable {s s':Heap}
mutual
def snap_le(hs:HLe s s'):∀{d:D}{r},snap s d=some r->snap s' d=some r
 |.osl id ver z off len,r,h=>by
  unfold snap at h⊢;split at h
  .rename_i ver' E z' es f he;rw[hs _ _ he];exact h
  simp_all
 |.agg cs,r,h=>by
  unfold snap at h⊢;split at h
  .rename_i c ds l he;rw[KT hs he];exact h
  simp_all
 |.tup cs,r,h=>by
  unfold snap at h⊢;split at h
  .rename_i c ds l he;rw[KT hs he];exact h
  simp_all
 |.clo fn a b,r,h=>by
  unfold snap at h⊢;split at h
  .rename_i he hf;rw[KT hs he,KT hs hf];exact h
  simp_all
 |.ifc t d,r,h=>by
  unfold snap at h⊢;split at h
  .rename_i he;rw[snap_le hs he];exact h
  simp_all
 |.any,r,h=>by assumption
 |.v _,r,h=>by assumption
 |.nsl,r,h=>by assumption
 |.isl ..,r,h=>by assumption
 |.ipt ..,r,h=>by assumption
 |.ept ..,r,h=>by assumption
 |.fsl ..,r,h=>by assumption
 |.fmp ..,r,h=>by assumption
 |.omp ..,r,h=>by assumption
def KT(hs:HLe s s'):∀{ds:List D}{r},Zt s ds=some r->Zt s' ds=some r
 |[],r,h=>by assumption
 |d::ds,r,h=>by
  unfold Zt at h⊢;split at h
  .rename_i he hf;rw[snap_le hs he,KT hs hf];exact h
  simp_all
end
def Xfe(hs:HLe s s'):∀{ds:List (Nat×D)}{r},J0 s ds=some r->J0 s' ds=some r
 |[],r,h=>by assumption
 |(i,d)::ds,r,h=>by
  unfold J0 at h⊢;split at h
  .rename_i he hf;rw[snap_le hs he,Xfe hs hf];exact h
  simp_all
def Has(s:Heap)(l:List Nat):Prop:=∀i∈l,∃x,s i=some x
def Xad(hs:HLe s s'):∀{l:List Nat},Has s l->V8 s' l=V8 s l
 |[],_=>rfl
 |i::l,h=>by have⟨x,hx⟩:=h i ab;have ih:=Xad hs (l:=l) (λj hj=>h j (Ul _ hj));simp only[V8,hx,hs _ _ hx,ih]
mutual
def snap_has:∀{d:D}{c e l},snap s d=some (c,e,l)->Has s l
 |.osl id ver z off len,c,e,l,h=>by
  unfold snap at h;split at h
  .rename_i he;split at h
   .obtain⟨_,_,rfl⟩:=h;intro i hi;simp at hi;subst hi;exact⟨_,he⟩
   cases h
  simp_all
 |.agg cs,c,e,l,h=>by
  unfold snap at h;split at h
  .rename_i he;obtain⟨_,_,rfl⟩:=h;exact KH he
  simp_all
 |.tup cs,c,e,l,h=>by
  unfold snap at h;split at h
  .rename_i he;obtain⟨_,_,rfl⟩:=h;exact KH he
  simp_all
 |.clo fn a b,c,e,l,h=>by
  unfold snap at h;split at h
  .rename_i he hf;simp only[Wr,Wx]at h;obtain⟨_,_,rfl⟩:=h;intro i hi;rcases WG.1 hi with hi|hi
   .exact KH he i hi
   exact KH hf i hi
  simp_all
 |.ifc t d,c,e,l,h=>by
  unfold snap at h;split at h
  .rename_i he;simp only[Wr,Wx]at h;obtain⟨_,_,rfl⟩:=h;exact snap_has he
  simp_all
 |.any,c,e,l,h=>by simp[snap]at h;obtain⟨_,_,rfl⟩:=h;intro i hi;simp_all
 |.v _,c,e,l,h=>by simp[snap]at h;obtain⟨_,_,rfl⟩:=h;intro i hi;simp_all
 |.nsl,c,e,l,h=>by simp[snap]at h;obtain⟨_,_,rfl⟩:=h;intro i hi;simp_all
 |.isl ..,c,e,l,h=>by simp[snap]at h;obtain⟨_,_,rfl⟩:=h;intro i hi;simp_all
 |.ipt ..,c,e,l,h=>by simp[snap]at h;obtain⟨_,_,rfl⟩:=h;intro i hi;simp_all
 |.ept ..,c,e,l,h=>by simp_all[snap]
 |.fsl ..,c,e,l,h=>by simp_all[snap]
 |.fmp ..,c,e,l,h=>by simp_all[snap]
 |.omp ..,c,e,l,h=>by simp_all[snap]
def KH:∀{ds:List D}{c es l},Zt s ds=some (c,es,l)->Has s l
 |[],c,es,l,h=>by obtain⟨_,_,rfl⟩:=h;intro i hi;simp_all
 |d::ds,c,es,l,h=>by
  unfold Zt at h;split at h
  .rename_i he hf;obtain⟨_,_,rfl⟩:=h;intro i hi;rcases WG.1 hi with hi|hi
   .exact snap_has he i hi
   exact KH hf i hi
  simp_all
end
def Xdp:∀{ds:List (Nat×D)}{c es l},J0 s ds=some (c,es,l)->Has s l
 |[],c,es,l,h=>by obtain⟨_,_,rfl⟩:=h;intro i hi;simp_all
 |(j,d)::ds,c,es,l,h=>by
  unfold J0 at h;split at h
  .rename_i he hf;obtain⟨_,_,rfl⟩:=h;intro i hi;rcases WG.1 hi with hi|hi
   .exact snap_has he i hi
   exact Xdp hf i hi
  simp_all
def Xm3(hs:HLe s s'){d:D}{r}(h:Xd5 s d=some r):Xd5 s' d=some r:=by
 unfold Xd5 at h⊢;split at h
 .exact h
 .split at h
  .rename_i he;rw[hs _ _ he];exact h
  cases h
 omega
def Xff(hs:HLe s s'){z:Nat}{d:D}{r}(h:elems s z d=some r):elems s' z d=some r:=by
 unfold elems at h⊢;split at h
 .exact h
 .exact h
 .exact h
 .split at h
  .rename_i he;rw[hs _ _ he];exact h
  cases h
 omega
def XhA(hs:HLe s s'){a b E z n:Nat}{c:Prop}{src:List (List D)}{d:D}{r}(h:Xc8 P s a b E z n c src d=some r):Xc8 P s' a b E z n c src d=some r:=by
 unfold Xc8 at h⊢;split at h
 .exact h
 .split at h
  .rename_i he;rw[hs _ _ he];exact h
  cases h
 omega
def XhB(hs:HLe s s'){T:TypeId}{m key x:D}{r}(h:Xgq P s T m key x=some r):Xgq P s' T m key x=some r:=by
 unfold Xgq at h⊢;split at h
 .split at h
  .rename_i h1;rw[hs _ _ h1];split at h
   .rename_i h2;rw[snap_le hs h2];simp only;rw[Xad hs (snap_has h2)];exact h
   cases h
  cases h
 omega
def Xpm(hs:HLe s s'){dst:Option Nat}{ver:Nat}{t:Operand->D}{op:Op}{r}(h:opF P dst ver t s op=some r):opF P dst ver t s' op=some r:=by
 cases op with
 |load T a=>
  simp only[opF]at h⊢;split at h
  .rename_i h1 h2;rw[h1,Xm3 hs h2];exact h
  simp_all
 |store T a x=>
  simp only[opF]at h⊢;split at h
  .split at h
   .rename_i h3;rw[hs _ _ h3];exact h
   .rename_i h3;rw[hs _ _ h3];split at h
    .rename_i h4;simp only[snap_le hs h4];rw[Xad hs (snap_has h4)];exact h
    cases h
   cases h
  omega
 |buildSlice T n parts=>
  simp only[opF]at h⊢;split at h
  .split at h
   .split at h
    .split at h
     .rename_i h4;rw[Wp h4];split at h
      .rename_i h5;simp only[Xfe hs h5];rw[Xad hs (Xdp h5)];exact h
      cases h
     cases h
    cases h
   cases h
  omega
 |mapUpdate T m key x=>exact XhB hs h
 |insert T m key x=>exact XhB hs h
 |lookup T m key ok=>
  simp only[opF]at h⊢;split at h
  .split at h
   .rename_i h4 h5;simp only[hs _ _ h4,h5];exact h
   cases h
  omega
 |call c=>
  have⟨callee,args,types⟩:=c;cases callee with
  |builtin b=>
   cases b<;>first|exact h|skip
   case len=>
    simp only[opF]at h⊢
    split at h
    .split at h
     .exact h
     .exact h
     .exact h
     .exact h
     .split at h
      .rename_i h4 h5
       simp only[h4,hs _ _ h5];exact h
      .cases h
     .cases h
    .cases h
   case clear=>
    simp only[opF]at h⊢
    split at h
    .split at h
     .split at h
      .split at h
       .rename_i h5 h6
        simp only[h5,hs _ _ h6];exact h
       .cases h
      .cases h
     .cases h
    .split at h
     .rename_i h4 h5
      simp only[h4,hs _ _ h5];exact h
     .cases h
    .cases h
   case copy=>
    simp only[opF]at h⊢
    split at h
    .split at h
     .split at h
      .rename_i h4 h5 h6
       simp only[h4,hs _ _ h5,Xff hs h6];exact h
      .cases h
     .cases h
    .cases h
   case delete=>
    simp only[opF]at h⊢
    split at h
    .split at h
     .rename_i h4 h5
      simp only[h4,hs _ _ h5];exact h
     .cases h
    .cases h
   simp only[opF]at h⊢;split at h
   .split at h
    .split at h
     .split at h
      .split at h
       .rename_i h6;rw[Wp h6];split at h
        .split at h
         .rename_i h8;simp only[Xff hs h8];exact XhA hs h
         cases h
        .split at h
         .exact XhA hs h
         cases h
        cases h
       cases h
      cases h
     cases h
    cases h
   omega
  |_=>exact h
 |_=>exact h
end
variable {P:Program}
inductive It where
 |code (c:Code)
 |ops (full:Array Oper) (rest:List Oper)
 |blk (id:Nat)
 |stop (Q:St->Prop)
abbrev AW:=Act->World->Prop
def Xgy{F:Fence}{n:Nat}{c:Code}{Q:Exit->AW}{a:Act}{w:World}(h:c.wpIn F n P (Exit.noGoto Q) a w):(Code.scope c).wpIn F n P Q a w:=by
 intro b k cs hro hb hr;have h0:(lone (b.atR a (.code (.scope c)::k)) cs w).fenced P F:=fenced_calm hb hr rfl;have s0:step P (lone (b.atR a (.code (.scope c)::k)) cs w)=.next (lone (b.atR a (.code c::.inScope c::k)) cs w):=step_lone_go (by rfl)
 have⟨e,a₁,w₁,hq,harr⟩:=h b (.inScope c::k) cs hro hb hr;have s1:step P (lone (b.atR a₁ (.inScope c::k)) cs w₁)=.next (lone (b.atR a₁ k) cs w₁):=step_lone_go (by rfl)
 cases e with
 |normal=>exact⟨.normal,a₁,w₁,hq,.head h0 s0 (StepsIn.trans harr (.one (fenced_calm hb hr rfl) s1))⟩
 |exit id=>exact⟨.exit id,a₁,w₁,hq,λk' hk=>.head h0 s0 (harr.1 k' ag),λhr' hk=>let ⟨k1,e,s⟩:=harr.2 hr' ag;⟨k1,e,.head h0 s0 s⟩⟩
 |goto l=>exact hq.elim
 |ret=>exact⟨_,a₁,w₁,hq,.of_steps (.one h0 s0) harr⟩
 |panic ch=>exact⟨_,a₁,w₁,hq,.of_steps (.one h0 s0) harr⟩
 |outgrown=>exact⟨_,a₁,w₁,hq,.of_steps (.one h0 s0) harr⟩
def Xbn{F:Fence}{rm:Nat}{c:Code}{Q:Exit->AW}{a:Act}{w:World}(I:Nat->AW)(n:Nat)(h0:I n a w)(rd:∀n a w,I n a w->c.wpIn F rm P (Exit.then (λa w=>∃k,k<n/\I k a w) Q) a w):(Code.loop c).wpIn F rm P Q a w:=by
 refine wpIn_loop (λa w=>∃n,I n a w) (λa w=>leastOf λn=>I n a w) ⟨n,h0⟩ λa w hI=>wpIn_mono (rd _ a w (leastOf_spec hI).1) λe a' w' hq=>?_;cases e with
 |normal=>have⟨k,hk,hJ⟩:=hq;exact And.intro ⟨k,hJ⟩ (Nat.lt_of_le_of_lt ((leastOf_spec ⟨k,hJ⟩).2 k hJ) hk)
 |_=>exact hq
@[reducible] def fz(r:Option Nat):Fence:={Fence.wide with round:=r}
def Xb0{r:Option Nat}{n:Nat}{f:FuncId}{args:Array Value}{w:World}{R:Ending->World->Prop}(h:Calls P f args w R):CallsIn (fz r) n P f args w R:=(callsIn_wide (n:=n)).2 h
def XjV{r:Option Nat}{n:Nat}{o:Oper}{a:Act}{w:World}{K:AW}{Q:Exit->AW}(hd:∀c,o.op≠.defer c)(h:o.wp P a w K Q):o.wpIn (fz r) n P a w K Q:=by
 refine⟨λ_ _=>trivial,?_⟩;rw[Oper.semAt_eq _ _ _ hd];unfold Oper.wp at h;revert h;generalize (execOp a.eval o).run P w=x;intro h;unfold Oper.upon at h;split at h
 .exact h
 .exact h
 .exact h
 .exact⟨λe=>(by cases e),Xb0 h⟩
 .exact⟨λe=>(by cases e),λc cs _=>let ⟨v,w',r,s⟩:=h c cs;⟨v,w',r,stepsIn_wide.2 s⟩⟩
 .exact h
 simp_all
def J8(R:AW)(f:Option Nat->AW):Exit->AW
 |.normal=>f none
 |.exit id=>f (some id)
 |.ret=>R
 |_=>λ_ _=>False
def sem(P:Program)(C:Cx)(R:AW):List It->Option Nat->AW
 |[],none=>R
 |[],some _=>λ_ _=>False
 |.stop Q::_,none=>λa w=>∃st,Rel P C st a w/\Q st
 |.stop _::k,some i=>sem P C R k (some i)
 |.blk _::k,none=>sem P C R k none
 |.blk j::k,some i=>if i=j then sem P C R k none else sem P C R k (some i)
 |.code c::k,none=>c.wpIn (fz C.rd) 0 P (J8 R (sem P C R k))
 |.code _::k,some i=>sem P C R k (some i)
 |.ops full rest::k,none=>wpListIn (fz C.rd) 0 P full (J8 R (sem P C R k)) rest
 |.ops _ _::k,some i=>sem P C R k (some i)
def ZL(P:Program)(C:Cx)(Q:St->Prop):AW:=λa w=>∃st,Rel P C st a w/\Q st
class Tag{α:Type}(x:α):Type
instance{α:Type}(x:α):Tag x:=⟨⟩
abbrev Prf{α:Type}(_:α):Prop:=True
def LoopG(P:Program)(C:Cx)(R:St->Prop)(c:Code)(k:List It)(st:St)[Tag (C,R,c,k,st)](_:Prf c):Prop:=
 ∀a w,Rel P C st a w->(Code.loop c).wpIn (fz C.rd) 0 P (J8 (ZL P C R) (sem P C (ZL P C R) k)) a w
def DrawnG(P:Program)(C:Cx)(R:St->Prop)(id:Nat)(ops:Array Oper)(k:List It)(st:St)[Tag (C,R,ops,k,st)](_:Prf ops):Prop:=
 ∀a w,Rel P C st a w->(Code.region id ops true).wpIn (fz C.rd) 0 P (J8 (ZL P C R) (sem P C (ZL P C R) k)) a w
def CallG(P:Program)(G:Nat->Option (List D))(f:FuncId)(args:List D)(obs:List Ob)(K:D->List Ob->Prop)[Tag (G,K)](_:Prf args):Prop:=
 ∃eargs R,ZH args eargs/\YK P G f eargs obs R/\∀r ls,R r ls->K r ls
def J9(b:Bool)(x y:Prop):Prop:=(b=true->x)/\(b=false->y)
def VH(st:St)(x:Nat)(d:D):St:={st with t:=upd st.t x d}
def nx(st:St)(dst:Option Nat)(d:D)(u:Up)(n k:Nat):St:=
 ⟨match dst with|some x=>upd st.t x d|none=>st.t,app st.s u,n,k⟩
def XM(dst:Option Nat)(n:Nat):Option Nat:=match dst with
 |some x=>if x<n then some x else none
 |none=>none
def callee(t:Operand->D)(c:Call):Option (FuncId×List D):=match c.callee with
 |.value f=>match t f with
  |.clo (.func g) first caps=>some (g,first++(c.args.toList.map t++caps))
  |_=>none
 |_=>none
def Xbt(t:Operand->D)(c:Call):Option (Nat×List D):=match c.callee with
 |.value f=>match t f with
  |.clo (.yield l) [] []=>some (l,c.args.toList.map t)
  |_=>none
 |_=>none
def JD:Op->Option Call
 |.call c=>match c.callee with
  |.value _=>some c
  |_=>none
 |_=>none
def aft(s:Heap)(ids fz:List Nat)(r:D)(ls:List Ob)(ver n:Nat):D×Up:=
 if scal r&&ls.all J7 then(r,Zu s ids ls)else((imp ver n r).1,V8 s fz++(Zu s ids ls++(imp ver n r).2.2))
def Xpn(x:D×Up)(dst:Option Nat)(n k:Nat)(f:Option Nat->D->Up->Nat->Nat->Prop)[Tag f](_:Prf x):Prop:=f dst x.1 x.2 n k
def Xa7(x:Option (Prop×D×Up))(dst:Option Nat)(n k:Nat)(f:Option Nat->D->Up->Nat->Nat->Prop)[Tag f](_:Prf x):Prop:=match (generalizing:=false) x with
 |some (c,d,u)=>c/\f dst d u n k
 |none=>False
def Xgz(P:Program)(G:Nat->Option (List D))(f:FuncId)(x:Option (Prop×List D×List Nat×List Ob×List Nat))(K:List Nat->List Nat->D->List Ob->Prop)[Tag (G,K)](_:Prf x):Prop:=match (generalizing:=false) x with
 |some (cc,as,ids,obs,fz)=>cc/\CallG P G f as obs (K ids fz) trivial
 |none=>False
def nxS(st:St)(dst:Option Nat)(d:D)(s:Heap)(n k:Nat):St:=
 ⟨match dst with|some x=>upd st.t x d|none=>st.t,s,n,k⟩
def Xfg(n:Nat)(dst:Option Nat):Option Nat:=match dst with
 |some d=>some (n+d)
 |none=>none
def CallX(P:Program)(C:Cx)(f:FuncId)(args:List D)(dst:Option Nat)(st:St)(K:St->Prop)[Tag (C,dst,st,K)](_:Prf args):Prop:=
 (∃fn,P.funcs[f]? = some fn/\fn.body.isNone=false/\(fn.name== "runtime.NumGoroutine")=false) /\
 ∀M β w vs,BLe C.b0 β->UO P C st.s (·<st.k) M β w->RepL P M β args vs->Calls P f ⟨vs⟩ w λe w'=>∃v d s' k' M' β',e=.returned v/\UO P C s' (·<k') M' β' w'/\Rep P M' β' d v/\MLe M M'/\BLe β β'/\K (nxS st (XM dst st.n) d s' st.n k')
def YieldX(P:Program)(C:Cx)(l:Nat)(args:List D)(dst:Option Nat)(st:St)(K:St->Prop)[Tag (C,dst,st,K)](_:Prf args):Prop:=
 ∀M β w vs,BLe C.b0 β->UO P C st.s (·<st.k) M β w->RepL P M β args vs->∃f tmps assign body,(Instr.yield l ⟨vs⟩).run P w=.ok (.round l f tmps assign body) w /\
  RoundIn (fz C.rd) 0 P l f tmps assign body w λe w'=>∃v d s' k' M' β',e=.returned v/\UO P C s' (·<k') M' β' w'/\Rep P M' β' d v/\MLe M M'/\BLe β β'/\K (nxS st (XM dst st.n) d s' st.n k')
def Xej(P:Program)(C:Cx)(x:Option (Nat×List D))(dst:Option Nat)(st:St)(K:St->Prop)[Tag (C,dst,st,K)](_:Prf x):Prop:=match (generalizing:=false) x with
 |some (l,args)=>YieldX P C l args dst st K trivial
 |none=>False
def Xb1(P:Program)(C:Cx)(x:Option (FuncId×List D))(c:Call)(dst:Option Nat)(st:St)(K:St->Prop)[Tag (C,c,dst,st,K)](_:Prf x):Prop:=match (generalizing:=false) x with
 |some (f,args)=>CallX P C f args dst st K trivial
 |none=>Xej P C (Xbt (ev st.t C.G) c) dst st K trivial
def Xdq(P:Program)(C:Cx)(x:Option Call)(o:Oper)(st:St)(K:St->Prop)[Tag (C,o,st,K)](_:Prf x):Prop:=
 match (generalizing:=false) x with
 |some c=>Xb1 P C (callee (ev st.t C.G) c) c o.dst st K trivial
 |none=>Xa7 (opF P (Xfg C.off o.dst) st.k (ev st.t C.G) st.s o.op) (XM o.dst st.n) st.n (st.k+1) (λdst d u n k=>K (nx st dst d u n k)) trivial
def VU(P:Program)(C:Cx)(o:Oper)(st:St)(K:St->Prop):Prop:=Xdq P C (JD o.op) o st K trivial
def Xfh(dst:Option Nat)(n k:Nat)(f:Option Nat->Nat->Nat->Prop)[Tag f](_:Prf dst):Prop:=f dst n k
def ZQ(d:D)(r:Nat)(want:Bool)(st:St)(x y:St->Prop)[Tag (st,x,y)](_:Prf d):Prop:=match (generalizing:=false) d with
 |.v (.bool b)=>J9 b (if want then x st else y st) (if want then y st else x st)
 |.v (.tuple _)=>y st
 |_=>False
def Xek(r:Option Nat)(want:Bool)(st:St)(x y:St->Prop)[Tag (st,x,y)](_:Prf r):Prop:=match (generalizing:=false) r with
 |some r=>ZQ (st.t r) r want st x y trivial
 |none=>False
def XaK(full:Array Oper)(o:Oper)(st:St)(x y:St->Prop):Prop:=
 match o.guard with
 |none=>x st
 |some (g,want)=>Xek ((full[g]?).bind (·.dst)) want st x y trivial
def Xa8(d:D)(c:Operand)(st:St)(x y:St->Prop)[Tag (c,st,x,y)](_:Prf d):Prop:=match (generalizing:=false) d with
 |.v (.bool b)=>J9 b (x st) (y st)
 |_=>False
def Xa9:Nat->List It->Option (List It)
 |_,[]=>none
 |id,.blk j::k=>if id=j then some k else Xa9 id k
 |id,_::k=>Xa9 id k
def XhC(x:Option (List It))(f:List It->Prop)[Tag f](_:Prf x):Prop:=match (generalizing:=false) x with
 |some k=>f k
 |none=>False
def run(P:Program)(C:Cx)(R:St->Prop):Nat->List It->St->Prop
 |0,_,_=>False
 |_+1,[],st=>R st
 |_+1,.stop Q::_,st=>Q st
 |n+1,.blk _::k,st=>run P C R n k st
 |n+1,.ops _ []::k,st=>run P C R n k st
 | n+1,.ops full (o::rest)::k,st=>XaK full o st
     (λst=>VU P C o st (run P C R n (.ops full rest::k)))
     (λst=>Xfh (XM o.dst st.n) st.n (st.k+1) (λdst m j=>run P C R n (.ops full rest::k) (nx st dst (.v undef) [] m j)) trivial)
 |n+1,.code .skip::k,st=>run P C R n k st
 |n+1,.code (.seq x y)::k,st=>run P C R n (.code x::.code y::k) st
 |n+1,.code (.cond c x y)::k,st=>Xa8 (ev st.t C.G c) c st (run P C R n (.code x::k)) (run P C R n (.code y::k)) trivial
 |n+1,.code (.block id c)::k,st=>run P C R n (.code c::.blk id::k) st
 |n+1,.code (.scope c)::k,st=>run P C R n (.code c::k) st
 |n+1,.code (.label _)::k,st=>run P C R n k st
 |n+1,.code (.exit id)::k,st=>XhC (Xa9 id k) (λk'=>run P C R n k' st) trivial
 |_+1,.code .ret::_,st=>R st
 |_+1,.code (.loop c)::k,st=>LoopG P C R c k st trivial
 |n+1,.code (.region _ ops false)::k,st=>run P C R n (.ops ops ops.toList::k) st
 |_+1,.code (.region id ops true)::k,st=>DrawnG P C R id ops k st trivial
 |_+1,.code _::_,_=>False
def Va{C:Cx}{R:AW}{id:Nat}:∀{k k':List It}{a:Act}{w:World},Xa9 id k=some k'->sem P C R k' none a w->sem P C R k (some id) a w
 |[],k',a,w,h,_=>by simp_all[Xa9]
 |.blk j::k,k',a,w,h,hs=>by
  unfold Xa9 at h;unfold sem;split at h
  .simp_all
  rename_i e;rw[Wn e];exact Va h hs
 |.code c::k,k',a,w,h,hs=>by unfold sem;exact Va h hs
 |.ops _ _::k,k',a,w,h,hs=>by unfold sem;exact Va h hs
 |.stop _::k,k',a,w,h,hs=>by unfold sem;exact Va h hs
def I7{C:Cx}{st:St}{a:Act}{w':World}{s':Heap}{k':Nat}{M':Mem}{β':Loc}{M:Mem}{β:Loc}{d:D}{v:Value}{dst:Option Nat}(h1:a.defers=C.df)(h2:a.tmps.size=st.n)(h0:BLe C.b0 β)(h3:∀x,Rep P M β (st.t x) (a.tmps.getD x undef))(hM:MLe M M')(hB:BLe β β')(I:UO P C s' (·<k') M' β' w')(hv:Rep P M' β' d v):Rel P C (nxS st (XM dst st.n) d s' st.n k') (a.put dst v) w':=by
 cases dst with
 |none=>exact⟨h1,h2,M',β',h0.trans hB,λx=>(h3 x).mono hM hB,I⟩
 |some x=>
  by_cases hx:x<st.n
  .simp only[XM,Wp hx];refine⟨h1,by simp_all[nxS,Act.put],M',β',h0.trans hB,λi=>?_,I⟩;simp only[nxS,upd,Act.put];by_cases hi:i=x
   .simp_all
   rw[Wn hi];have e:(a.tmps.setIfInBounds x v).getD i undef=a.tmps.getD i undef:=by simp[Ne.symm hi]
   rw[e];exact(h3 i).mono hM hB
  simp only[XM,Wn hx];refine⟨h1,by simp_all[nxS,Act.put],M',β',h0.trans hB,λi=>?_,I⟩;have e:a.put (some x) v=a:=by simp only[Act.put];rw[Array.setIfInBounds_eq_of_size_le aa]
  rw[e];exact(h3 i).mono hM hB
def Rel.put{C:Cx}{st:St}{a:Act}{w':World}{u:Up}{k':Nat}{M':Mem}{β':Loc}{M:Mem}{β:Loc}{d:D}{v:Value}{dst:Option Nat}(h1:a.defers=C.df)(h2:a.tmps.size=st.n)(h0:BLe C.b0 β)(h3:∀x,Rep P M β (st.t x) (a.tmps.getD x undef))(hM:MLe M M')(hB:BLe β β')(I:UO P C (app st.s u) (·<k') M' β' w')(hv:Rep P M' β' d v):Rel P C (nx st (XM dst st.n) d u st.n k') (a.put dst v) w':=I7 h1 h2 h0 h3 hM hB I hv
def XaL:wfV undef:=by simp[undef,wfV]
def Xba{g:FuncId}{va vb vs:List Value}{w:World}:(Deferred.ofValue (.func (.func g) ⟨va⟩ ⟨vb⟩) ⟨vs⟩).run P w=.ok {target:=.fn (.func g) ⟨vb⟩,args:=⟨va++vs⟩} w:=by simp[Deferred.ofValue,pure,Sem.run]
def RepL.map{M:Mem}{β:Loc}{t:Operand->D}{ρ:Operand->Value}(h:∀x,Rep P M β (t x) (ρ x)):∀l:List Operand,RepL P M β (l.map t) (l.map ρ)
 |[]=>by rfl
 |x::l=>by exact⟨_,_,rfl,h x,RepL.map h l⟩
def Vu{ρ:Operand->Value}{o:Oper}{c:Call}(hop:o.op=.call c){x:Operand}(hc:c.callee=.value x){g:FuncId}{va vb:List Value}(hx:ρ x=.func (.func g) ⟨va⟩ ⟨vb⟩){fn:Func}(hf:P.funcs[g]? = some fn)(hb:fn.body.isNone=false)(hn:(fn.name== "runtime.NumGoroutine")=false)(w:World):
 (execOp ρ o).run P w=.ok (.enter g ⟨va++(c.args.toList.map ρ++vb)⟩) w:=by
 unfold execOp;simp only[hop,resolve,hc,hx];have e:c.args.map ρ=⟨c.args.toList.map ρ⟩:=by rw[←Array.toList_inj];simp
 have hn':¬fn.name = "runtime.NumGoroutine":=by simpa using hn
 have hb':¬fn.body=none:=by intro h0;rw[h0]at hb;simp at hb
 simp[go_sem,Xba,invoke,callFunc,hf,hb',hn']
def XgA{ρ:Operand->Value}{o:Oper}{c:Call}(hop:o.op=.call c){x:Operand}(hc:c.callee=.value x){l:Nat}(hx:ρ x=.func (.yield l) #[] #[]){w:World}{n:Next}(hy:(Instr.yield l ⟨c.args.toList.map ρ⟩).run P w=.ok n w):(execOp ρ o).run P w=.ok n w:=by
 unfold execOp;simp only[hop,resolve,hc,hx];have e:c.args.map ρ=⟨c.args.toList.map ρ⟩:=by rw[←Array.toList_inj];simp
 rw[e];simp[go_sem,Deferred.ofValue,pure,invoke,hy]
section
variable {C:Cx}{st:St}{a:Act}{w:World}
mutual
def scal_imp{ver n:Nat}:∀{d:D},scal d=true->imp ver n d=(d,n,[])
 |.any,_=>by rfl
 |.v x,_=>by rfl
 |.agg cs,h=>by simp_all[scal,imp,XaM,h]
 |.tup cs,h=>by simp_all[scal,imp,XaM,h]
 |.nsl,h=>by rfl
 |.isl ..,h=>by rfl
 |.osl ..,h=>by rfl
 |.ept ..,h=>by rfl
 |.ipt ..,h=>by rfl
 |.clo ..,h=>by simp_all[scal]
 |.ifc ..,h=>by simp_all[scal]
 |.fsl ..,h=>by simp_all[scal]
 |.fmp ..,h=>by simp_all[scal]
 |.omp ..,h=>by rfl
def XaM{ver n:Nat}:∀{ds:List D},Jj ds=true->JW ver n ds=(ds,n,[])
 |[],_=>by rfl
 |d::ds,h=>by simp_all[Jj,W5,JW,scal_imp,h,XaM,U1]
end
def XjW(s:Heap)(ids fz:List Nat)(r:D)(ls:List Ob)(ver n:Nat)(hids:∀id∈ids,∃v o,s id=some (v,o)):(aft s ids fz r ls ver n).1=(KG s ids fz r ls ver n).1/\app s (aft s ids fz r ls ver n).2=(KG s ids fz r ls ver n).2:=by
 unfold aft KG;by_cases h:(scal r&&ls.all J7)=true
 .simp only[h,if_true];simp at h;rw[scal_imp h.1];exact⟨rfl,rfl⟩
 simp[h,U4,if_false,YU,J5]
def Xfi{ρ:Operand->Value}{o:Oper}{x:Option Nat}:execOp ρ {o with dst:=x}=execOp ρ o:=by rfl
def CallX.c{K:St->Prop}{f:FuncId}{args:List D}{dst:Option Nat}(h:Xgz P C.G f (YY st.s args) (λids fz r ls=>
 Xpn (aft st.s ids fz r ls st.k (64*(C.off+dst.getD 0))) (XM dst st.n) st.n (st.k+1) (λdst d u n k=>K (nx st dst d u n k)) trivial) trivial)(t:Prf args):CallX P C f args dst st K t:=by
 unfold Xgz at h;split at h
 .rename_i cc as ids obs fz hca;have⟨hcc,eargs,R,hfit,hA,hKR⟩:=h;have⟨⟨fn,hf,hb',hn⟩,_⟩:=id hA;refine⟨⟨fn,hf,hb',hn⟩,λM β w vs h0 I hargs=>?_⟩;have hbox:∀id∈ids,∃v o,st.s id=some (v,o):=by
   unfold YY at hca;split at hca
   .rename_i hl;split at hca
    .simp only[Wr,Wx]at hca;obtain⟨_,_,rfl,_,_⟩:=hca;intro id hid;obtain⟨v,E,z,cs,fz,hs⟩:=(YS hl ⟨ab,ab⟩).2 id hid;exact⟨_,_,hs⟩
    cases hca
   cases hca
  refine(Xhz I (ver:=st.k) aa hargs hca hcc hfit hA (64*(C.off+dst.getD 0))).mono ?_;rintro e w' ⟨v,r,ls,M',β',rfl,hR,I',hv,hM,hB⟩;have⟨e1,e2⟩:=XjW st.s ids fz r ls st.k (64*(C.off+dst.getD 0)) hbox;rw[←e1]at hv;rw[←e2]at I';exact⟨v,_,_,st.k+1,M',β',rfl,I'.mono λv hv=>aa,hv,hM,hB,hKR r ls hR⟩
 simp_all
def Xdr{o:Oper}{K:St->Prop}{K':AW}{Q:Exit->AW}(hr:Rel P C st a w)(h:VU P C o st K)(hK:∀st a w,Rel P C st a w->K st->K' a w):o.wpIn (fz C.rd) 0 P a w K' Q:=by
 have hnd:∀c,o.op≠.defer c:=by intro c e;unfold VU Xdq at h;rw[e]at h;simp[JD,opF,Xa7]at h
 have⟨h1,h2,M,β,h0,h3,I⟩:=hr;have hev:=XbX I h3;unfold VU Xdq at h;split at h
 .rename_i c hc;have hop:o.op=.call c:=by
   unfold JD at hc;split at hc
   .grind
   grind
  unfold Xb1 at h;split at h
  .rename_i f args hcal;have⟨⟨fn,hf,hb',hn⟩,hX⟩:=h;unfold callee at hcal;split at hcal
   .rename_i x hx;split at hcal
    .rename_i g first caps hclo
     obtain⟨rfl,rfl⟩:=hcal;have hfx:=hev x;rw[hclo]at hfx;have⟨va,vb,hfx,ha,hb⟩:=hfx;refine XjV hnd ?_;unfold Oper.wp;rw[Vu hop hx hfx hf hb' hn w];have hargs:RepL P M β (first++(c.args.toList.map (ev st.t C.G)++caps)) (va++(c.args.toList.map a.eval++vb)):=
      ha.append ((RepL.map hev _).append hb)
     refine(hX M β w _ h0 I hargs).mono ?_;rintro e w' ⟨v,d,s',k',M',β',rfl,I',hv,hM,hB,hk⟩;exact hK _ _ _ (I7 h1 h2 h0 h3 hM hB I' hv) hk
    cases hcal
   simp_all
  unfold Xej at h;split at h;rotate_left
  .exact h.elim
  rename_i l args hcal;unfold Xbt at hcal;split at hcal
  .rename_i x hx;split at hcal
   .rename_i l' hclo;obtain⟨rfl,rfl⟩:=hcal;have hfx:=hev x;rw[hclo]at hfx;obtain⟨va,vb,hfx,rfl,rfl⟩:=hfx;obtain⟨f,tmps,assign,body,hy,hR⟩:=h M β w _ h0 I (RepL.map hev _);refine⟨λ_ _=>trivial,?_⟩;rw[Oper.semAt_eq _ _ _ hnd,XgA hop hx hfx hy,Oper.uponIn_round];refine⟨λe=>(by cases e),hR.mono ?_⟩;rintro e w' ⟨v,d,s',k',M',β',rfl,I',hv,hM,hB,hk⟩;exact hK _ _ _ (I7 h1 h2 h0 h3 hM hB I' hv) hk
   cases hcal
  simp_all
 refine XjV hnd ?_;unfold Xa7 at h;split at h
 .rename_i c d u hop;have:=XjU I (ver:=st.k) aa {o with dst:=Xfg C.off o.dst} a.eval (ev st.t C.G) hev (λ_=>rfl) hop h.1;obtain⟨M',β',w',v,hres,I',hv,hM,hB⟩:=this;rw[Xfi]at hres;have hrel:Rel P C (nx st (XM o.dst st.n) d u st.n (st.k+1)) (a.put o.dst v) w':=Rel.put h1 h2 h0 h3 hM hB (I'.mono λv hv=>by show v<st.k+1;omega) hv;unfold Oper.wp;rcases hres with hres|⟨hres,rfl⟩
  .rw[hres];exact hK _ _ _ hrel h.2
  rw[hres];exact hK _ _ _ hrel h.2
 simp_all
def Rel.bump(hr:Rel P C st a w)(dst:Option Nat):Rel P C (nx st (XM dst st.n) (.v undef) [] st.n (st.k+1)) (a.put dst undef) w:=by have⟨h1,h2,M,β,h0,h3,I⟩:=hr;exact Rel.put (u:=[]) h1 h2 h0 h3 (MLe.refl _) (BLe.refl _) (I.mono λv hv=>aa) (by simp[Rep,XaL])
def Rel.bool(hr:Rel P C st a w){r:Nat}{b:Bool}(hb:st.t r=.v (.bool b)):a.tmps.getD r undef=.bool b:=by have⟨h1,h2,M,β,h0,h3,I⟩:=hr;have:=h3 r;simp_all[hb,Rep]
def Rel.tuple(hr:Rel P C st a w){r:Nat}{vs:Array Value}(hb:st.t r=.v (.tuple vs)):a.tmps.getD r undef=.tuple vs:=by have⟨h1,h2,M,β,h0,h3,I⟩:=hr;have:=h3 r;simp_all[hb,Rep]
def XiG{full:Array Oper}{o:Oper}{x y:St->Prop}(hr:Rel P C st a w)(h:XaK full o st x y):
 (Region.wanted o (yielded full a.tmps)=true->x st)/\(Region.wanted o (yielded full a.tmps)=false->y st):=by
 unfold XaK at h;split at h
 .rename_i hg;have hw:Region.wanted o (yielded full a.tmps)=true:=by unfold Region.wanted;rw[hg]
  simp_all
 rename_i g want hg;unfold Xek at h;split at h
 .rename_i r hdst;unfold ZQ at h;split at h
  .rename_i b hb;have hval:=hr.bool hb;have hy:yielded full a.tmps g=some b:=by
    unfold yielded;rw[hdst];simp only[IQ];by_cases hs:r<a.tmps.size
    .have:a.tmps[r]? = some (.bool b):=by simp[hs]at hval;simp[hs,hval]
     rw[this]
    simp[hs,undef]at hval
   have hw:Region.wanted o (yielded full a.tmps)=(some b==some want):=by unfold Region.wanted;rw[hg];simp only;rw[hy]
   rw[hw];have⟨ht,hf⟩:=h;cases b
   .cases want<;>simpa using hf
   cases want<;>simpa using ht
  .rename_i vs hb;have hval:=hr.tuple hb;have hy:yielded full a.tmps g=none:=by
    unfold yielded;rw[hdst];simp only[IQ];by_cases hs:r<a.tmps.size
    .have:a.tmps[r]? = some (.tuple vs):=by simp[hs]at hval;simp[hs,hval]
     rw[this]
    have:a.tmps[r]? = none:=by simp;omega
    rw[this]
   have hw:Region.wanted o (yielded full a.tmps)=false:=by unfold Region.wanted;rw[hg];simp only;rw[hy];rfl
   rw[hw];exact⟨λe=>(by cases e),λ_=>h⟩
  exact h.elim
 simp_all
def Ym{R:St->Prop}:∀(n:Nat)(k:List It){st:St}{a:Act}{w:World},Rel P C st a w->run P C R n k st->sem P C (ZL P C R) k none a w
 |0,k,st,a,w,_,h=>by unfold run at h;simp_all
 |n+1,[],st,a,w,hr,h=>by exact⟨st,hr,h⟩
 |n+1,.stop Q::k,st,a,w,hr,h=>by exact⟨st,hr,h⟩
 |n+1,.blk _::k,st,a,w,hr,h=>by exact Ym n k hr h
 |n+1,.ops full []::k,st,a,w,hr,h=>by exact Ym n k hr h
 |n+1,.ops full (o::rest)::k,st,a,w,hr,h=>by
  have⟨hx,hy⟩:=XiG hr h;refine wpListIn_step λK hK=>?_;split
  .rename_i hw;exact Xdr hr (hx hw) λst2 a2 w2 hr2 h2=>hK _ _ (Ym n (.ops full rest::k) hr2 h2)
  exact⟨λ_ _=>trivial,hK _ _ (Ym n (.ops full rest::k) (hr.bump o.dst) (hy (by simp_all)))⟩
 |n+1,.code .skip::k,st,a,w,hr,h=>by exact wpIn_skip (Ym n k hr h)
 |n+1,.code (.seq x y)::k,st,a,w,hr,h=>by refine wpIn_seq ?_;refine wpIn_mono (Ym n (.code x::.code y::k) hr h) ?_;intro e a' w' hq;cases e<;>exact hq
 |n+1,.code (.cond c x y)::k,st,a,w,hr,h=>by
  unfold run Xa8 at h;split at h
  .rename_i b hb;have h2:a.eval c=.bool b:=by obtain⟨h1,h2,M,β,h0,h3,I⟩:=hr;have:=XbX I h3 c;rw[hb]at this;simp only[Rep]at this;exact this.1
   refine wpIn_cond_split h2 (λe=>?_) (λe=>?_)
   .exact Ym n (.code x::k) hr (h.1 e)
   exact Ym n (.code y::k) hr (h.2 e)
  simp_all
 |n+1,.code (.block id c)::k,st,a,w,hr,h=>by
  refine wpIn_block ?_;refine wpIn_mono (Ym n (.code c::.blk id::k) hr h) ?_;intro e a' w' hq;cases e with
  |exit i=>
   simp only[Exit.inBlock];have hq:sem P C (ZL P C R) (.blk id::k) (some i) a' w':=hq;unfold sem at hq;split at hq<;>rename_i e
   .rw[Wp e];exact hq
   rw[Wn e];exact hq
  |_=>exact hq
 |n+1,.code (.scope c)::k,st,a,w,hr,h=>by refine Xgy (wpIn_mono (Ym n (.code c::k) hr h) ?_);intro e a' w' hq;cases e<;>exact hq
 |n+1,.code (.label l)::k,st,a,w,hr,h=>by exact wpIn_label (Ym n k hr h)
 |n+1,.code (.exit id)::k,st,a,w,hr,h=>by
  unfold run XhC at h;split at h
  .rename_i k' hk;exact wpIn_exit (Va hk (Ym n k' hr h))
  simp_all
 |n+1,.code .ret::k,st,a,w,hr,h=>by exact wpIn_ret ⟨st,hr,h⟩
 |n+1,.code (.loop c)::k,st,a,w,hr,h=>by exact h a w hr
 |n+1,.code (.region id ops false)::k,st,a,w,hr,h=>by exact wpIn_region_list (Ym n (.ops ops ops.toList::k) hr h)
 |n+1,.code (.region id ops true)::k,st,a,w,hr,h=>by exact h a w hr
 |n+1,.code (.rangeFunc ..)::k,st,a,w,hr,h=>by unfold run at h;simp_all
 |n+1,.code (.goto ..)::k,st,a,w,hr,h=>by unfold run at h;simp_all
 |n+1,.code (.refuse ..)::k,st,a,w,hr,h=>by unfold run at h;simp_all
def LoopG.of{R:St->Prop}{c:Code}{k:List It}(I:Nat->St->Prop)(m n:Nat)(h0:I n st)(round:∀n st,I n st->run P C R m (.code c::.stop (λst'=>∃n',n'<n/\I n' st')::k) st)(t':Prf c):LoopG P C R c k st t':=by
 intro a w hr;refine Xbn (λn a w=>∃st,Rel P C st a w/\I n st) n ⟨st,hr,h0⟩ ?_;rintro n a w ⟨st,hr,hI⟩;refine wpIn_mono (Ym m _ hr (round n st hI)) ?_;intro e a' w' hq;cases e with
 |normal=>have⟨st',hr',n',hn,hI'⟩:=hq;exact⟨n',hn,st',hr',hI'⟩
 |_=>exact hq
def LoopU(P:Program)(C:Cx)(R:St->Prop)(c:Code)(k:List It)(n:Nat)(st:St)[Tag (C,R,c,k,st)](_:Prf c):Prop:=
 ∀a w,Rel P C st a w->Code.roundsIn (fz C.rd) 0 P c (J8 (ZL P C R) (sem P C (ZL P C R) k)) n a w
def LoopU.s{R:St->Prop}{c:Code}{k:List It}{st:St}{n:Nat}(m:Nat)(h:run P C R m (.code c::.stop (λst'=>LoopU P C R c k n st' trivial)::k) st)(t':Prf c):LoopU P C R c k (n+1) st t':=by
 intro a w hr;refine wpIn_mono (Ym m _ hr h) ?_;intro e a' w' hq;cases e with
 |normal=>have⟨st',hr',hI⟩:=hq;exact hI a' w' hr'
 |_=>exact hq
end
variable {P:Program}
mutual
def shut(s:Heap)(fr:List Nat):D->Option (Prop×D×List Nat×List Nat)
 |.osl id ver z off len=>match s id with
  |some (ver',.arr false E z' es fz)=>if ver=ver'/\z=z' then
   (if id∈fr then some (off=0/\fz=0/\len<=es.length,.fsl E z (es.take len),[],[id])
    else some (off+len<=es.length,.isl E z ((es.drop off).take len),[id],[]))else none
  |_=>none
 |.omp id ver=>match s id with
  |some (ver',.mp k es)=>if ver=ver'/\id∈fr then some (True,.fmp k (es.map (·.1)) (es.map (·.2)),[],[id])else none
  |_=>none
 |.agg cs=>match Xbb s fr cs with
  |some (c,ds,l,m)=>some (c,.agg ds,l,m)
  |none=>none
 |.tup cs=>match Xbb s fr cs with
  |some (c,ds,l,m)=>some (c,.tup ds,l,m)
  |none=>none
 |.clo fn a b=>match Xbb s fr a,Xbb s fr b with
  |some (c,a',l,m),some (c',b',l',m')=>some (c/\c',.clo fn a' b',l++l',m++m')
  |_,_=>none
 |.ifc t d=>match shut s fr d with
  |some (c,e,l,m)=>some (c,.ifc t e,l,m)
  |none=>none
 |.any=>some (True,.any,[],[])
 |.v x=>some (True,.v x,[],[])
 |.nsl=>some (True,.nsl,[],[])
 |.isl E z es=>some (True,.isl E z es,[],[])
 |.ipt z cs c=>some (True,.ipt z cs c,[],[])
 |_=>none
def Xbb(s:Heap)(fr:List Nat):List D->Option (Prop×List D×List Nat×List Nat)
 |[]=>some (True,[],[],[])
 |d::ds=>match shut s fr d,Xbb s fr ds with
  |some (c,e,l,m),some (c',es,l',m')=>some (c/\c',e::es,l++l',m++m')
  |_,_=>none
end
def Blk(β:Loc)(s:Heap)(m:List Nat)(bl:List (Option (Nat×Nat))):Prop:=
 ∃f:List (Nat×Nat×Option (Nat×Nat)),f.map (·.1)=m/\f.map (·.2.2)=bl/\∀x∈f,β x.1 x.2.1=some x.2.2/\∃ob,s x.1=some (x.2.1,ob)
section
variable {C:Cx}{s:Heap}{U:Nat->Prop}{M M':Mem}{β:Loc}{w:World}
def Blk.nil:Blk β s [] []:=⟨[],rfl,rfl,ab⟩
def Blk.append{m m':List Nat}{b b':List (Option (Nat×Nat))}(h:Blk β s m b)(k:Blk β s m' b'):Blk β s (m++m') (b++b'):=by have⟨f,h1,h2,h3⟩:=h;have⟨g,k1,k2,k3⟩:=k;refine⟨f++g,by simp[h1,k1],by simp[h2,k2],λx hx=>?_⟩;grind
def Oj{x:Option (Nat×Nat)}{E z:Nat}{es:List (List D)}(h:ObRep P M β w x (.arr false E z es 0))(n:Nat):ObRep P M β w x (.arr false E z (es.take n) 0):=by
 cases x with
 |none=>simp_all[ObRep]
 |some bc=>
  have⟨cs,T,h1,h2,h3,h4,h5,h6,h7,h8,h9,h10⟩:=h;have hl:(es.take n).length<=es.length:=by simp;omega
  refine⟨cs,T,h1,h2,λe he=>h3 e (WW he),aa,aa,Um (WZ _ hl) h6,aa,h8,h9,λi d hd=>h10 i d ?_⟩;have⟨l,hl2⟩:=List.take_prefix n es;grind
mutual
def shut_rep{lz:List Nat}(I:UO P C s U M β w)(hM:MLe M M')(I':UO P C (frz s lz) U M' β w)(hF:Frz s M' β w lz){fr:List Nat}(hfr:∀i∈fr,i∉lz):
 ∀{d r:D}{c:Prop}{l m:List Nat},shut s fr d=some (c,r,l,m)->c->(∀i∈l,i∈lz)->∀{y:Value},Rep P M β d y->∃bl,FrRep P M' w C.w0.heap.size r y bl/\Blk β s m bl
 |.osl id ver z off len,r,c,l,m,h,hc,hl,y,hr=>by
  unfold shut at h;split at h
  .rename_i ver' E z' es fz hs;split at h
   .rename_i e;have⟨rfl,rfl⟩:=e;split at h
    .rename_i hid;obtain⟨rfl,rfl,rfl,rfl⟩:=h;obtain⟨rfl,rfl,hle⟩:=hc;have hsf:frz s lz id=some (ver,.arr false E z es 0):=by unfold frz;rw[Wn (hfr id hid)];exact hs
     have⟨x,hx,hob⟩:=I'.obs id ver _ hsf;have hob:=Oj hob len;rcases hr with⟨h1,_,h2,a,rfl⟩|⟨b,cb,o,cap,h1,rfl,h2,h3,h4⟩
     .rw[h1]at hx;refine⟨[none],?_,[(id,ver,none)],rfl,rfl,?_⟩
      .simp only[FrRep];exact .inl ⟨trivial,WJ ah,a,rfl⟩
      intro x hx;simp at hx;subst hx;exact⟨h1,_,hs⟩
     rw[h1]at hx;obtain rfl:some (b,cb)=x:=by simpa using hx
     refine⟨[some (b,cb)],?_,[(id,ver,some (b,cb))],rfl,rfl,?_⟩
     .refine .inr ⟨b,cb,o,rfl,?_,?_,?_,?_⟩
      .rcases I.own id ver _ b cb hs h1 with h|h
       .exact h
       simp[Ob.bx]at h
      .rw[show cap=cb by omega,Wj,Nat.min_eq_left hle]
      .rcases h4 with h|h
       .left;simpa using h
       omega
      exact hob
     intro x hx;simp at hx;subst hx;exact⟨h1,_,hs⟩
    obtain⟨rfl,rfl,rfl,rfl⟩:=h;have:=snap_rep (d:=.osl id ver z off len) (d':=.isl E z ((es.drop off).take len)) (c:=off+len<=es.length) (l:=[id]) I hM (by simp[snap,hs]) hc (λi hi=>hF i (hl i hi)) hr;exact⟨[],by simp only[FrRep];exact⟨trivial,this⟩,Blk.nil⟩
   cases h
  simp_all
 |.agg cs,r,c,l,m,h,hc,hl,y,hr=>by
  unfold shut at h;split at h
  .rename_i he;obtain⟨rfl,rfl,rfl,rfl⟩:=h;simp only[Rep]at hr;obtain⟨vs,rfl,hr⟩:=hr;obtain⟨bl,h1,h2⟩:=Jk I hM I' hF hfr he hc hl hr;exact⟨bl,by simp only[FrRep];exact⟨vs,rfl,h1⟩,h2⟩
  simp_all
 |.tup cs,r,c,l,m,h,hc,hl,y,hr=>by
  unfold shut at h;split at h
  .rename_i he;simp only[Wr,Wx]at h;obtain⟨rfl,rfl,rfl,rfl⟩:=h;simp only[Rep]at hr;obtain⟨vs,rfl,hr⟩:=hr;obtain⟨bl,h1,h2⟩:=Jk I hM I' hF hfr he hc hl hr;exact⟨bl,by simp only[FrRep];exact⟨vs,rfl,h1⟩,h2⟩
  simp_all
 |.clo fn a b,r,c,l,m,h,hc,hl,y,hr=>by
  unfold shut at h;split at h
  .rename_i he hf;simp only[Wr,Wx]at h;obtain⟨rfl,rfl,rfl,rfl⟩:=h;simp only[Rep]at hr;obtain⟨va,vb,rfl,hr1,hr2⟩:=hr;obtain⟨bl,h1,h2⟩:=Jk I hM I' hF hfr he hc.1 (λi hi=>hl i (W0 _ hi)) hr1;obtain⟨bl',h3,h4⟩:=Jk I hM I' hF hfr hf hc.2 (λi hi=>hl i (Ua _ hi)) hr2;exact⟨bl++bl',by simp only[FrRep];exact⟨va,vb,rfl,bl,bl',rfl,h1,h3⟩,h2.append h4⟩
  simp_all
 |.ifc t d,r,c,l,m,h,hc,hl,y,hr=>by
  unfold shut at h;split at h
  .rename_i he;simp only[Wr,Wx]at h;obtain⟨rfl,rfl,rfl,rfl⟩:=h;simp only[Rep]at hr;obtain⟨x,rfl,hr⟩:=hr;obtain⟨bl,h1,h2⟩:=shut_rep I hM I' hF hfr he hc hl hr;exact⟨bl,by simp only[FrRep];exact⟨x,rfl,h1⟩,h2⟩
  simp_all
 |.any,r,c,l,m,h,hc,hl,y,hr=>by simp only[shut,Wr,Wx]at h;obtain⟨rfl,rfl,rfl,rfl⟩:=h;exact⟨[],by rfl,Blk.nil⟩
 |.v x,r,c,l,m,h,hc,hl,y,hr=>by simp only[shut,Wr,Wx]at h;obtain⟨rfl,rfl,rfl,rfl⟩:=h;exact⟨[],by simp_all[FrRep,Rep],Blk.nil⟩
 |.nsl,r,c,l,m,h,hc,hl,y,hr=>by simp only[shut,Wr,Wx]at h;obtain⟨rfl,rfl,rfl,rfl⟩:=h;exact⟨[],by simp_all[FrRep,Rep],Blk.nil⟩
 |.isl E z es,r,c,l,m,h,hc,hl,y,hr=>by simp only[shut,Wr,Wx]at h;obtain⟨rfl,rfl,rfl,rfl⟩:=h;have:=hr.mono hM (BLe.refl _);exact⟨[],by simp_all[FrRep,Rep],Blk.nil⟩
 |.ipt z cs k,r,c,l,m,h,hc,hl,y,hr=>by simp only[shut,Wr,Wx]at h;obtain⟨rfl,rfl,rfl,rfl⟩:=h;have:=hr.mono hM (BLe.refl _);exact⟨[],by simp_all[FrRep,Rep],Blk.nil⟩
 |.ept ..,r,c,l,m,h,hc,hl,y,hr=>by simp_all[shut]
 |.fsl ..,r,c,l,m,h,hc,hl,y,hr=>by simp_all[shut]
 |.fmp ..,r,c,l,m,h,hc,hl,y,hr=>by simp_all[shut]
 |.omp id ver,r,c,l,m,h,hc,hl,y,hr=>by
  unfold shut at h;split at h
  .rename_i ver' k es hs;split at h
   .rename_i hcond;obtain⟨rfl,hid⟩:=hcond;simp only[Wr,Wx]at h;obtain⟨rfl,rfl,rfl,rfl⟩:=h;have hsf:frz s lz id=some (ver,.mp k es):=by unfold frz;rw[Wn (hfr id hid)];exact hs
    obtain⟨x,hx,hob⟩:=I'.obs id ver _ hsf;simp only[Rep]at hr;obtain⟨b,cb,h1,rfl⟩:=hr;rw[h1]at hx;obtain rfl:some (b,cb)=x:=by simpa using hx
    obtain rfl:cb=0:=hob.1;refine⟨[some (b,0)],?_,[(id,ver,some (b,0))],rfl,rfl,?_⟩
    .simp only[FrRep];refine⟨b,rfl,?_,rfl,ab,?_⟩
     .rcases I.own id ver _ b 0 hs h1 with h|h
      .exact h
      simp[Ob.bx]at h
     rw[show(es.map (·.1)).zip (es.map (·.2))=es by rw[List.zip_map'];simp];exact hob
    intro x hx;simp at hx;subst hx;exact⟨h1,_,hs⟩
   cases h
  simp_all
def Jk{lz:List Nat}(I:UO P C s U M β w)(hM:MLe M M')(I':UO P C (frz s lz) U M' β w)(hF:Frz s M' β w lz){fr:List Nat}(hfr:∀i∈fr,i∉lz):
 ∀{ds rs:List D}{c:Prop}{l m:List Nat},Xbb s fr ds=some (c,rs,l,m)->c->(∀i∈l,i∈lz)->∀{ys:List Value},RepL P M β ds ys->∃bl,FrRepL P M' w C.w0.heap.size rs ys bl/\Blk β s m bl
 |[],rs,c,l,m,h,hc,hl,ys,hr=>by obtain⟨rfl,rfl,rfl,rfl⟩:=h;simp only[RepL]at hr;exact⟨[],by simp[FrRepL,hr],Blk.nil⟩
 |d::ds,rs,c,l,m,h,hc,hl,ys,hr=>by
  unfold Xbb at h;split at h
  .rename_i he hf;obtain⟨rfl,rfl,rfl,rfl⟩:=h;obtain⟨x,xs,rfl,hr1,hr2⟩:=hr;have⟨bl,h1,h2⟩:=shut_rep I hM I' hF hfr he hc.1 (λi hi=>hl i (W0 _ hi)) hr1;have⟨bl',h3,h4⟩:=Jk I hM I' hF hfr hf hc.2 (λi hi=>hl i (Ua _ hi)) hr2;exact⟨bl++bl',by exact⟨x,xs,bl,bl',rfl,rfl,h1,h3⟩,h2.append h4⟩
  simp_all
end
def Blk.nodup(I:UO P C s U M β w){m:List Nat}{bl:List (Option (Nat×Nat))}(h:Blk β s m bl)(hm:m.Nodup):(XV bl).Nodup:=by
 obtain⟨f,rfl,rfl,hf⟩:=h;induction f with
 |nil=>assumption
 |cons x f ih=>
  simp at hm;have ih:=ih hm.2 λy hy=>hf y (Ul _ hy);have⟨i,v,o⟩:=x;cases o with
  |none=>assumption
  |some bc=>
   have⟨b,cb⟩:=bc;have e:XV (((i,v,some (b,cb))::f).map (·.2.2))=b::XV (f.map (·.2.2)):=by simp[XV]
   rw[e,List.nodup_cons];refine⟨λhb=>?_,ih⟩;simp only[XV,List.mem_filterMap,UW]at hb;obtain⟨o',⟨y,hy,rfl⟩,hb⟩:=hb;have⟨j,v',o'⟩:=y;simp only[Ue]at hb;obtain⟨⟨b',cb'⟩,rfl,rfl⟩:=hb;have⟨h1,ob,h2⟩:=hf (i,v,some (b',cb)) ab;have⟨h3,ob',h4⟩:=hf (j,v',some (b',cb')) (Ul _ hy);have:=I.inj i v ob j v' ob' b' cb cb' h2 h4 h1 h3;simp_all
mutual
def fitsR:D->D->Prop
 |.nsl,.isl _ _ es=>es=[]
 |.nsl,.fsl _ _ es=>es=[]
 |.agg cs,.agg ds=>JE cs ds
 |.tup cs,.tup ds=>JE cs ds
 |.ifc t d,.ifc t' e=>t=t'/\fitsR d e
 |d,e=>d=e
def JE:List D->List D->Prop
 |[],[]=>True
 |d::ds,e::es=>fitsR d e/\JE ds es
 |_,_=>False
end
def RetG(r:D)(obs:List Ob)(R':D->List Ob->Prop):Prop:=∃r',fitsR r r'/\R' r' obs
mutual
def fitsR_refl:∀d:D,fitsR d d
 |.agg cs=>by exact Vb cs
 |.tup cs=>by exact Vb cs
 |.ifc t d=>by simp only[fitsR];exact⟨trivial,fitsR_refl d⟩
 |.nsl=>by rfl
 |.any=>by rfl
 |.v _=>by rfl
 |.isl ..=>by rfl
 |.osl ..=>by rfl
 |.ept ..=>by rfl
 |.ipt ..=>by rfl
 |.clo ..=>by rfl
 |.fsl ..=>by rfl
 |.fmp ..=>by rfl
 |.omp ..=>by rfl
def Vb:∀ds:List D,JE ds ds
 |[]=>by simp[JE]
 |d::ds=>by exact⟨fitsR_refl d,Vb ds⟩
end
def RetG.same{r:D}{obs:List Ob}{R':D->List Ob->Prop}(h:R' r obs):RetG r obs R':=⟨r,fitsR_refl r,h⟩
mutual
def fitsR_rep{M:Mem}{w:World}{B:Nat}:∀{d e:D}{y:Value}{l:List (Option (Nat×Nat))},fitsR d e->FrRep P M w B d y l->∃l',FrRep P M w B e y l'/\XV l'=XV l
 |.nsl,e,y,l,h,hr=>by
  cases e with
  |isl E z es=>grind[fitsR,FrRep,Rep,Xp]
  |fsl E z es=>subst h;obtain⟨rfl,a,rfl⟩:=hr;refine⟨[none],?_,rfl⟩;simp[FrRep]
  |nsl=>grind
  |_=>simp[fitsR]at h
 |.agg cs,e,y,l,h,hr=>by
  cases e with
  |agg ds=>simp only[FrRep]at hr⊢;obtain⟨vs,rfl,hr⟩:=hr;have⟨l',h1,h2⟩:=VV h hr;grind
  |_=>simp[fitsR]at h
 |.tup cs,e,y,l,h,hr=>by
  cases e with
  |tup ds=>simp only[FrRep]at hr⊢;obtain⟨vs,rfl,hr⟩:=hr;have⟨l',h1,h2⟩:=VV h hr;grind
  |_=>simp[fitsR]at h
 |.ifc t d,e,y,l,h,hr=>by
  cases e with
  |ifc t' e=>have⟨rfl,h⟩:=h;simp only[FrRep]at hr⊢;obtain⟨x,rfl,hr⟩:=hr;have⟨l',h1,h2⟩:=fitsR_rep h hr;grind
  |_=>simp[fitsR]at h
 |.any,e,y,l,h,hr=>by grind[fitsR]
 |.v x,e,y,l,h,hr=>by grind[fitsR]
 |.isl a b c,e,y,l,h,hr=>by grind[fitsR]
 |.ipt a b c,e,y,l,h,hr=>by grind[fitsR]
 |.fsl a b c,e,y,l,h,hr=>by grind[fitsR]
 |.fmp a b c,e,y,l,h,hr=>by grind[fitsR]
 |.clo a b c,e,y,l,h,hr=>by grind[fitsR]
 |.osl ..,e,y,l,h,hr=>by simp_all[FrRep]
 |.ept ..,e,y,l,h,hr=>by simp_all[FrRep]
 |.omp ..,e,y,l,h,hr=>by simp_all[FrRep]
def VV{M:Mem}{w:World}{B:Nat}:∀{ds es:List D}{ys:List Value}{l:List (Option (Nat×Nat))},JE ds es->FrRepL P M w B ds ys l->∃l',FrRepL P M w B es ys l'/\XV l'=XV l
 |[],es,ys,l,h,hr=>by grind[JE]
 |d::ds,es,ys,l,h,hr=>by
  cases es with
  |nil=>simp_all[JE]
  |cons e es=>obtain⟨x,xs,l1,l2,rfl,rfl,h1,h2⟩:=hr;have⟨l1',k1,k2⟩:=fitsR_rep h.1 h1;have⟨l2',k3,k4⟩:=VV h.2 h2;exact⟨l1'++l2',by grind[FrRepL],by simp[X4,k2,k4]⟩
end
def Xae:Nat->Nat->List Nat
 |_,0=>[]
 |k,n+1=>(LB+k)::Xae (k+1) n
def Vv:∀(n k j:Nat),j<n->(Xae k n)[j]? = some (LB+(k+j))
 |0,_,_,h=>by omega
 |n+1,k,0,_=>by rfl
 |n+1,k,j+1,h=>by simp only[Xae,List.getElem?_cons_succ];rw[Vv n (k+1) j aa];grind
def Kw:∀(n k:Nat),(Xae k n).length=n
 |0,_=>rfl
 |n+1,k=>by simp[Xae,Kw n (k+1)]
def Xm4(s:Heap):List Nat->Prop
 |[]=>True
 |i::l=>(s i).map (·.1)=some 0/\Xm4 s l
def Xfj{s:Heap}:∀{l:List Nat}{j i:Nat},Xm4 s l->l[j]? = some i->(s i).map (·.1)=some 0
 |[],j,i,_,h=>by grind
 |x::l,0,i,hv,h=>by simp at h;subst h;exact hv.1
 |x::l,j+1,i,hv,h=>Xfj hv.2 (by simpa using h)
def XjX(st:St)(P:Program):ResultVar->Option (Prop×D)
 |.tmp t=>some (True,st.t t)
 |.cell a T=>match Xo P T,Xd5 st.s (st.t a)with
  |some ty,some (c,cs,o,z)=>if o+ty.size<=z/\(ty.isAgg=true\/ty.size=1)then some (c,KO ty.isAgg ((cs.drop o).take ty.size))else none
  |_,_=>none
def Xfk(st:St)(P:Program):List ResultVar->Option (Prop×List D)
 |[]=>some (True,[])
 |x::l=>match XjX st P x,Xfk st P l with
  |some (c,d),some (c',ds)=>some (c/\c',d::ds)
  |_,_=>none
def XgB:List D->D
 |[d]=>d
 |ds=>.tup ds
def Jl(P:Program)(results:List ResultVar)(fr:List Nat)(nl:Nat)(R':D->List Ob->Prop)(st:St):Prop:=
 match Xfk st P results with
 |some (c,ds)=>match shut st.s fr (XgB ds),KS st.s (Xae 0 nl)with
  |some (c1,r,fz1,fh),some (c2,obs,fz2)=>c/\c1/\c2/\Xm4 st.s (Xae 0 nl)/\fh.Nodup/\(∀i∈fr,i∉fz1++fz2)/\RetG r obs R'
  |_,_=>False
 |none=>False
end
variable {P:Program}
section
variable {C:Cx}{s:Heap}{U:Nat->Prop}{M:Mem}{β:Loc}{w:World}
def Xb2(tmps:Array Value):ResultVar->Sem Value
 |.tmp t=>pure (tmps.getD t undef)
 |.cell a t=>do loadVar t (←asAddr (tmps.getD a undef))
def Xm5{st:St}(I:UO P C st.s U M β w){tmps:Array Value}(h3:∀x,Rep P M β (st.t x) (tmps.getD x undef)){x:ResultVar}{c:Prop}{d:D}(h:XjX st P x=some (c,d))(hc:c):
 ∃v,(Xb2 tmps x).run P w=.ok v w/\Rep P M β d v:=by
 cases x with
 |tmp t=>obtain⟨rfl,rfl⟩:=h;exact⟨_,rfl,h3 t⟩
 |cell a T=>
  simp only[XjX]at h;split at h
  .rename_i hT hl;split at h
   .rename_i hcond;obtain⟨rfl,rfl⟩:=h;have⟨b,o0,hy,hlen,hcell⟩:=Xhs I hl hc (h3 a);obtain⟨v,hv,hrv⟩:=XbT hT w M β b o0 _ _ _ hlen hcond.1 hcell (λhf=>by rcases hcond.2 with h|h;(rw[h]at hf;cases hf);exact h);refine⟨v,?_,hrv⟩;unfold Xb2;simp only;rw[hy];simp[asAddr,hv]
   cases h
  simp_all
def XhD{st:St}{f:ResultVar->Sem Value}(hf:∀x c d,XjX st P x=some (c,d)->c->∃v,(f x).run P w=.ok v w/\Rep P M β d v):∀{l:List ResultVar}{c:Prop}{ds:List D},Xfk st P l=some (c,ds)->c ->
 ∃vs,(l.mapM f).run P w=.ok vs w/\RepL P M β ds vs
 |[],c,ds,h,hc=>by simp_all[Xfk,Wr,Wx,RepL]
 |x::l,c,ds,h,hc=>by
  unfold Xfk at h;split at h
  .rename_i he hl;obtain⟨rfl,rfl⟩:=h;have⟨v,h1,h2⟩:=hf _ _ _ he hc.1;have⟨vs,h4,h5⟩:=XhD hf hl hc.2;refine⟨v::vs,?_,by exact⟨_,_,rfl,h2,h5⟩⟩;simp only[List.mapM_cons,Sem.run_bind,Result.andThen_ok,Sem.run_pure,h4,h1]
  simp_all
def JF{st:St}(I:UO P C st.s U M β w){tmps:Array Value}(h3:∀x,Rep P M β (st.t x) (tmps.getD x undef)){fn:Func}{l:List ResultVar}(hl:fn.results=⟨l⟩){c:Prop}{ds:List D}(h:Xfk st P l=some (c,ds))(hc:c):
 ∃v,(results fn tmps).run P w=.ok v w/\Rep P M β (XgB ds) v:=by
 have⟨vs,h1,h2⟩:=XhD (f:=Xb2 tmps) (λx c d hx hc=>Xm5 I h3 hx hc) h hc;have e0:(fn.results.mapM (Xb2 tmps)).run P w=.ok vs.toArray w:=by rw[hl,Array.mapM_eq_mapM_toList];simp only[Sem.run_map,h1,Result.andThen_ok]
 have e:(results fn tmps).run P w=.ok (if h:vs.toArray.size=1 then vs.toArray[0]else .tuple vs.toArray) w:=by show((fn.results.mapM (Xb2 tmps)) >>= λvs=>pure (if h:vs.size=1 then vs[0]else .tuple vs):Sem Value).run P w=_;simp only[Sem.run_bind,e0,Result.andThen_ok,Sem.run_pure]
 refine⟨_,e,?_⟩;have hlen:=h2.length;match ds,vs,h2,hlen with
 |[d],[v],h2,_=>simp_all[RepL,XgB]
 |[],[],h2,_=>simp[XgB,Rep,RepL]
 |d::d'::ds,v::v'::vs,h2,_=>
  have:¬(v::v'::vs).toArray.size=1:=by simp
  simp_all[dif_neg,this,XgB,Rep]
def Xds{s:Heap}:∀{ids:List Nat}{r},KS s ids=some r->∀id∈ids,∃v E z cs fz,s id=some (v,.arr true E z [cs] fz)
 |[],r,h,id,hid=>by simp_all
 |i::ids,r,h,id,hid=>by
  unfold KS at h;split at h
  .rename_i v E z cs fz hs;split at h
   .rename_i h1 h2;rcases UY.1 hid with rfl|hid
    .exact⟨_,_,_,_,_,hs⟩
    exact Xds h2 id hid
   cases h
  simp_all
def st0(args:List D)(lent:List Ob)(n:Nat):St:=⟨λi=>(args[i]?).getD (.v undef),KR lent,n,1⟩
def XaN{G:Nat->Option (List D)}{lb:List (Nat×Nat)}{lent:List Ob}(hM:MemOK M w)(hG:∀g cs,G g=some cs->RepC P M cs g 0)(hlen:lb.length=lent.length)(hnd:(lb.map (·.1)).Nodup)(hob:∀(k:Nat)ob x,lent[k]? = some ob->lb[k]? = some x->ObRep P M Yt w (some x) ob/\ob.bx=true):UO P ⟨G,M,w,lb.map (·.1),ZX lb,M,0,none,[]⟩ (KR lent) (·<1) M (ZX lb) w:=by
 have hsplit:∀id v ob,KR lent id=some (v,ob)->LB<=id/\v=0/\lent[id-LB]? = some ob:=by
  intro id v ob h;unfold KR at h;split at h
  .rename_i hle;simp only[Ue,Wx]at h;obtain⟨o,h1,rfl,rfl⟩:=h;exact⟨hle,rfl,h1⟩
  cases h
 have hloc:∀id v x,ZX lb id v=some x->v=0/\LB<=id/\∃y,lb[id-LB]? = some y/\x=some y:=by
  intro id v x h;unfold ZX at h;split at h
  .rename_i hle;simp only[Ue]at h;obtain⟨o,h1,rfl⟩:=h;exact⟨hle.1,hle.2,o,h1,rfl⟩
  cases h
 constructor
 .exact hM
 .intro id v x h;obtain⟨rfl,_⟩:=hloc id v x h;exact Nat.zero_lt_one
 .intro id v ob h;obtain⟨h1,rfl,h2⟩:=hsplit id v ob h;have hlt:id-LB<lb.length:=by
   rw[hlen];rcases Uq (id-LB) lent.length with h'|h'
   .exact h'
   simp[WY h']at h2
  refine⟨some lb[id-LB],?_,?_⟩
  .unfold ZX;rw[Wp ⟨rfl,h1⟩];simp[hlt]
  obtain⟨g1,_⟩:=hob _ ob lb[id-LB] h2 (Wb hlt);exact g1.mono (MLe.refl _) (BLe.zero _) (λ_ _ _=>rfl) (λ_ _ _ _=>rfl)
 .intro id v ob b cb h hb;have⟨h1,rfl,h2⟩:=hsplit id v ob h;have⟨_,_,y,hy,e⟩:=hloc _ _ _ hb;simp at e;subst e;exact .inr ⟨UW.2 ⟨_,Uh hy,rfl⟩,(hob _ ob _ h2 hy).2⟩
 .intro id v ob id' v' ob' b cb cb' h h' hb hb';have⟨h1,rfl,h2⟩:=hsplit id v ob h;have⟨h1',rfl,h2'⟩:=hsplit id' v' ob' h';have⟨_,_,y,hy,e⟩:=hloc _ _ _ hb;have⟨_,_,y',hy',e'⟩:=hloc _ _ _ hb';simp at e e';subst e;subst e';have hn:=UH.1 (List.nodup_iff_pairwise_ne.1 hnd);have hlt:id-LB<lb.length:=by
   rcases Uq (id-LB) lb.length with h'|h'
   .exact h'
   simp[WY h']at hy
  have hlt':id'-LB<lb.length:=by
   rcases Uq (id'-LB) lb.length with h'|h'
   .exact h'
   simp[WY h']at hy'
  have key:∀i j,i<j->∀(hi:i<lb.length)(hj:j<lb.length),∀c c',lb[i]? = some (b,c)->lb[j]? = some (b,c')->False:=by intro i j hij hi hj c c' e e';rw[Wb hi]at e;rw[Wb hj]at e';simp only[Wr]at e e';exact hn i j (by simpa using hi) (by simpa using hj) hij (by simp[e,e'])
  rcases Nat.lt_trichotomy (id-LB) (id'-LB)with h|h|h
  .exact(key _ _ h hlt hlt' _ _ hy hy').elim
  .rw[←Nat.sub_add_cancel h1,←Nat.sub_add_cancel h1',h]
  exact(key _ _ h hlt' hlt _ _ hy' hy).elim
 .exact Kp.refl _ _
 .intro b o _;rfl
 .exact MLe.refl _
 omega
def KI{C:Cx}{fn:Func}{args:List D}{vs:List Value}{nt k:Nat}{s:Heap}{M:Mem}{β:Loc}(hd:C.df=[])(hb:BLe C.b0 β)(hvs:RepL P M β args vs)(hnt:fn.ntmps=nt)(hargs:args.length<=nt)(I:UO P C s (·<k) M β w):
 Rel P C ⟨λi=>(args[i]?).getD (.v undef),s,nt,k⟩ {tmps:=(⟨vs⟩:Array Value)++Array.replicate (fn.ntmps-(⟨vs⟩:Array Value).size) undef,defers:=[]} w:=by
 have hvl:=hvs.length;refine⟨hd.symm,by simp_all,M,β,hb,λi=>?_,I⟩;show Rep P M β ((args[i]?).getD (.v undef)) (((⟨vs⟩:Array Value)++Array.replicate (fn.ntmps-(⟨vs⟩:Array Value).size) undef).getD i undef);rcases Uq i args.length with hi|hi
 .have⟨x,hx,hr⟩:=hvs.get i args[i] (Wb hi);have:((⟨vs⟩:Array Value)++Array.replicate (fn.ntmps-(⟨vs⟩:Array Value).size) undef).getD i undef=x:=by have hlt:i<vs.length:=aa;rw[Wb hlt]at hx;simp only[Wr]at hx;simp[Array.getElem?_append,hlt,hx]
  simp_all
 have:((⟨vs⟩:Array Value)++Array.replicate (fn.ntmps-(⟨vs⟩:Array Value).size) undef).getD i undef=undef:=by have hlt:¬i<vs.length:=aa;simp only[Array.getD_eq_getD_getElem?,Array.getElem?_append];simp only[List.size_toArray,hlt,if_false];rw[Array.getElem?_replicate];split<;>rfl
 simp_all[this,Rep,XaL]
def Xaf{C:Cx}{fn:Func}{rs:List ResultVar}{fr:List Nat}{lent:List Ob}{lb:List (Nat×Nat)}{R':D->List Ob->Prop}(hlb:C.lb=lb.map (·.1))(hb0:BLe (ZX lb) C.b0)(hlen:lb.length=lent.length)(hrs:fn.results=⟨rs⟩):
 ∀a w',ZL P C (Jl P rs fr lent.length R') a w'->∃v,(results fn a.tmps).run P w'=.ok v w'/\Xm1 P C.M0 C.w0 lb R' (.returned v) w':=by
 rintro a w' ⟨st,⟨h1,h2,M',β,h0,h3,I⟩,hret⟩;unfold Jl at hret;split at hret
 .rename_i c ds hres;split at hret
  .rename_i c1 r fz1 fh c2 obs fz2 hsh hle;have⟨hc,hc1,hc2,hver,hfh,hdis,hR⟩:=hret;have⟨v,hv,hrv⟩:=JF I h3 hrs hres hc;have⟨M2,I2,hM2,hF⟩:=I.freeze (fz1++fz2);have⟨bl,hfr,hbl⟩:=shut_rep I hM2 I2 hF hdis hsh hc1 (λi hi=>W0 _ hi) hrv;have hL:Xei st.s β (Xae 0 lent.length) lb:=by
    intro j id hj;have hjl:j<lent.length:=by
     rcases Uq j lent.length with h'|h'
     .exact h'
     rw[WY (by rw[Kw];exact h')]at hj;cases hj
    rw[Vv _ _ _ hjl]at hj;simp only[Wr,Ux]at hj;subst hj;have hv0:=Xfj hver (Vv lent.length 0 j hjl);rw[Ux]at hv0;simp only[Ue]at hv0;obtain⟨⟨v',ob⟩,hs,rfl⟩:=hv0;have hβ:β (LB+j) 0=some (some (lb[j]'aa)):=by refine h0 _ _ _ (hb0 _ _ _ ?_);show ZX lb (LB+j) 0=_;unfold ZX;rw[Wp ⟨rfl,Nat.le_add_right _ _⟩];have:LB+j-LB=j:=Iv ..;rw[this];rw[Wb aa];rfl
    have hbox:∃E z cs fz,ob=.arr true E z [cs] fz:=by have hmem:=Xds hle _ (Uh (Vv lent.length 0 j hjl));rw[Ux]at hmem;obtain⟨v,E,z,cs,fz,hs'⟩:=hmem;rw[hs]at hs';simp only[Wr,Wx]at hs';exact⟨E,z,cs,fz,hs'.2⟩
    obtain⟨E,z,cs,fz,rfl⟩:=hbox;exact⟨0,E,z,cs,fz,lb[j]'aa,hs,Wb aa,hβ⟩
   have⟨g1,g2⟩:=XaH I hM2 I2 hF hle hc2 (λx hx=>Ua _ hx) hL (by rw[Kw,hlen]);have⟨r',hrr,hR⟩:=hR;have⟨bl',hfr',hbb⟩:=fitsR_rep hrr hfr;refine⟨v,hv,v,r',obs,M2,bl',rfl,hR,hlb▸I.keep,I2.mem,λb o hb=>?_,?_,g2,hfr',hbb▸hbl.nodup I hfh⟩
   .exact I2.old b o hb
   rw[g1,Kw,hlen]
  exact hret.elim
 simp_all
def Xde{G:Nat->Option (List D)}{f:FuncId}{fn:Func}{body:Code}{rs:List ResultVar}{args:List D}{lent:List Ob}{R':D->List Ob->Prop}(fr:List Nat)(nt:Nat)(hf:P.funcs[f]? = some fn)(hb:fn.body=some body)(hn:(fn.name== "runtime.NumGoroutine")=false)(hrs:fn.results=⟨rs⟩)(hnt:fn.ntmps=nt)(hargs:args.length<=nt)(h:∀(C:Cx)x,C.G=G->C.lb.length=lent.length->WfL P args->∀a w,Rel P (C.sub 0 x) (st0 args lent nt) a w->sem P (C.sub 0 x) (ZL P (C.sub 0 x) (Jl P rs fr lent.length R')) [.code body] none a w):YK P G f args lent R':=by
 refine⟨⟨fn,hf,by grind,hn⟩,λM w vs lb hM hG hlen hnd hob hvs=>?_⟩;refine calls_of_wp hf hb ?_;have I0:=XaN (G:=G) hM hG hlen hnd hob;have hrel:Rel P ⟨G,M,w,lb.map (·.1),ZX lb,M,0,none,[]⟩ (st0 args lent nt) _ w:=KI rfl (BLe.refl _) hvs hnt hargs I0;have hrun:=h ⟨G,M,w,lb.map (·.1),ZX lb,M,0,none,[]⟩ (M,ZX lb) rfl (by simp_all) hvs.wf _ _ hrel;refine wp_mono ((wpIn_wide (n:=0)).1 hrun) ?_;have fin:∀a w',ZL P ⟨G,M,w,lb.map (·.1),ZX lb,M,0,none,[]⟩ (Jl P rs fr lent.length R') a w'->a.defers=[]/\∃v,(results fn a.tmps).run P w'=.ok v w'/\Xm1 P M w lb R' (.returned v) w':=λa w' h=>⟨by have⟨st,h1,_⟩:=h;exact h1.1,Xaf rfl (BLe.refl _) hlen hrs a w' h⟩
 intro e a w' hq;cases e with
 |normal=>exact fin a w' hq
 |ret=>exact fin a w' hq
 |exit id=>assumption
 |_=>exact hq.elim
def Yr{G:Nat->Option (List D)}{f:FuncId}{fn:Func}{body:Code}{rs:List ResultVar}{args:List D}{lent:List Ob}{R':D->List Ob->Prop}(m:Nat)(fr:List Nat)(nt:Nat)(hf:P.funcs[f]? = some fn)(hb:fn.body=some body)(hn:(fn.name== "runtime.NumGoroutine")=false)(hrs:fn.results=⟨rs⟩)(hnt:fn.ntmps=nt)(hargs:args.length<=nt)(h:∀(C:Cx)x,C.G=G->WfL P args->run P (C.sub 0 x) (Jl P rs fr lent.length R') m [.code body] (st0 args lent nt)):YK P G f args lent R':=
 Xde fr nt hf hb hn hrs hnt hargs λC x hG _ hwf a w hr=>Ym m _ hr (h C x hG hwf)
def stI(args:List D)(s:Heap)(n k:Nat):St:=⟨λi=>(args[i]?).getD (.v undef),s,n,k⟩
def Xfl(P:Program)(rs:List ResultVar)(K:D->Heap->Nat->Prop)(st:St):Prop:=match Xfk st P rs with
 |some (c,ds)=>c/\K (XgB ds) st.s st.k
 |none=>False
def kOf(dst:Option Nat)(st:St)(K:St->Prop):D->Heap->Nat->Prop:=λd s k=>K (nxS st (XM dst st.n) d s st.n k)
def CallX.inl{C:Cx}{f:FuncId}{args:List D}{dst:Option Nat}{st:St}{K:St->Prop}(off:Nat){fn:Func}{rs:List ResultVar}{nt:Nat}(m:Nat)(hk:(P.funcs[f]?,fn.body,fn.name== "runtime.NumGoroutine",fn.results,fn.ntmps,args.length.ble nt)=(some fn,some (fn.body.get!),false,⟨rs⟩,nt,true))(h:∀x,run P (C.sub off x) (Xfl P rs (kOf dst st K)) m [.code (fn.body.get!)] (stI args st.s nt st.k))(t:Prf args):CallX P C f args dst st K t:=by
 injection hk with hf hk;injection hk with hb hk;injection hk with hn hk;injection hk with hrs hk;injection hk with hnt hargs;have hargs:=Nat.le_of_ble_eq_true hargs;refine⟨⟨fn,hf,by grind,hn⟩,λM β w vs h0 I hvs=>?_⟩;refine calls_of_wp hf hb ?_;have I0:UO P (C.sub off (M,β)) st.s (·<st.k) M β w:=⟨I.mem,I.used,I.obs,I.own,I.inj,I.keep,I.old,MLe.refl _,λg cs hg=>RepC.mono I.le (I.glob g cs hg)⟩
 have hrel:Rel P (C.sub off (M,β)) (stI args st.s nt st.k) _ w:=KI rfl (BLe.refl _) hvs hnt hargs I0;have hrun:=Ym m _ hrel (h (M,β));refine wp_mono ((wpIn_wide (n:=0)).1 hrun) ?_;have fin:∀a w',ZL P (C.sub off (M,β)) (Xfl P rs (kOf dst st K)) a w'->a.defers=[]/\∃v,(results fn a.tmps).run P w'=.ok v w' /\
  (λe w'=>∃v d s' k' M' β',e=Ending.returned v/\UO P C s' (·<k') M' β' w'/\Rep P M' β' d v/\MLe M M'/\BLe β β'/\K (nxS st (XM dst st.n) d s' st.n k')) (.returned v) w':=by
  rintro a w' ⟨st',⟨h1,h2,M',β',h0',h3,I'⟩,hret⟩
  refine⟨h1,?_⟩
  unfold Xfl at hret
  split at hret
  .rename_i c ds hres
   have⟨v,hv,hrv⟩:=JF I' h3 hrs hres hret.1
   exact⟨v,hv,v,_,_,_,M',β',rfl,⟨I'.mem,I'.used,I'.obs,I'.own,I'.inj,I'.keep,I'.old,I.le.trans I'.le,I.glob⟩,hrv,I'.le,h0',hret.2⟩
  .grind
 intro e a w' hq;cases e with
 |normal=>exact fin a w' hq
 |ret=>exact fin a w' hq
 |exit id=>assumption
 |_=>exact hq.elim
def YW{G:Nat->Option (List D)}{f:FuncId}{E z:Nat}{args:List D}{lent:List Ob}{R':D->List Ob->Prop}(h:∀a cap,YK P G f (.v (.slice a 0 cap)::args) lent R'):YK P G f (.isl E z []::args) lent R':=by refine⟨(h none 0).1,λM w vs lb h1 h2 h3 h4 h5 h6=>?_⟩;obtain⟨x,xs,rfl,⟨_,_,_,a,cap,rfl,_⟩,h7⟩:=h6;refine(h a cap).2 M w _ lb h1 h2 h3 h4 h5 ?_;exact⟨_,_,rfl,⟨rfl,trivial⟩,h7⟩
end
variable {P:Program}{C:Cx}{R:St->Prop}
section
variable {n:Nat}{k:List It}{st:St}
def Xm6:run P C R (n+1) [] st=R st:=propext Iff.rfl
def XjY{Q:St->Prop}:run P C R (n+1) (.stop Q::k) st=Q st:=propext Iff.rfl
def Xm7{i:Nat}:run P C R (n+1) (.blk i::k) st=run P C R n k st:=propext Iff.rfl
def XjZ{full:Array Oper}:run P C R (n+1) (.ops full []::k) st=run P C R n k st:=propext Iff.rfl
def Xpo{full:Array Oper}{o:Oper}{rest:List Oper}:run P C R (n+1) (.ops full (o::rest)::k) st=XaK full o st
 (λst=>VU P C o st (run P C R n (.ops full rest::k)))
 (λst=>Xfh (XM o.dst st.n) st.n (st.k+1) (λdst m j=>run P C R n (.ops full rest::k) (nx st dst (.v undef) [] m j)) trivial):=propext Iff.rfl
def Xj0:run P C R (n+1) (.code .skip::k) st=run P C R n k st:=propext Iff.rfl
def Xm8{x y:Code}:run P C R (n+1) (.code (.seq x y)::k) st=run P C R n (.code x::.code y::k) st:=propext Iff.rfl
def Xj1{c:Operand}{x y:Code}:run P C R (n+1) (.code (.cond c x y)::k) st=Xa8 (ev st.t C.G c) c st (run P C R n (.code x::k)) (run P C R n (.code y::k)) trivial:=propext Iff.rfl
def XiH{i:Nat}{c:Code}:run P C R (n+1) (.code (.block i c)::k) st=run P C R n (.code c::.blk i::k) st:=propext Iff.rfl
def XiI{c:Code}:run P C R (n+1) (.code (.scope c)::k) st=run P C R n (.code c::k) st:=propext Iff.rfl
def XiJ{i:Nat}:run P C R (n+1) (.code (.label i)::k) st=run P C R n k st:=propext Iff.rfl
def Xj2{i:Nat}:run P C R (n+1) (.code (.exit i)::k) st=XhC (Xa9 i k) (λk'=>run P C R n k' st) trivial:=propext Iff.rfl
def Xm9:run P C R (n+1) (.code .ret::k) st=R st:=propext Iff.rfl
def Xj3{c:Code}:run P C R (n+1) (.code (.loop c)::k) st=LoopG P C R c k st trivial:=propext Iff.rfl
def XgC{i:Nat}{ops:List Oper}:run P C R (n+1) (.code (.region i ⟨ops⟩ false)::k) st=run P C R n (.ops ⟨ops⟩ ops::k) st:=propext Iff.rfl
def XiK{i:Nat}{ops:Array Oper}:run P C R (n+1) (.code (.region i ops true)::k) st=DrawnG P C R i ops k st trivial:=propext Iff.rfl
variable {full:Array Oper}{dst:Option Nat}{op:Op}{ty:Nat}{pos:String}{af:Array Edge}{x y:St->Prop}{K:St->Prop}
def Xfm:XaK full ⟨dst,op,ty,pos,af,none⟩ st x y=x st:=propext Iff.rfl
def Xfn{g:Nat}{want:Bool}:XaK full ⟨dst,op,ty,pos,af,some (g,want)⟩ st x y=Xek ((full[g]?).bind (·.dst)) want st x y trivial:=propext Iff.rfl
def Xfo{r:Nat}{want:Bool}{t':Prf (some r)}:Xek (some r) want st x y t'=ZQ (st.t r) r want st x y trivial:=propext Iff.rfl
def XiL{r:Nat}{t':Prf (D.v (.bool true))}:ZQ (.v (.bool true)) r true st x y t'=x st:=by simp[ZQ,J9]
def XiM{r:Nat}{t':Prf (D.v (.bool true))}:ZQ (.v (.bool true)) r false st x y t'=y st:=by simp[ZQ,J9]
def XiN{r:Nat}{t':Prf (D.v (.bool false))}:ZQ (.v (.bool false)) r true st x y t'=y st:=by simp[ZQ,J9]
def XiO{r:Nat}{t':Prf (D.v (.bool false))}:ZQ (.v (.bool false)) r false st x y t'=x st:=by simp[ZQ,J9]
def Xj4{r:Nat}{want:Bool}{vs:Array Value}{t':Prf (D.v (.tuple vs))}:ZQ (.v (.tuple vs)) r want st x y t'=y st:=rfl
def Xna{c:Operand}{t':Prf (D.v (.bool true))}:Xa8 (.v (.bool true)) c st x y t'=x st:=by simp[Xa8,J9]
def Xnb{c:Operand}{t':Prf (D.v (.bool false))}:Xa8 (.v (.bool false)) c st x y t'=y st:=by simp[Xa8,J9]
def XgD{f:List It->Prop}{t':Prf (some k)}:XhC (some k) f t'=f k:=propext Iff.rfl
def Xj5{m j:Nat}{f:Option Nat->Nat->Nat->Prop}{t':Prf dst}:Xfh dst m j f t'=f dst m j:=propext Iff.rfl
def XiP{o:Oper}:VU P C o st K=Xdq P C (JD o.op) o st K trivial:=propext Iff.rfl
def XgE{o:Oper}{t':Prf (none:Option Call)}:Xdq P C none o st K t'=Xa7 (opF P (Xfg C.off o.dst) st.k (ev st.t C.G) st.s o.op) (XM o.dst st.n) st.n (st.k+1) (λdst d u n k=>K (nx st dst d u n k)) trivial:=propext Iff.rfl
def XgF{o:Oper}{c:Call}{t':Prf (some c)}:Xdq P C (some c) o st K t'=Xb1 P C (callee (ev st.t C.G) c) c o.dst st K trivial:=propext Iff.rfl
def Xfp{f:Nat}{args:List D}{c:Call}{dst:Option Nat}{t':Prf (some (f,args))}:Xb1 P C (some (f,args)) c dst st K t'=CallX P C f args dst st K trivial:=propext Iff.rfl
def Xfq{c:Call}{dst:Option Nat}{t':Prf (none:Option (Nat×List D))}:Xb1 P C none c dst st K t'=Xej P C (Xbt (ev st.t C.G) c) dst st K trivial:=propext Iff.rfl
def Xfr{l:Nat}{args:List D}{dst:Option Nat}{t':Prf (some (l,args))}:Xej P C (some (l,args)) dst st K t'=YieldX P C l args dst st K trivial:=propext Iff.rfl
def XgG{c:Prop}{d:D}{u:Up}{m j:Nat}{f:Option Nat->D->Up->Nat->Nat->Prop}{t':Prf (some (c,d,u))}:Xa7 (some (c,d,u)) dst m j f t'=(c/\f dst d u m j):=propext Iff.rfl
def Xfs{G:Nat->Option (List D)}{f:Nat}{cc:Prop}{as:List D}{ids:List Nat}{obs:List Ob}{fz:List Nat}{K:List Nat->List Nat->D->List Ob->Prop}{t':Prf (some (cc,as,ids,obs,fz))}:Xgz P G f (some (cc,as,ids,obs,fz)) K t'=(cc/\CallG P G f as obs (K ids fz) trivial):=propext Iff.rfl
def Xnc{d:D}{u:Up}{m j:Nat}{f:Option Nat->D->Up->Nat->Nat->Prop}{t':Prf (d,u)}:Xpn (d,u) dst m j f t'=f dst d u m j:=propext Iff.rfl
variable {d:D}{u:Up}{m j i x:Nat}
def XsO:(nx st dst d u m j).n=m:=rfl
def XsP:(nx st dst d u m j).k=j:=rfl
def XsQ{i x:Nat}:(nx st (some x) d u m j).t i=if i=x then d else st.t i:=rfl
def XqR{i:Nat}:(nx st none d u m j).t i=st.t i:=rfl
def XqS:(nx st dst d [] m j).s=st.s:=rfl
def XsR{e:Nat×Nat×Ob}:(nx st dst d (e::u) m j).s=app st.s (e::u):=rfl
def XqT{s:Heap}:(nxS st dst d s m j).n=m:=rfl
def XqU{s:Heap}:(nxS st dst d s m j).k=j:=rfl
def XqV{s:Heap}{i x:Nat}:(nxS st (some x) d s m j).t i=if i=x then d else st.t i:=rfl
def Xpp{s:Heap}{i:Nat}:(nxS st none d s m j).t i=st.t i:=rfl
def XqW{s:Heap}:(nxS st dst d s m j).s=s:=rfl
def XqX{args:List D}{s:Heap}{n k i:Nat}:(stI args s n k).t i=(args[i]?).getD (.v undef):=rfl
def XqY{args:List D}{s:Heap}{n k:Nat}:(stI args s n k).s=s:=rfl
def XqZ{args:List D}{s:Heap}{n k:Nat}:(stI args s n k).n=n:=rfl
def Xq0{args:List D}{s:Heap}{n k:Nat}:(stI args s n k).k=k:=rfl
def Xpq{s:Heap}{k:Nat}:kOf dst st K d s k=K (nxS st (XM dst st.n) d s st.n k):=rfl
def Xnd{C:Cx}{n:Nat}{x:Mem×Loc}:(C.sub n x).off=n:=rfl
def Xq1{C:Cx}{n:Nat}{x:Mem×Loc}:(C.sub n x).G=C.G:=rfl
def Xq2{args:List D}{lent:List Ob}{n i:Nat}:(st0 args lent n).t i=(args[i]?).getD (.v undef):=rfl
def Xq3{args:List D}{lent:List Ob}{n:Nat}:(st0 args lent n).s=KR lent:=rfl
def Xq4{args:List D}{lent:List Ob}{n:Nat}:(st0 args lent n).n=n:=rfl
def Xq5{args:List D}{lent:List Ob}{n:Nat}:(st0 args lent n).k=1:=rfl
def Zj{s:Heap}:app s []=s:=rfl
def YN{s:Heap}{i v:Nat}{o:Ob}:app s ((i,v,o)::u)=app (upd s i (some (v,o))) u:=rfl
def Z5{s:Heap}{i j:Nat}{x:Option (Nat×Ob)}:upd s i x j=if j=i then x else s j:=rfl
def XiQ{i:Nat}:KR [] i=none:=by simp[KR]
def KU{ls:List Ob}{j:Nat}:KR ls (LB+j)=(ls[j]?).map (λo=>(0,o)):=by unfold KR;simp
def Xpr:IntKind.min .i8 = -128:=ae
def Xps:IntKind.max .i8=127:=ae
def Xne:IntKind.min .i16 = -32768:=ae
def Xnf:IntKind.max .i16=32767:=ae
def Xng:IntKind.min .i32 = -2147483648:=ae
def Xnh:IntKind.max .i32=2147483647:=ae
def Xni:IntKind.min .i64 = -9223372036854775808:=ae
def Xnj:IntKind.max .i64=9223372036854775807:=ae
def Xpt:IntKind.min .u8=0:=ae
def Xpu:IntKind.max .u8=255:=ae
def Xnk:IntKind.min .u16=0:=ae
def Xnl:IntKind.max .u16=65535:=ae
def Xnm:IntKind.min .u32=0:=ae
def Xnn:IntKind.max .u32=4294967295:=ae
def XhE:IntKind.min .u64=0:=ae
def XhF:IntKind.max .u64=18446744073709551615:=ae
def Y5{r:Nat}{d:D}(h:st.t r=d):VH st r d=st:=by
 unfold VH;have:upd st.t r d=st.t:=by
  funext j;unfold upd;split
  .simp_all
  rfl
 rw[this]
def Xq{b:Bool}{r:Nat}{x y:St->Prop}(hr:st.t r=.v (.bool b))(h1:b=true->x (VH st r (.v (.bool true))))(h2:b=false->y (VH st r (.v (.bool false))))(t':Prf (D.v (.bool b))):Xa8 (.v (.bool b)) (.tmp r) st x y t':=
 ⟨λe=>by simp_all[Y5,hr],λe=>by simp_all[Y5,hr]⟩
def Xh{b:Bool}{r:Nat}{x y:St->Prop}(hr:st.t r=.v (.bool b))(h1:b=true->x (VH st r (.v (.bool true))))(h2:b=false->y (VH st r (.v (.bool false))))(t':Prf (D.v (.bool b))):ZQ (.v (.bool b)) r true st x y t':=
 ⟨λe=>by simp_all[Y5,hr],λe=>by simp_all[Y5,hr]⟩
def Xi{b:Bool}{r:Nat}{x y:St->Prop}(hr:st.t r=.v (.bool b))(h1:b=true->y (VH st r (.v (.bool true))))(h2:b=false->x (VH st r (.v (.bool false))))(t':Prf (D.v (.bool b))):ZQ (.v (.bool b)) r false st x y t':=
 ⟨λe=>by simp_all[Y5,hr],λe=>by simp_all[Y5,hr]⟩
def Xpv{r i:Nat}{d:D}:(VH st r d).t i=if i=r then d else st.t i:=rfl
def Xpw{r:Nat}{d:D}:(VH st r d).s=st.s:=rfl
def Xpx{r:Nat}{d:D}:(VH st r d).n=st.n:=rfl
def Xpy{r:Nat}{d:D}:(VH st r d).k=st.k:=rfl
def CallG.of{G:Nat->Option (List D)}{f:FuncId}{args eargs:List D}{obs:List Ob}{R:D->List Ob->Prop}{K:D->List Ob->Prop}(h:YK P G f eargs obs R)(hf:ZH args eargs)(hK:∀r ls,R r ls->K r ls)(t':Prf args):CallG P G f args obs K t':=
 ⟨eargs,R,hf,h,hK⟩
end
variable {P:Program}
structure En where
 i:Nat
 o:Oper
 anc:List Nat
 ws:List Nat
 ms:List Nat
 mi:List Nat
def ZY(ms:List Nat)(t:Nat->D):Nat->D:=λx=>if ms.contains x then .any else t x
def Zd(mi:List Nat)(s:Heap):Heap:=λx=>if mi.contains x then none else s x
inductive Kd where
 |det (c:Prop) (d:D) (u:Up)
 |call (c:Prop) (f:FuncId) (as:List D) (ids:List Nat) (obs:List Ob) (fz:List Nat)
 |ro (f:FuncId) (args:List D)
def kd1(x:Option (Prop×D×Up)):Option Kd:=match x with
 |some (c,d,u)=>some (.det c d u)
 |none=>none
def kd2(f:FuncId)(args:List D)(x:Option (Prop×List D×List Nat×List Ob×List Nat)):Option Kd:=match x with
 |some (cc,as,ids,obs,fz)=>some (.call cc f as ids obs fz)
 |none=>some (.ro f args)
def roK(f:Nat):Nat:=1000000000+f
def Xel(G:Nat->Option (List D))(f:Nat){α:Type}(x:Option α):Option α:=if(G (roK f)).isSome then none else x
def XiR{G:Nat->Option (List D)}{f:Nat}{α:Type}{x:Option α}{y:α}(h:Xel G f x=some y):x=some y:=by unfold Xel at h;simp_all
def kd3(G:Nat->Option (List D))(s:Heap)(x:Option (FuncId×List D)):Option Kd:=match x with
 |some (f,args)=>kd2 f args (Xel G f (YY s args))
 |none=>none
def RoA(P:Program)(C:Cx)(s:Heap)(args eargs:List D):Prop:=∀s' U M β w vs,HLe s s'->UO P C s' U M β w->RepL P M β args vs->∃M1,MLe M M1/\MemOK M1 w/\RepL P M1 Yt eargs vs
def kdO(P:Program)(C:Cx)(ver:Nat)(o:Oper)(t:Nat->D)(s:Heap):Option Kd:=match JD o.op with
 |some c=>kd3 C.G s (callee (ev t C.G) c)
 |none=>kd1 (opF P (Xfg C.off o.dst) ver (ev t C.G) s o.op)
def kdG(d:D)(_:Nat)(want:Bool)(x:Option Kd):Option Kd:=match d with
 |.v (.bool b)=>bif b==want then x else some (.det True (.v undef) [])
 |.v (.tuple _)=>some (.det True (.v undef) [])
 |_=>none
def kdE(P:Program)(C:Cx)(full:Array Oper)(ver:Nat)(o:Oper)(t:Nat->D)(s:Heap):Option Kd:=match o.guard with
 |none=>kdO P C ver o t s
 |some (g,want)=>match (full[g]?).bind (·.dst)with
  |some r=>kdG (t r) r want (kdO P C ver o t s)
  |none=>none
def Kt(u:Up)(ws:List Nat):Prop:=∀x∈u,x.1∈ws
def doK(P:Program)(C:Cx)(e:En)(ver:Nat)(s:Heap)(x:Option Kd)(F:D->Up->Prop):Prop:=match x with
 |none=>False
 |some (.det c d u)=>c/\Kt u e.ws/\F d u
 |some (.call c f as ids obs fz)=>c/\∃eargs R,ZH as eargs/\YK P C.G f eargs obs R/\(∃r ls,R r ls)/\∀r ls,R r ls ->
  Kt (aft s ids fz r ls ver (64*(C.off+e.o.dst.getD 0))).2 e.ws/\F (aft s ids fz r ls ver (64*(C.off+e.o.dst.getD 0))).1 (aft s ids fz r ls ver (64*(C.off+e.o.dst.getD 0))).2
 |some (.ro f args)=>∃eargs R,RoA P C s args eargs/\YK P C.G f eargs [] R/\(∃r ls,R r ls)/\∀r ls,R r ls->scal r=true/\F r []
def Jm(P:Program)(C:Cx)(full:Array Oper)(k0:Nat)(e:En)(st:St)(F:St->Prop):Prop:=
 doK P C e (k0+e.i) (Zd e.mi st.s) (kdE P C full (k0+e.i) e.o (ZY e.ms st.t) (Zd e.mi st.s)) λd u=>F (nx st (XM e.o.dst st.n) d u st.n st.k)
def dr(P:Program)(C:Cx)(full:Array Oper)(k0:Nat):List En->St->(St->Prop)->Prop
 |[],st,K=>K st
 |e::es,st,K=>Jm P C full k0 e st λst=>dr P C full k0 es st K
def Xag(o:Oper):Bool:=(JD o.op).isSome
def inB(x:Option Nat)(l:List Nat):Bool:=match x with
 |some x=>l.contains x
 |none=>true
def Xb3(e j:En):Bool:=
 (e.o.dst != j.o.dst||e.o.dst.isNone)&&inB e.o.dst j.ms&&inB j.o.dst e.ms&&e.ws.all (λx=>j.mi.contains x)&&j.ws.all (λx=>e.mi.contains x)&&e.ws.all (λx=>!j.ws.contains x)&&!(Xag e.o&&Xag j.o)
section
variable {C:Cx}{full:Array Oper}{k0:Nat}{st:St}
def Xj6{e:En}{ver:Nat}{s:Heap}{x:Option Kd}{F F':D->Up->Prop}(h:∀d u,F d u->F' d u)(hd:doK P C e ver s x F):doK P C e ver s x F':=by
 unfold doK at hd⊢;split at hd
 .omega
 .simp_all
 .have⟨hc,eargs,R,h1,h2,h3,h4⟩:=hd;exact⟨hc,eargs,R,h1,h2,h3,λr ls hR=>⟨(h4 r ls hR).1,h _ _ (h4 r ls hR).2⟩⟩
 have⟨eargs,R,h1,h2,h3,h4⟩:=hd;exact⟨eargs,R,h1,h2,h3,λr ls hR=>⟨(h4 r ls hR).1,h _ _ (h4 r ls hR).2⟩⟩
def XgH{e:En}{F F':St->Prop}(h:∀st,F st->F' st)(hd:Jm P C full k0 e st F):Jm P C full k0 e st F':=
 Xj6 (λ_ _ hF=>h _ hF) hd
def Xj7{ms:List Nat}{dst:Option Nat}{n m k:Nat}{d:D}{u:Up}(h:inB dst ms=true):ZY ms (nx st (XM dst n) d u m k).t=ZY ms st.t:=by
 funext x;unfold ZY;split
 .rfl
 rename_i hx;cases dst with
 |none=>rfl
 |some y=>
  simp only[XM];split
  .simp only[nx,upd];split
   .rename_i e;subst e;exact absurd h hx
   rfl
  rfl
def Jn{s:Heap}{i:Nat}:∀{u:Up},(∀x∈u,x.1≠i)->app s u i=s i:=by
 intro u;induction u generalizing s with
 |nil=>intro _;rfl
 |cons x u ih=>intro h;have⟨j,v,o⟩:=x;show app (upd s j _) u i=s i;rw[ih λy hy=>h y (Ul _ hy),Yb _ _ _ _ (Ne.symm (h (j,v,o) ab))]
def Xj8{mi ws:List Nat}{dst:Option Nat}{m k:Nat}{d:D}{u:Up}(hu:Kt u ws)(h:∀x∈ws,mi.contains x=true):Zd mi (nx st dst d u m k).s=Zd mi st.s:=by
 funext x;unfold Zd;split
 .rfl
 rename_i hx;exact Jn λy hy e=>hx (e▸h _ (hu y hy))
def Xdt{s s':Heap}{i:Nat}:∀{u:Up},s i=s' i->app s u i=app s' u i:=by
 intro u;induction u generalizing s s' with
 |nil=>intro h;exact h
 |cons x u ih=>intro h;have⟨j,v,o⟩:=x;refine ih ?_;unfold upd;simp_all
def Xj9{s:Heap}{u u':Up}(h:∀x∈u,∀y∈u',x.1≠y.1):app (app s u) u'=app (app s u') u:=by
 funext i;by_cases hi:∃x∈u,x.1=i
 .obtain⟨x,hx,rfl⟩:=hi;rw[Jn λy hy e=>h x hx y hy e.symm];exact Xdt (Jn λy hy e=>h x hx y hy e.symm).symm
 have hn:∀x∈u,x.1≠i:=λx hx e=>hi ⟨x,hx,e⟩;rw[Jn (s:=app s u') hn];exact Xdt (Jn hn)
def Xah{e j:Option Nat}{n k:Nat}{d d':D}{u u':Up}(hne:e≠j\/e=none)(h:∀x∈u,∀y∈u',x.1≠y.1):
 nx (nx st (XM e n) d u n k) (XM j n) d' u' n k=nx (nx st (XM j n) d' u' n k) (XM e n) d u n k:=by
 have ht:(nx (nx st (XM e n) d u n k) (XM j n) d' u' n k).t=(nx (nx st (XM j n) d' u' n k) (XM e n) d u n k).t:=by
  funext x;cases e with
  |none=>rfl
  |some a=>
   cases j with
   |none=>rfl
   |some b=>simp only[XM];split<;>split<;>simp only[nx,upd];grind
 have hs:(nx (nx st (XM e n) d u n k) (XM j n) d' u' n k).s=(nx (nx st (XM j n) d' u' n k) (XM e n) d u n k).s:=Xj9 h;have:∀(a b:St),a.t=b.t->a.s=b.s->a.n=b.n->a.k=b.k->a=b:=by rintro⟨_,_,_,_⟩ ⟨_,_,_,_⟩ h1 h2 h3 h4;simp only at h1 h2 h3 h4;subst h1;subst h2;subst h3;subst h4;rfl
 exact this _ _ ht hs rfl rfl
def Kd.isDet:Kd->Bool
 |.det _ _ _=>true
 |_=>false
def Jo{ver:Nat}{o:Oper}{t:Nat->D}{s:Heap}{x:Kd}(h:kdE P C full ver o t s=some x)(hx:x.isDet=false):Xag o=true:=by
 have key:kdO P C ver o t s=some x->Xag o=true:=by
  intro h;unfold kdO at h;unfold Xag;split at h
  .simp_all
  unfold kd1 at h;split at h
  .simp at h;subst h;cases hx
  simp_all
 unfold kdE at h;split at h
 .simp_all
 split at h
 .unfold kdG at h;split at h
  .rename_i b _;cases hb:(b==_)with
   |true=>rw[hb]at h;exact key h
   |false=>rw[hb]at h;simp at h;subst h;cases hx
  .simp at h;subst h;cases hx
  cases h
 simp_all
def XgI{e j:En}{F:St->Prop}(hap:Xb3 e j=true)(h:Jm P C full k0 e st λst=>Jm P C full k0 j st F):Jm P C full k0 j st λst=>Jm P C full k0 e st F:=by
 unfold Xb3 at hap;simp only[W5,Ij,bne_iff_ne,ne_eq,Option.isNone_iff_eq_none,Ud,IK]at hap;have⟨⟨⟨⟨⟨⟨hdst,hem⟩,hjm⟩,hew⟩,hjw⟩,hdis⟩,hcc⟩:=hap;have hdis':∀{u u':Up},Kt u e.ws->Kt u' j.ws->∀x∈u,∀y∈u',x.1≠y.1:=by
  intro u u' hu hu' x hx y hy e';have h1:=hdis x.1 (hu x hx);have h2:=hu' y hy;rw[←e']at h2;have:j.ws.contains x.1=true:=by simpa using h2
  rw[h1]at this;cases this
 have vj:∀{d u},Kt u e.ws->ZY j.ms (nx st (XM e.o.dst st.n) d u st.n st.k).t=ZY j.ms st.t/\Zd j.mi (nx st (XM e.o.dst st.n) d u st.n st.k).s=Zd j.mi st.s:=
  λhu=>⟨Xj7 hem,Xj8 hu hew⟩
 have ve:∀{d u},Kt u j.ws->ZY e.ms (nx st (XM j.o.dst st.n) d u st.n st.k).t=ZY e.ms st.t/\Zd e.mi (nx st (XM j.o.dst st.n) d u st.n st.k).s=Zd e.mi st.s:=
  λhu=>⟨Xj7 hjm,Xj8 hu hjw⟩
 unfold Jm at h⊢;generalize hke:kdE P C full (k0+e.i) e.o (ZY e.ms st.t) (Zd e.mi st.s)=ke at h;generalize hkj:kdE P C full (k0+j.i) j.o (ZY j.ms st.t) (Zd j.mi st.s)=kj;cases ke with
 |none=>exact h.elim
 |some ke=>
  cases ke with
  |det c d u=>
   have⟨hc,hu,h⟩:=h;have⟨v1,v2⟩:=vj (d:=d) hu;dsimp only at h;rw[v1,v2,hkj]at h;cases kj with
   |none=>assumption
   |some kj=>
    cases kj with
    |det c' d' u'=>
     have⟨hc',hu',h⟩:=h;refine⟨hc',hu',?_⟩;have⟨v3,v4⟩:=ve (d:=d') hu';try dsimp only
     rw[v3,v4,hke];refine⟨hc,hu,?_⟩;have:=Xah (st:=st) (e:=e.o.dst) (j:=j.o.dst) (n:=st.n) (k:=st.k) (d:=d) (d':=d') hdst (hdis' hu hu');exact(congrArg F this).mp h
    |call c' f as ids obs fz=>
     have⟨hc',eargs,R,h1,h2,h3,h4⟩:=h;refine⟨hc',eargs,R,h1,h2,h3,λr ls hR=>?_⟩;have⟨hu',h⟩:=h4 r ls hR;refine⟨hu',?_⟩;have⟨v3,v4⟩:=ve (d:=(aft (Zd j.mi st.s) ids fz r ls (k0+j.i) (64*(C.off+j.o.dst.getD 0))).1) hu';try dsimp only
     rw[v3,v4,hke];refine⟨hc,hu,?_⟩;have:=Xah (st:=st) (e:=e.o.dst) (j:=j.o.dst) (n:=st.n) (k:=st.k) (d:=d) (d':=(aft (Zd j.mi st.s) ids fz r ls (k0+j.i) (64*(C.off+j.o.dst.getD 0))).1) hdst (hdis' hu hu');exact(congrArg F this).mp h
    |ro f' args'=>
     have⟨eargs,R,h1,h2,h3,h4⟩:=h;refine⟨eargs,R,h1,h2,h3,λr ls hR=>⟨(h4 r ls hR).1,?_⟩⟩;have h:=(h4 r ls hR).2;have hu':Kt [] j.ws:=λx hx=>by grind
     have⟨v3,v4⟩:=ve (d:=r) hu';try dsimp only
     rw[v3,v4,hke];refine⟨hc,hu,?_⟩;have:=Xah (st:=st) (e:=e.o.dst) (j:=j.o.dst) (n:=st.n) (k:=st.k) (d:=d) (d':=r) hdst (hdis' hu hu');exact(congrArg F this).mp h
  |ro f args=>
   have hce:=Jo hke rfl;have⟨eargs,R,h1,h2,⟨r0,ls0,hR0⟩,h4⟩:=h;have hu:Kt [] e.ws:=λx hx=>by grind
   obtain⟨_,h0⟩:=h4 r0 ls0 hR0;obtain⟨v1,v2⟩:=vj (d:=r0) hu;dsimp only at h0;rw[v1,v2,hkj]at h0;cases kj with
   |none=>assumption
   |some kj=>
    cases kj with
    |call c' f' as' ids' obs' fz'=>have hcj:=Jo hkj rfl;simp_all
    |ro f' args'=>have hcj:=Jo hkj rfl;simp_all
    |det c' d' u'=>
     refine⟨h0.1,h0.2.1,?_⟩;obtain⟨v3,v4⟩:=ve (d:=d') h0.2.1;try dsimp only
     rw[v3,v4,hke];refine⟨eargs,R,h1,h2,⟨r0,ls0,hR0⟩,λr ls hR=>⟨(h4 r ls hR).1,?_⟩⟩;have h:=(h4 r ls hR).2;obtain⟨v1,v2⟩:=vj (d:=r) hu;dsimp only at h;rw[v1,v2,hkj]at h;have:=Xah (st:=st) (e:=e.o.dst) (j:=j.o.dst) (n:=st.n) (k:=st.k) (d:=r) (d':=d') hdst (hdis' hu h0.2.1);exact(congrArg F this).mp h.2.2
  |call c f as ids obs fz=>
   have hce:=Jo hke rfl;obtain⟨hc,eargs,R,h1,h2,⟨r0,ls0,hR0⟩,h4⟩:=h;obtain⟨hu0,h0⟩:=h4 r0 ls0 hR0;obtain⟨v1,v2⟩:=vj (d:=(aft (Zd e.mi st.s) ids fz r0 ls0 (k0+e.i) (64*(C.off+e.o.dst.getD 0))).1) hu0;dsimp only at h0;rw[v1,v2,hkj]at h0;cases kj with
   |none=>assumption
   |some kj=>
    cases kj with
    |call c' f' as' ids' obs' fz'=>have hcj:=Jo hkj rfl;simp_all
    |ro f' args'=>have hcj:=Jo hkj rfl;simp_all
    |det c' d' u'=>
     refine⟨h0.1,h0.2.1,?_⟩;obtain⟨v3,v4⟩:=ve (d:=d') h0.2.1;try dsimp only
     rw[v3,v4,hke];refine⟨hc,eargs,R,h1,h2,⟨r0,ls0,hR0⟩,λr ls hR=>?_⟩;obtain⟨hu,h⟩:=h4 r ls hR;obtain⟨v1,v2⟩:=vj (d:=(aft (Zd e.mi st.s) ids fz r ls (k0+e.i) (64*(C.off+e.o.dst.getD 0))).1) hu;dsimp only at h;rw[v1,v2,hkj]at h;refine⟨hu,?_⟩;have:=Xah (st:=st) (e:=e.o.dst) (j:=j.o.dst) (n:=st.n) (k:=st.k) (d:=(aft (Zd e.mi st.s) ids fz r ls (k0+e.i) (64*(C.off+e.o.dst.getD 0))).1) (d':=d') hdst (hdis' hu h0.2.1);exact(congrArg F this).mp h.2.2
def Xbc{K:St->Prop}{j:En}{l2:List En}:∀{l1:List En}{st:St},(∀e∈l1,Xb3 e j=true)->dr P C full k0 (l1++j::l2) st K->Jm P C full k0 j st λst=>dr P C full k0 (l1++l2) st K
 |[],st,_,h=>h
 |e::l1,st,hap,h=>by
  have h':Jm P C full k0 e st λst=>Jm P C full k0 j st λst=>dr P C full k0 (l1++l2) st K:=
   XgH (λst hst=>Xbc (λx hx=>hap x (Ul _ hx)) hst) h
  exact XgI (hap e ab) h'
end
variable {P:Program}
section
variable {s s':Heap}
mutual
def lend_le(hs:HLe s s'):∀{d:D}{ls:List Nat}{r},lend s ls d=some r->lend s' ls d=some r
 |.ept id ver z i c,ls,r,h=>by
  unfold lend at h⊢;split at h
  .rename_i he;rw[hs _ _ he];exact h
  simp_all
 |.agg cs,ls,r,h=>by
  unfold lend at h⊢;split at h
  .rename_i he;rw[Jp hs he];exact h
  simp_all
 |.tup cs,ls,r,h=>by
  unfold lend at h⊢;split at h
  .rename_i he;rw[Jp hs he];exact h
  simp_all
 |.ifc t d,ls,r,h=>by
  unfold lend at h⊢;split at h
  .rename_i he;rw[lend_le hs he];exact h
  simp_all
 |.clo fn a b,ls,r,h=>by
  unfold lend at h⊢;split at h
  .rename_i he;rw[Jp hs he];split at h
   .rename_i hf;rw[Jp hs hf];exact h
   cases h
  simp_all
 |.osl id ver z off len,ls,r,h=>by
  unfold lend at h⊢;split at h
  .rename_i he;rw[snap_le hs he];exact h
  simp_all
 |.any,ls,r,h=>by assumption
 |.v _,ls,r,h=>by assumption
 |.nsl,ls,r,h=>by assumption
 |.isl ..,ls,r,h=>by assumption
 |.ipt ..,ls,r,h=>by assumption
 |.fsl ..,ls,r,h=>by assumption
 |.fmp ..,ls,r,h=>by assumption
 |.omp ..,ls,r,h=>by assumption
def Jp(hs:HLe s s'):∀{ds:List D}{ls:List Nat}{r},Zp s ls ds=some r->Zp s' ls ds=some r
 |[],ls,r,h=>by assumption
 |d::ds,ls,r,h=>by
  unfold Zp at h⊢;split at h
  .rename_i he;rw[lend_le hs he];simp only;split at h
   .rename_i hf;rw[Jp hs hf];exact h
   cases h
  simp_all
end
def Xbu{l l':List Nat}(h:Has s l)(h':Has s l'):Has s (l++l'):=λi hi=>by
 rcases WG.1 hi with hi|hi
 .exact h i hi
 exact h' i hi
mutual
def lend_has:∀{d:D}{ls:List Nat}{r},lend s ls d=some r->Has s r.2.2.2
 |.ept id ver z i c,ls,r,h=>by
  unfold lend at h;split at h
  .split at h
   .split at h<;>simp only[Wr]at h<;>subst h<;>intro i hi<;>simp at hi
   cases h
  simp_all
 |.agg cs,ls,r,h=>by
  unfold lend at h;split at h
  .rename_i he;simp at h;subst h;exact KJ he
  simp_all
 |.tup cs,ls,r,h=>by
  unfold lend at h;split at h
  .rename_i he;simp at h;subst h;exact KJ he
  simp_all
 |.ifc t d,ls,r,h=>by
  unfold lend at h;split at h
  .rename_i he;simp at h;subst h;have:=lend_has he;exact this
  simp_all
 |.clo fn a b,ls,r,h=>by
  unfold lend at h;split at h
  .rename_i he;split at h
   .rename_i hf;simp at h;subst h;exact Xbu (KJ he) (KJ hf)
   cases h
  simp_all
 |.osl id ver z off len,ls,r,h=>by
  unfold lend at h;split at h
  .rename_i he;simp at h;subst h;exact snap_has he
  simp_all
 |.any,ls,r,h=>by
  unfold lend at h;split at h
  .rename_i he;simp at h;subst h;exact snap_has he
  simp_all
 |.v _,ls,r,h=>by
  unfold lend at h;split at h
  .rename_i he;simp at h;subst h;exact snap_has he
  simp_all
 |.nsl,ls,r,h=>by
  unfold lend at h;split at h
  .rename_i he;simp at h;subst h;exact snap_has he
  simp_all
 |.isl ..,ls,r,h=>by
  unfold lend at h;split at h
  .rename_i he;simp at h;subst h;exact snap_has he
  simp_all
 |.ipt ..,ls,r,h=>by
  unfold lend at h;split at h
  .rename_i he;simp at h;subst h;exact snap_has he
  simp_all
 |.fsl ..,ls,r,h=>by simp_all[lend,snap]
 |.fmp ..,ls,r,h=>by simp_all[lend,snap]
 |.omp ..,ls,r,h=>by simp_all[lend,snap]
def KJ:∀{ds:List D}{ls:List Nat}{r},Zp s ls ds=some r->Has s r.2.2.2
 |[],ls,r,h=>by simp only[Zp,Wr]at h;subst h;intro i hi;simp_all
 |d::ds,ls,r,h=>by
  unfold Zp at h;split at h
  .rename_i he;split at h
   .rename_i hf;simp at h;subst h;exact Xbu (lend_has he) (KJ hf)
   cases h
  simp_all
end
def Xft(hs:HLe s s'):∀{ids:List Nat}{r},KS s ids=some r->KS s' ids=some r
 |[],r,h=>by assumption
 |id::ids,r,h=>by
  unfold KS at h⊢;split at h
  .rename_i he;rw[hs _ _ he];simp only;split at h
   .rename_i h1 h2;rw[KT hs h1,Xft hs h2];exact h
   cases h
  simp_all
def Xdu:∀{ids:List Nat}{r},KS s ids=some r->Has s r.2.2
 |[],r,h=>by simp only[KS,Wr]at h;subst h;intro i hi;simp_all
 |id::ids,r,h=>by
  unfold KS at h;split at h
  .split at h
   .rename_i h1 h2;simp at h;subst h;exact Xbu (KH h1) (Xdu h2)
   cases h
  simp_all
def Xfu(hs:HLe s s'){args:List D}{r}(h:YY s args=some r):YY s' args=some r:=by
 unfold YY at h⊢;split at h
 .rename_i h1;rw[Jp hs h1];simp only;split at h
  .rename_i h2;rw[Xft hs h2];exact h
  cases h
 simp_all
def Xem{args:List D}{cc:Prop}{as:List D}{ids:List Nat}{obs:List Ob}{fz:List Nat}(h:YY s args=some (cc,as,ids,obs,fz)):Has s ids/\Has s fz:=by
 unfold YY at h;split at h
 .rename_i hl;split at h
  .rename_i ho;obtain⟨_,_,rfl,_,rfl⟩:=h;refine⟨λid hid=>?_,Xbu (KJ hl) (Xdu ho)⟩;have⟨v,E,z,cs,fz,hs⟩:=(YS hl ⟨ab,ab⟩).2 id hid;exact⟨_,hs⟩
  cases h
 simp_all
def Xfv(hs:HLe s s'):∀{ids:List Nat}{obs:List Ob},Has s ids->Zu s' ids obs=Zu s ids obs
 |[],obs,_=>by rfl
 |id::ids,[],_=>rfl
 |id::ids,o::obs,h=>by have⟨x,hx⟩:=h id ab;have ih:=Xfv hs (ids:=ids) (obs:=obs) λi hi=>h i (Ul _ hi);simp only[Zu,hx,hs _ _ hx,ih]
def Xpz(hs:HLe s s'){ids fz:List Nat}(h1:Has s ids)(h2:Has s fz)(r:D)(ls:List Ob)(ver n:Nat):aft s' ids fz r ls ver n=aft s ids fz r ls ver n:=by unfold aft;rw[Xad hs h2,Xfv hs h1]
def Xno(mi:List Nat)(s:Heap):HLe (Zd mi s) s:=by intro i x h;unfold Zd at h;simp_all
end
def RelD(P:Program)(C:Cx)(U:Nat->Prop)(st:St)(a:Act)(w:World):Prop:=
 a.defers=C.df/\a.tmps.size=st.n/\∃M β,BLe C.b0 β/\(∀x,Rep P M β (st.t x) (a.tmps.getD x undef))/\UO P C st.s U M β w
section
variable {C:Cx}{st:St}{a:Act}{w:World}{U:Nat->Prop}
def RelD.put{w':World}{u:Up}{U':Nat->Prop}{M':Mem}{β':Loc}{M:Mem}{β:Loc}{d:D}{v:Value}{dst:Option Nat}{k':Nat}(h1:a.defers=C.df)(h2:a.tmps.size=st.n)(h0:BLe C.b0 β)(h3:∀x,Rep P M β (st.t x) (a.tmps.getD x undef))(hM:MLe M M')(hB:BLe β β')(I:UO P C (app st.s u) U' M' β' w')(hv:Rep P M' β' d v):RelD P C U' (nx st (XM dst st.n) d u st.n k') (a.put dst v) w':=by
 cases dst with
 |none=>exact⟨h1,h2,M',β',h0.trans hB,λx=>(h3 x).mono hM hB,I⟩
 |some x=>
  by_cases hx:x<st.n
  .simp only[XM,Wp hx];refine⟨h1,by simp_all[nx,Act.put],M',β',h0.trans hB,λi=>?_,I⟩;simp only[nx,upd,Act.put];by_cases hi:i=x
   .simp_all
   rw[Wn hi];have e:(a.tmps.setIfInBounds x v).getD i undef=a.tmps.getD i undef:=by simp[Ne.symm hi]
   rw[e];exact(h3 i).mono hM hB
  simp only[XM,Wn hx];refine⟨h1,by simp_all[nx,Act.put],M',β',h0.trans hB,λi=>?_,I⟩;have e:a.put (some x) v=a:=by simp only[Act.put];rw[Array.setIfInBounds_eq_of_size_le aa]
  rw[e];exact(h3 i).mono hM hB
def RelD.drew(h:RelD P C U st a w)(k:Nat):RelD P C U st a {w with drawn:=k}:=by
 have⟨h1,h2,M,β,h0,h3,I⟩:=h;refine⟨h1,h2,M,β,h0,h3,?_⟩;constructor
 .exact I.mem
 .exact I.used
 .intro id v ob hs;have⟨x,hx,ho⟩:=I.obs id v ob hs;exact⟨x,hx,ho.mono (MLe.refl _) (BLe.refl _) (λ_ _ _=>rfl) (λ_ _ _ _=>rfl)⟩
 .exact I.own
 .exact I.inj
 .exact⟨I.keep.os,I.keep.tape,I.keep.output,I.keep.size,I.keep.block⟩
 .exact I.old
 .exact I.le
 exact I.glob
def Xka{full:Array Oper}{k0:Nat}{e:En}{F:St->Prop}{K:AW}{Q:Exit->AW}(hr:RelD P C U st a w)(hv:¬U (k0+e.i))(h:Jm P C full k0 e st F)(hK:∀st' a' w',RelD P C (λx=>U x\/x=k0+e.i) st' a' w'->F st'->K a' w'):if Region.wanted e.o (yielded full a.tmps)=true then e.o.wp P a w K Q else K (a.put e.o.dst undef) w:=by
 have⟨h1,h2,M,β,h0,h3,I⟩:=hr;have h3m:∀x,Rep P M β (ZY e.ms st.t x) (a.tmps.getD x undef):=λx=>by unfold ZY;grind[Rep]
 have hev:=XbX I h3m;have hle:=Xno e.mi st.s;have hskip:F (nx st (XM e.o.dst st.n) (.v undef) [] st.n st.k)->K (a.put e.o.dst undef) w:=λhF=>
  hK _ _ _ (RelD.put (u:=[]) h1 h2 h0 h3 (MLe.refl _) (BLe.refl _) (I.mono λ_ h=>.inl h) (by simp[Rep,XaL])) hF
 have hrun:doK P C e (k0+e.i) (Zd e.mi st.s) (kdO P C (k0+e.i) e.o (ZY e.ms st.t) (Zd e.mi st.s)) (λd u=>F (nx st (XM e.o.dst st.n) d u st.n st.k))->e.o.wp P a w K Q:=by
  intro h;unfold kdO at h;split at h
  .rename_i c hc;have hop:e.o.op=.call c:=by
    unfold JD at hc;split at hc
    .grind
    grind
   unfold kd3 at h;split at h
   .rename_i f args hcal;unfold kd2 at h;split at h
    .rename_i cc as ids obs fz hca;replace hca:=XiR hca;have⟨hcc,eargs,R,hfit,hA,_,hKR⟩:=h;unfold callee at hcal;split at hcal
     .rename_i x hx;split at hcal
      .rename_i g first caps hclo
       obtain⟨rfl,rfl⟩:=hcal;have hfx:=hev x;rw[hclo]at hfx;have⟨va,vb,hfx,ha,hb⟩:=hfx;have⟨⟨fn,hf,hb',hn⟩,_⟩:=id hA;unfold Oper.wp;rw[Vu hop hx hfx hf hb' hn w];have hargs:RepL P M β (first++(c.args.toList.map (ev (ZY e.ms st.t) C.G)++caps)) (va++(c.args.toList.map a.eval++vb)):=
        ha.append ((RepL.map hev _).append hb)
       have⟨hh1,hh2⟩:=Xem hca;have hca':=Xfu hle hca;refine(Xhz I (ver:=k0+e.i) hv hargs hca' hcc hfit hA (64*(C.off+e.o.dst.getD 0))).mono ?_;rintro e' w' ⟨v,r,ls,M',β',rfl,hR,I',hv',hM,hB⟩;have hbox:∀id∈ids,∃v o,st.s id=some (v,o):=λid hid=>by obtain⟨x,hx⟩:=hh1 id hid;exact⟨x.1,x.2,hle _ _ hx⟩
       have⟨e1,e2⟩:=XjW st.s ids fz r ls (k0+e.i) (64*(C.off+e.o.dst.getD 0)) hbox;rw[←e1]at hv';rw[←e2]at I';have ea:=Xpz hle hh1 hh2 r ls (k0+e.i) (64*(C.off+e.o.dst.getD 0));rw[ea]at hv' I';exact hK _ _ _ (RelD.put h1 h2 h0 h3 hM hB I' hv') (hKR r ls hR).2
      cases hcal
     simp_all
    have⟨eargs,R,hro,hA,_,hKR⟩:=h;unfold callee at hcal;split at hcal
    .rename_i x hx;split at hcal
     .rename_i g first caps hclo
      simp only[Wr,Wx]at hcal;obtain⟨rfl,rfl⟩:=hcal;have hfx:=hev x;rw[hclo]at hfx;simp only[Rep]at hfx;obtain⟨va,vb,hfx,ha,hb⟩:=hfx;obtain⟨⟨fn,hf,hb',hn⟩,_⟩:=id hA;unfold Oper.wp;rw[Vu hop hx hfx hf hb' hn w];rw[Oper.upon_enter];have hargs:RepL P M β (first++(c.args.toList.map (ev (ZY e.ms st.t) C.G)++caps)) (va++(c.args.toList.map a.eval++vb)):=
       ha.append ((RepL.map hev _).append hb)
      obtain⟨M1,hM1,hm1,hargs⟩:=hro st.s U M β w _ hle I hargs;refine(Xm2 I hM1 hm1 hargs hA (λr ls h=>(hKR r ls h).1)).mono ?_;rintro e' w' ⟨v,r,ls,rfl,hR,I',hv'⟩;exact hK _ _ _ (RelD.put (u:=[]) h1 h2 h0 h3 (MLe.refl _) (BLe.refl _) (I'.mono λ_ h=>.inl h) hv') (hKR r ls hR).2
     cases hcal
    simp_all
   exact h.elim
  unfold kd1 at h;split at h
  .rename_i c d u hop;obtain⟨hc,_,hF⟩:=h;have:=XjU I (ver:=k0+e.i) hv {e.o with dst:=Xfg C.off e.o.dst} a.eval (ev (ZY e.ms st.t) C.G) hev (λ_=>rfl) (Xpm hle hop) hc;obtain⟨M',β',w',v,hres,I',hv',hM,hB⟩:=this;rw[Xfi]at hres;have hrel:RelD P C (λx=>U x\/x=k0+e.i) (nx st (XM e.o.dst st.n) d u st.n st.k) (a.put e.o.dst v) w':=RelD.put h1 h2 h0 h3 hM hB I' hv';unfold Oper.wp;rcases hres with hres|⟨hres,rfl⟩
   .rw[hres];exact hK _ _ _ hrel hF
   rw[hres];exact hK _ _ _ hrel hF
  exact h.elim
 unfold Jm kdE at h;split at h
 .rename_i hg;have hw:Region.wanted e.o (yielded full a.tmps)=true:=by unfold Region.wanted;rw[hg]
  simp_all
 rename_i g want hg;split at h
 .rename_i r hdst;unfold kdG at h;split at h
  .rename_i b hb;have hval:a.tmps.getD r undef=.bool b:=by have:=h3m r;rw[hb]at this;simp only[Rep]at this;exact this.1
   have hy:yielded full a.tmps g=some b:=by
    unfold yielded;rw[hdst];simp only[IQ];by_cases hs:r<a.tmps.size
    .simp_all
    simp_all[hs,undef]
   have hw:Region.wanted e.o (yielded full a.tmps)=(b==want):=by unfold Region.wanted;rw[hg];simp only;rw[hy];rfl
   rw[hw];cases hbw:(b==want)with
   |true=>simp_all
   |false=>rw[hbw]at h;rw[Wn ab];exact hskip h.2.2
  .rename_i vs hb;have hval:a.tmps.getD r undef=.tuple vs:=by have:=h3m r;rw[hb]at this;simp only[Rep]at this;exact this.1
   have hy:yielded full a.tmps g=none:=by
    unfold yielded;rw[hdst];simp only[IQ];by_cases hs:r<a.tmps.size
    .simp_all
    simp_all
   have hw:Region.wanted e.o (yielded full a.tmps)=false:=by unfold Region.wanted;rw[hg];simp only;rw[hy];rfl
   rw[hw,Wn ab];exact hskip h.2.2
  exact h.elim
 exact h.elim
end
variable {P:Program}
def XoU(e:En):Bool:=e.o.after.toList.all λd=>!Region.binds .any d||d.on<e.i
def XpA(es:List En)(e:En):Bool:=e.anc.all λx=>e.o.after.toList.any λd=>Region.binds .any d&&(d.on==x||((es[d.on]?).map (·.anc.contains x)).getD false)
def XoV(es:List En)(j:En):Bool:=es.all λe=>!(e.i<j.i)||j.anc.contains e.i||Xb3 e j
def Xkb(es:List En):Bool:=es.all XoU&&es.all (XpA es)&&es.all (XoV es)
def Vc(es:List En)(listed:Array Bool):List En:=es.filter λe=>!listed.getD e.i true
section
variable {C:Cx}{ops:Array Oper}{k0:Nat}{es:List En}{Q:Exit->AW}{K:St->Prop}
def UD(k0:Nat)(listed:Array Bool):Nat->Prop:=λv=>v<k0\/∃i,listed.getD i false=true/\v=k0+i
def Xkc(ho:es.map (·.o)=ops.toList)(hi:es.map (·.i)=List.range es.length){j:Nat}{o:Oper}(h:ops[j]? = some o):∃e,e∈es/\es[j]? = some e/\e.i=j/\e.o=o:=by
 have h1:(es.map (·.o))[j]? = some o:=by rw[ho];simpa using h
 simp at h1;obtain⟨e,he,rfl⟩:=h1;have h2:(es.map (·.i))[j]? = some e.i:=by simp[he]
 grind
def Xfw(hi:es.map (·.i)=List.range es.length){e:En}(he:e∈es):e.i<es.length/\es[e.i]? = some e:=by
 obtain⟨j,hj,rfl⟩:=WM he;have h2:(es.map (·.i))[j]? = some es[j].i:=by simp[hj]
 grind
def XiS(hi:es.map (·.i)=List.range es.length):es.Pairwise λa b=>a.i<b.i:=by have:=List.pairwise_lt_range (n:=es.length);grind
def XsS(ho:es.map (·.o)=ops.toList)(hi:es.map (·.i)=List.range es.length)(hc:Xkb es=true)(hQ:∀st a w,RelD P C (λv=>v<k0+es.length) st a w->K st->Q .normal a w):
 ∀(fuel:Nat)(listed:Array Bool)(a:Act)(w:World)(st:St),(Vc es listed).length=fuel->listed.size=es.length->RelD P C (UD k0 listed) st a w ->
  (∀e∈es,listed.getD e.i false=true->∀x∈e.anc,listed.getD x false=true)->dr P C ops k0 (Vc es listed) st K->wpAny P .any ops Q fuel listed a w:=by
 unfold Xkb at hc;simp at hc;have⟨⟨hedge,hanc⟩,hpair⟩:=hc;have hsort:=XiS hi;have getD_flip:∀(listed:Array Bool)(x:Nat),x<listed.size->(listed.getD x true=listed.getD x false):=by intro listed x hx;simp[hx]
 intro fuel;induction fuel with
 |zero=>
  intro listed a w st hfuel hsz hr hcl hd;have hnil:Vc es listed=[]:=WJ hfuel;refine⟨?_,?_⟩
  .cases hrd:Region.ready .any ops listed with
   |nil=>rfl
   |cons j js=>
    have hj:j∈Region.ready .any ops listed:=by rw[hrd];simp
    have⟨hun,o,hoj,_⟩:=mem_ready.1 hj;have⟨e,he,_,hei,_⟩:=Xkc ho hi hoj;have:e∈Vc es listed:=UR.2 ⟨he,by rw[hei,hun];rfl⟩;simp_all
  rw[hnil]at hd;refine hQ st a w ?_ hd;have⟨h1,h2,M,β,h0,h3,I⟩:=hr;refine⟨h1,h2,M,β,h0,h3,I.mono λv hv=>?_⟩;rcases hv with hv|⟨i,hl,rfl⟩
  .exact IB hv (Nat.le_add_right _ _)
  grind
 |succ fuel ih=>
  intro listed a w st hfuel hsz hr hcl hd;refine⟨λhnil=>?_,λj hj=>?_⟩
  ·
   cases hrem:Vc es listed with
   |nil=>simp_all
   |cons e l=>
    have hmem:e∈Vc es listed:=by rw[hrem];simp
    have⟨he,hun⟩:=UR.1 hmem;have hsr:(Vc es listed).Pairwise λa b=>a.i<b.i:=hsort.filter _;rw[hrem,IC]at hsr;have⟨hlt,hget⟩:=Xfw hi he;have hoe:ops[e.i]? = some e.o:=by
     have:(es.map (·.o))[e.i]? = some e.o:=by simp[hget]
     rw[ho]at this;simpa using this
    have:e.i∈Region.ready .any ops listed:=by
     refine mem_ready.2 ⟨by simpa using hun,e.o,hoe,λd hd hb=>?_⟩;have h1:=hedge e he;unfold XoU at h1;simp only[Ud]at h1;have h2:=h1 d (by simpa using hd);simp only[hb,Ws,U9,decide_eq_true_eq]at h2;have hdl:d.on<es.length:=aa;cases hv:listed.getD d.on false with
     |true=>rfl
     |false=>
      have hmem2:es[d.on]∈Vc es listed:=by
       refine UR.2 ⟨WN _,?_⟩;have e1:es[d.on].i=d.on:=by
        have h2:(es.map (·.i))[d.on]? = some es[d.on].i:=by simp[hdl]
        rw[hi,List.getElem?_range hdl]at h2;simpa using h2.symm
       rw[e1,getD_flip _ _ aa,hv];rfl
      have e1:es[d.on].i=d.on:=by
       have h2:(es.map (·.i))[d.on]? = some es[d.on].i:=by simp[hdl]
       rw[hi,List.getElem?_range hdl]at h2;simpa using h2.symm
      rw[hrem]at hmem2;rcases UY.1 hmem2 with h|h
      .rw[h]at e1;omega
      have:=hsr.1 _ h;omega
    simp_all
  have⟨hun,o,hoj,hall⟩:=mem_ready.1 hj;obtain⟨e,he,hget,hei,rfl⟩:=Xkc ho hi hoj;have hmem:e∈Vc es listed:=UR.2 ⟨he,by rw[hei,hun];rfl⟩;have⟨l1,l2,hsplit⟩:=List.append_of_mem hmem;have hsr:(Vc es listed).Pairwise λa b=>a.i<b.i:=hsort.filter _;rw[hsplit]at hsr;have⟨hs1,hs2,hs3⟩:=IL.1 hsr;rw[IC]at hs2;have hjsz:j<listed.size:=by
   rcases Uq j listed.size with h'|h'
   .exact h'
   simp[Array.getElem?_eq_none h']at hun
  have hap:∀x∈l1,Xb3 x e=true:=by
   intro x hx;have hxl:x∈Vc es listed:=by rw[hsplit];exact W0 _ hx
   obtain⟨hxe,hxun⟩:=UR.1 hxl;have hlt:x.i<e.i:=hs3 x hx e ab;have h1:=hpair e he;unfold XoV at h1;simp only[Ud]at h1;have h2:=h1 x hxe;simp only[hlt,decide_true,Ws,U9,Ij]at h2;rcases h2 with h2|h2
   .have h3:=hanc e he;unfold XpA at h3;simp only[Ud]at h3;have h4:=h3 x.i (by simpa using h2);simp only[List.any_eq_true,W5,Ij,beq_iff_eq]at h4;have⟨d,hd,hb,hor⟩:=h4;have hl:listed.getD d.on false=true:=hall d (by simpa using hd) hb;have hxl:listed.getD x.i false=true:=by
     rcases hor with hor|hor
     .rw[←hor];exact hl
     cases hg:es[d.on]? with
     |none=>rw[hg]at hor;simp at hor
     |some y=>
      rw[hg]at hor;have hy:=Uh hg;have hyi:y.i=d.on:=by
       have hdl:d.on<es.length:=by
        rcases Uq d.on es.length with h'|h'
        .exact h'
        rw[WY h']at hg;cases hg
       have h2:(es.map (·.i))[d.on]? = some y.i:=by simp[hg]
       rw[hi,List.getElem?_range hdl]at h2;simpa using h2.symm
      exact hcl y hy (by rw[hyi];exact hl) x.i (by simpa using hor)
    have:x.i<listed.size:=by rw[hsz];exact(Xfw hi hxe).1
    rw[getD_flip _ _ this,hxl]at hxun;cases hxun
   exact h2
  rw[hsplit]at hd;have hst:=Xbc hap hd;have hrem':Vc es (listed.setIfInBounds j true)=l1++l2:=by
   have h1:Vc es (listed.setIfInBounds j true)=(Vc es listed).filter λx=>x.i != j:=by
    unfold Vc;rw[List.filter_filter];refine List.filter_congr λx hx=>?_;by_cases hxj:x.i=j
    .rw[hxj];simp[hjsz]
    rw[getD_set_ne true (Ne.symm hxj)];simp[hxj]
   rw[h1,hsplit,List.filter_append,List.filter_cons];have h2:(e.i != j)=false:=by simp[hei]
   rw[h2];have h3:l1.filter (λx=>x.i != j)=l1:=Ir.2 λx hx=>by have:=hs3 x hx e ab;simp;omega
   have h4:l2.filter (λx=>x.i != j)=l2:=Ir.2 λx hx=>by have:=hs2.1 x hx;simp;omega
   rw[h3,h4];simp
  have hnotU:¬UD k0 listed (k0+e.i):=by
   rintro(h|⟨i,hl,h⟩)
   .omega
   have:i=j:=aa;subst this;rw[getD_flip _ _ hjsz,hl]at hun;cases hun
  have hone:=Xka (Q:=Q) (K:=wpAny P .any ops Q fuel (listed.setIfInBounds j true)) hr hnotU hst λst' a' w' hr' hF=>by
   refine ih (listed.setIfInBounds j true) a' w' st' ?_ (by simpa using hsz) ?_ ?_ (by rw[hrem'];exact hF)
   .rw[hrem'];rw[hsplit]at hfuel;simp at hfuel⊢;omega
   .have⟨h1,h2,M,β,h0,h3,I⟩:=hr';refine⟨h1,h2,M,β,h0,h3,I.mono λv hv=>?_⟩;rcases hv with(hv|⟨i,hl,rfl⟩)|rfl
    .exact .inl hv
    .exact .inr ⟨i,getD_set_true hl,rfl⟩
    exact .inr ⟨j,by simp[hjsz],by rw[hei]⟩
   intro y hy hl x hx;by_cases hyj:y.i=j
   .have hye:y=e:=by have h1:=(Xfw hi hy).2;rw[hyj,hget]at h1;simpa using h1.symm
    subst hye;refine getD_set_true ?_;have h3:=hanc y hy;unfold XpA at h3;simp only[Ud]at h3;have h4:=h3 x hx;simp only[List.any_eq_true,W5,Ij,beq_iff_eq]at h4;have⟨d,hd,hb,hor⟩:=h4;have hl:listed.getD d.on false=true:=hall d (by simpa using hd) hb;rcases hor with rfl|hor
    .exact hl
    cases hg:es[d.on]? with
    |none=>rw[hg]at hor;simp at hor
    |some z=>
     rw[hg]at hor;have hz:=Uh hg;have hzi:z.i=d.on:=by
      have hdl:d.on<es.length:=by
       rcases Uq d.on es.length with h'|h'
       .exact h'
       rw[WY h']at hg;cases hg
      have h2:(es.map (·.i))[d.on]? = some z.i:=by simp[hg]
      rw[hi,List.getElem?_range hdl]at h2;simpa using h2.symm
     exact hcl z hz (by rw[hzi];exact hl) x (by simpa using hor)
   have e1:(listed.setIfInBounds j true).getD y.i false=listed.getD y.i false:=by simp[Array.getElem?_setIfInBounds_ne (Ne.symm hyj)]
   rw[e1]at hl;exact getD_set_true (hcl y hy hl x hx)
  unfold wpOp;grind
def DrawnG.of{R:St->Prop}{id:Nat}{k:List It}{st:St}{l:List Oper}(hm:P.follows .mixedOrders=true)(es:List En)(n:Nat)(ho:es.map (·.o)=l)(hi:es.map (·.i)=List.range es.length)(hc:Xkb es=true)(h:dr P C ⟨l⟩ st.k es st λst'=>run P C R n k ⟨st'.t,st'.s,st'.n,st.k+es.length⟩)(t:Prf (⟨l⟩:Array Oper))(hrd:C.rd=none:=by rfl):DrawnG P C R id ⟨l⟩ k st t:=by
 intro a w hr;rw[show fz C.rd=Fence.wide by rw[hrd];rfl];refine wpIn_wide.2 (wp_region_any hm ?_);have hlen:es.length=l.length:=by rw[←ho];simp
 have hrd:RelD P C (UD st.k (Array.replicate (⟨l⟩:Array Oper).size false)) st a {w with drawn:=w.drawn+1}:=by refine RelD.drew ?_ _;obtain⟨h1,h2,M,β,h0,h3,I⟩:=hr;exact⟨h1,h2,M,β,h0,h3,I.mono λv hv=>.inl hv⟩
 have hall:Vc es (Array.replicate (⟨l⟩:Array Oper).size false)=es:=by unfold Vc;refine Ir.2 λe he=>?_;have:=(Xfw hi he).1;simp[Array.getElem?_replicate,hlen▸this]
 refine XsS (es:=es) (k0:=st.k) ho hi hc ?_ _ _ a _ st (by simp_all) (by simp_all) hrd (λe he hl=>?_) (by rw[hall];exact h)
 .rintro st' a' w' ⟨h1,h2,M,β,h0,h3,I⟩ hK;exact Ym n k (st:=⟨st'.t,st'.s,st'.n,st.k+es.length⟩) ⟨h1,h2,M,β,h0,h3,I⟩ hK
 have:=(Xfw hi he).1;simp_all
end
variable {P:Program}
def Xq6:Nat->List Oper->List (List Nat×List Nat×List Nat×List Nat)->List En
 |i,o::l,(a,w,m,k)::x=>⟨i,o,a,w,m,k⟩::Xq6 (i+1) l x
 |_,_,_=>[]
def CallD(P:Program)(G:Nat->Option (List D))(f:FuncId)(args:List D)(obs:List Ob)(K:D->List Ob->Prop)[Tag (G,K)](_:Prf args):Prop:=
 ∃eargs R,ZH args eargs/\YK P G f eargs obs R/\(∃r ls,R r ls)/\∀r ls,R r ls->K r ls
def doT(P:Program)(C:Cx)(e:En)(ver:Nat)(s:Heap)(x:Option Kd)(st:St)(F:St->Prop)[Tag (C,e,s,st,F)](_:Prf x):Prop:=
 doK P C e ver s x λd u=>F (nx st (XM e.o.dst st.n) d u st.n st.k)
def XoW(P:Program)(C:Cx)(s:Heap)(f:FuncId)(args:List D)(K:D->Prop)[Tag (C,s,K)](_:Prf args):Prop:=
 ∃eargs R,RoA P C s args eargs/\YK P C.G f eargs [] R/\(∃r ls,R r ls)/\∀r ls,R r ls->scal r=true/\K r
section
variable {C:Cx}{full:Array Oper}{k0:Nat}{st:St}{K F:St->Prop}{e:En}{es:List En}{ver:Nat}{s:Heap}
def XpB:dr P C full k0 [] st K=K st:=propext Iff.rfl
def Xnp:dr P C full k0 (e::es) st K=doT P C e (k0+e.i) (Zd e.mi st.s) (kdE P C full (k0+e.i) e.o (ZY e.ms st.t) (Zd e.mi st.s)) st (λst=>dr P C full k0 es st K) trivial:=propext Iff.rfl
def Xnq{c:Prop}{d:D}{u:Up}{t':Prf (some (Kd.det c d u))}:doT P C e ver s (some (.det c d u)) st F t'=(c/\Kt u e.ws/\Xfh (XM e.o.dst st.n) st.n st.k (λdst n k=>F (nx st dst d u n k)) trivial):=propext Iff.rfl
def Xkd{c:Prop}{f:FuncId}{as:List D}{ids:List Nat}{obs:List Ob}{fz:List Nat}{t':Prf (some (Kd.call c f as ids obs fz))}:doT P C e ver s (some (.call c f as ids obs fz)) st F t'=(c/\CallD P C.G f as obs (λr ls=>
 Xpn (aft s ids fz r ls ver (64*(C.off+e.o.dst.getD 0))) (XM e.o.dst st.n) st.n st.k (λdst d u n k=>Kt u e.ws/\F (nx st dst d u n k)) trivial) trivial):=propext Iff.rfl
def XpC{f:FuncId}{args:List D}{t':Prf (some (Kd.ro f args))}:doT P C e ver s (some (.ro f args)) st F t'=XoW P C s f args (λr=>Xfh (XM e.o.dst st.n) st.n st.k (λdst n k=>F (nx st dst r [] n k)) trivial) trivial:=propext Iff.rfl
def XpD{r:Nat}{x:Option Kd}:kdG (.v (.bool true)) r true x=x:=rfl
def XpE{r:Nat}{x:Option Kd}:kdG (.v (.bool false)) r false x=x:=rfl
def XpF{r:Nat}{x:Option Kd}:kdG (.v (.bool true)) r false x=some (.det True (.v undef) []):=rfl
def XpG{r:Nat}{x:Option Kd}:kdG (.v (.bool false)) r true x=some (.det True (.v undef) []):=rfl
def Xq7{r:Nat}{want:Bool}{x:Option Kd}{vs:Array Value}:kdG (.v (.tuple vs)) r want x=some (.det True (.v undef) []):=rfl
def Xke{dst:Option Nat}{op:Op}{ty:Nat}{pos:String}{af:Array Edge}{t:Nat->D}:kdE P C full ver ⟨dst,op,ty,pos,af,none⟩ t s=kdO P C ver ⟨dst,op,ty,pos,af,none⟩ t s:=rfl
def kdF(r:Option Nat)(t:Nat->D)(want:Bool)(x:Option Kd):Option Kd:=match r with
 |some r=>kdG (t r) r want x
 |none=>none
def Xkf{r:Nat}{t:Nat->D}{want:Bool}{x:Option Kd}:kdF (some r) t want x=kdG (t r) r want x:=rfl
def Xkg{dst:Option Nat}{op:Op}{ty:Nat}{pos:String}{af:Array Edge}{t:Nat->D}{g:Nat}{want:Bool}:kdE P C full ver ⟨dst,op,ty,pos,af,some (g,want)⟩ t s=kdF ((full[g]?).bind (·.dst)) t want (kdO P C ver ⟨dst,op,ty,pos,af,some (g,want)⟩ t s):=by rfl
def kdI(P:Program)(C:Cx)(x:Option Call)(ver:Nat)(o:Oper)(t:Nat->D)(s:Heap):Option Kd:=match x with
 |some c=>kd3 C.G s (callee (ev t C.G) c)
 |none=>kd1 (opF P (Xfg C.off o.dst) ver (ev t C.G) s o.op)
def XpH{o:Oper}{t:Nat->D}:kdO P C ver o t s=kdI P C (JD o.op) ver o t s:=by rfl
def Xkh{o:Oper}{t:Nat->D}:kdI P C none ver o t s=kd1 (opF P (Xfg C.off o.dst) ver (ev t C.G) s o.op):=rfl
def Xki{o:Oper}{t:Nat->D}{c:Call}:kdI P C (some c) ver o t s=kd3 C.G s (callee (ev t C.G) c):=rfl
def Xkj{c:Prop}{d:D}{u:Up}:kd1 (some (c,d,u))=some (.det c d u):=rfl
def Xkk{f:Nat}{args:List D}{cc:Prop}{as:List D}{ids:List Nat}{obs:List Ob}{fz:List Nat}:kd2 f args (some (cc,as,ids,obs,fz))=some (.call cc f as ids obs fz):=rfl
def Xkl{f:Nat}{args:List D}:kd2 f args none=some (.ro f args):=rfl
def Xkm{G:Nat->Option (List D)}{f:Nat}{args:List D}:kd3 G s (some (f,args))=kd2 f args (Xel G f (YY s args)):=rfl
def XpI{G:Nat->Option (List D)}{f:Nat}{α:Type}{x:Option α}(h:G (roK f)=none):Xel G f x=x:=by unfold Xel;simp_all
def XpJ{G:Nat->Option (List D)}{f:Nat}{α:Type}{x:Option α}{y:List D}(h:G (roK f)=some y):Xel G f x=none:=by unfold Xel;simp_all
def XiT{ws:List Nat}:Kt [] ws=True:=by simp[Kt]
def XgJ{i v:Nat}{o:Ob}{u:Up}{ws:List Nat}:Kt ((i,v,o)::u) ws=(i∈ws/\Kt u ws):=by simp[Kt]
def Xkn{ms:List Nat}{t:Nat->D}{x:Nat}:ZY ms t x=if ms.contains x then .any else t x:=rfl
def Xko{ms:List Nat}{x:Nat}:Zd ms s x=if ms.contains x then none else s x:=rfl
def Xs{b:Bool}{r:Nat}{x:Option Kd}(hr:st.t r=.v (.bool b))(h1:b=true->doT P C e ver s x (VH st r (.v (.bool true))) F trivial)(h2:b=false->doT P C e ver s (some (.det True (.v undef) [])) (VH st r (.v (.bool false))) F trivial)(t':Prf (kdG (.v (.bool b)) r true x)):doT P C e ver s (kdG (.v (.bool b)) r true x) st F t':=by
 cases b
 .have:=h2 rfl;rw[Y5 hr]at this;exact this
 have:=h1 rfl;rw[Y5 hr]at this;exact this
def Xt{b:Bool}{r:Nat}{x:Option Kd}(hr:st.t r=.v (.bool b))(h1:b=true->doT P C e ver s (some (.det True (.v undef) [])) (VH st r (.v (.bool true))) F trivial)(h2:b=false->doT P C e ver s x (VH st r (.v (.bool false))) F trivial)(t':Prf (kdG (.v (.bool b)) r false x)):doT P C e ver s (kdG (.v (.bool b)) r false x) st F t':=by
 cases b
 .have:=h2 rfl;rw[Y5 hr]at this;exact this
 have:=h1 rfl;rw[Y5 hr]at this;exact this
def CallD.of{G:Nat->Option (List D)}{f:FuncId}{args eargs:List D}{obs:List Ob}{R:D->List Ob->Prop}{K:D->List Ob->Prop}(h:YK P G f eargs obs R)(hf:ZH args eargs)(hne:∃r ls,R r ls)(hK:∀r ls,R r ls->K r ls)(t':Prf args):CallD P G f args obs K t':=
 ⟨eargs,R,hf,h,hne,hK⟩
end
def Xnr{ls:List Ob}:KR ls 1000000=(ls[0]?).map (λo=>(0,o)):=KU (j:=0)
def Xns{ls:List Ob}:KR ls 1000001=(ls[1]?).map (λo=>(0,o)):=KU (j:=1)
def Xnt{ls:List Ob}:KR ls 1000002=(ls[2]?).map (λo=>(0,o)):=KU (j:=2)
def Xnu{ls:List Ob}:KR ls 1000003=(ls[3]?).map (λo=>(0,o)):=KU (j:=3)
def Xnv{ls:List Ob}:KR ls 1000004=(ls[4]?).map (λo=>(0,o)):=KU (j:=4)
def Xnw{ls:List Ob}:KR ls 1000005=(ls[5]?).map (λo=>(0,o)):=KU (j:=5)
attribute [go_sem] LB Xnr Xns Xnt Xnu Xnv Xnw
attribute [go_sem ↓] XpB Xnp Xke Xkg XpH
attribute [go_sem] Xnq Xkd XpC Xkl XpD XpE XpF XpG Xq7 Xkf Xkh Xki Xkj Xkk Xkm XiT XgJ Xkn Xko Xq6 List.contains_cons List.contains_nil Bool.or_false Bool.or_true U9 Bool.true_or
attribute [go_sem ↓] Xm6 XjY Xm7 XjZ Xpo Xj0 Xm8 Xj1 XiH Xj2 XiI XiJ Xm9 Xj3 XgC XiK Xfm Xfn XiP
attribute [go_sem] Xfo XiL XiM XiN XiO Xj4 Xna Xnb XgD Xj5 XgE XgF XgG Xfp Xfq Xfr Xbt Xfs XqT XqU XqV Xpp XqW XqX XqY XqZ Xq0 Xpq Xnd Xq1 Xfl Xfg Xnc XsO XsP XsQ XqR XqS XsR Xq2 Xq3 Xq4 Xq5 Zj YN Z5 XiQ KU Xpv Xpw Xpx Xpy
attribute [go_sem] XbN Xgp Xd7 Xc9 XbO XbP Xgq Option.isSome_some Option.isSome_none Option.isNone_some Option.isNone_none
attribute [go_sem] undef JD callee opF ev ofV XjG okV XM Xa9 XjH ivD ivO Xd5 Jh elems KO XbL XbM Z1 D.cells D.one Value.oneCell' I8.isAgg I8.isIface Kv Xc8 Xd8 snap Zt J0 V8 Xc7 YY Zp lend KS pos Zu aft scal Jj J7 imp JW Jl Xfk XjX XgB shut Xbb Xae Xm4 Yd Xd6 Xp
attribute [go_sem] Uo ID Uf Uy List.getElem?_cons_zero List.getElem?_cons_succ List.getElem?_nil U5 Option.getD_none IQ IE Option.map_none UV true_and and_true ne_eq false_implies Un Ux W4 WQ WS WR Int.toNat_natCast Wc Wa Ws Ui if_true if_false ite_true ite_false U4 List.isEmpty_nil List.isEmpty_cons Bool.and_true Bool.and_false W3 Ur U1 Ug List.cons_append List.getD_cons_zero List.getD_cons_succ WX List.drop_succ_cons List.take_succ_cons List.take_zero List.head?_cons List.headD_cons List.all_cons List.all_nil Ic List.set_cons_succ UY List.not_mem_nil or_false or_true false_or not_false_eq_true not_true_eq_false List.nodup_nil List.nodup_cons implies_true forall_const decide_true decide_false and_self Xpr Xps Xne Xnf Xng Xnh Xni Xnj Xpt Xpu Xnk Xnl Xnm Xnn XhE XhF List.replicate_succ List.replicate_zero
variable {P:Program}
def Xnx(n:Int):IntKind.wrap .i64 n=wI n:=rfl
def Xny(n:Int):IntKind.wrap .u64 n=wU n:=rfl
def Xnz(n:Int):IntKind.wrap .u32 n=wW n:=rfl
section
variable {k k':IntKind}{a b:Int}{T:Nat}{p q:Bool}{xs ys:List D}
def Xkp:YJ P .add T (.v (.int k a)) (.v (.int k b))=some (True,.v (.int k (k.wrap (a+b)))):=by simp[YJ,JV]
def Xkq:YJ P .sub T (.v (.int k a)) (.v (.int k b))=some (True,.v (.int k (k.wrap (a-b)))):=by simp[YJ,JV]
def Xkr:YJ P .mul T (.v (.int k a)) (.v (.int k b))=some (True,.v (.int k (k.wrap (a*b)))):=by simp[YJ,JV]
def Xks:YJ P .quo T (.v (.int k a)) (.v (.int k b))=some (b≠0,.v (.int k (k.wrap (a.tdiv b)))):=by simp[YJ,JV]
def Xkt:YJ P .rem T (.v (.int k a)) (.v (.int k b))=some (b≠0,.v (.int k (a.tmod b))):=by simp[YJ,JV]
def Xku:YJ P .and T (.v (.int k a)) (.v (.int k b))=some (True,.v (.int k (Y8 k a b))):=by simp[YJ,JV,Y8]
def XnA:YJ P .or T (.v (.int k a)) (.v (.int k b))=some (True,.v (.int k (bOr k a b))):=by simp[YJ,JV,bOr]
def Xkv:YJ P .xor T (.v (.int k a)) (.v (.int k b))=some (True,.v (.int k (XmM k a b))):=by simp[YJ,JV,XmM]
def Xfx:YJ P .andNot T (.v (.int k a)) (.v (.int k b))=some (True,.v (.int k (Xbr k a b))):=by simp[YJ,JV,Xbr]
def Xkw:YJ P .eql T (.v (.int k a)) (.v (.int k b))=some (True,.v (.bool (a==b))):=by simp[YJ,JV]
def Xkx:YJ P .neq T (.v (.int k a)) (.v (.int k b))=some (True,.v (.bool (a != b))):=by simp[YJ,JV]
def Xky:YJ P .lss T (.v (.int k a)) (.v (.int k b))=some (True,.v (.bool (a<b))):=by simp[YJ,JV]
def Xkz:YJ P .leq T (.v (.int k a)) (.v (.int k b))=some (True,.v (.bool (a<=b))):=by simp[YJ,JV]
def XkA:YJ P .gtr T (.v (.int k a)) (.v (.int k b))=some (True,.v (.bool (a>b))):=by simp[YJ,JV]
def XkB:YJ P .geq T (.v (.int k a)) (.v (.int k b))=some (True,.v (.bool (a>=b))):=by simp[YJ,JV]
def XkC:YJ P .shl T (.v (.int k a)) (.v (.int k' b))=some (0<=b,.v (.int k (ZW k a b))):=by rfl
def XkD:YJ P .shr T (.v (.int k a)) (.v (.int k' b))=some (0<=b,.v (.int k (Yz k a b))):=by rfl
def isB:Option I8->Option (Prop×D)->Option (Prop×D)
 |some ⟨_,_,_,.bool⟩,x=>x
 |_,_=>none
def Xq8{x y:Nat}{z:Value}{r:Option (Prop×D)}:isB (some ⟨x,y,z,.bool⟩) r=r:=rfl
def XkE:YJ P .eql T (.v (.bool p)) (.v (.bool q))=isB (Xo P T) (some (True,.v (.bool (p==q)))):=by simp only[YJ];unfold isB;grind
def XkF:YJ P .neq T (.v (.bool p)) (.v (.bool q))=isB (Xo P T) (some (True,.v (.bool (!(p==q))))):=by simp only[YJ];unfold isB;grind
def eqA(neg:Bool):Option (List (Option IntKind))->List D->List D->Option (Prop×D)
 |some ks,xs,ys=>(Yd ks xs ys).map λb=>(True,.v (.bool (bif neg then !b else b)))
 |none,_,_=>none
def XkG{neg:Bool}{ks:List (Option IntKind)}:eqA neg (some ks) xs ys=(Yd ks xs ys).map λb=>(True,.v (.bool (bif neg then !b else b))):=rfl
def XkH:YJ P .eql T (.agg xs) (.agg ys)=eqA false (X2 P T) xs ys:=by
 simp only[YJ];cases X2 P T with
 |none=>rfl
 |some ks=>simp only[eqA];cases Yd ks xs ys<;>rfl
def XkI:YJ P .neq T (.agg xs) (.agg ys)=eqA true (X2 P T) xs ys:=by
 simp only[YJ];cases X2 P T with
 |none=>rfl
 |some ks=>simp only[eqA];cases Yd ks xs ys<;>rfl
end
def XiU{c:Prop}[Decidable c]{x y:Option (Prop×D×Up)}{dst:Option Nat}{m j:Nat}{f:Option Nat->D->Up->Nat->Nat->Prop}{t':Prf (if c then x else y)}:Xa7 (if c then x else y) dst m j f t'=(if c then Xa7 x dst m j f trivial else Xa7 y dst m j f trivial):=by grind
def XnB{c:Prop}[Decidable c]{x y:Option (Prop×D×Up)}:kd1 (if c then x else y)=(if c then kd1 x else kd1 y):=by grind
def XnC{C:Cx}{e:En}{ver:Nat}{s:Heap}{c:Prop}[Decidable c]{x y:Option Kd}{st:St}{F:St->Prop}{t':Prf (if c then x else y)}:doT P C e ver s (if c then x else y) st F t'=(if c then doT P C e ver s x st F trivial else doT P C e ver s y st F trivial):=by grind
def XoX{c a b:Prop}[Decidable c](h1:c->a)(h2:¬c->b):if c then a else b:=by simp_all
def Eqs(e:D)(ls:List Ob)(d:D)(os:List Ob):Prop:=d=e/\os=ls
def XpK{e:D}{ls:List Ob}:∃d os,Eqs e ls d os:=⟨_,_,rfl,rfl⟩
def Xr{a b:Prop}(h:a)(h':b):a/\b:=⟨h,h'⟩
def XkJ{α:Type}{l:List α}{n:Nat}(h:l.length<=n):l.take n=l:=Uj h
def XkK{C:Cx}{R:St->Prop}{c:Code}{k:List It}{st:St}{α β:Type}{o:Option α}{f:α->Option β}{r:β}{I:(α->Prop)->Nat->St->Prop}(hr:bnd o f=some r)(m n:Nat)(h0:∀ex,o=some ex->f ex=some r->I (λy=>f y=some r) n st)(round:∀n st,I (λy=>f y=some r) n st->run P C R m (.code c::.stop (λst'=>∃n',n'<n/\I (λy=>f y=some r) n' st')::k) st)(t':Prf c):LoopG P C R c k st t':=
 V7 hr λex h1 h2=>LoopG.of (I (λy=>f y=some r)) m n (h0 ex h1 h2) round t'
def Xen{α:Type}{x:α}{l:List α}{n:Nat}:List.take (1+n) (x::l)=x::List.take n l:=by grind
def CallG.ofE{G:Nat->Option (List D)}{f:FuncId}{args eargs:List D}{obs ls:List Ob}{e:D}{K:D->List Ob->Prop}(h:YK P G f eargs obs (Eqs e ls))(hf:ZH args eargs)(hK:K e ls)(t':Prf args):CallG P G f args obs K t':=
 CallG.of h hf (λ_ _ ⟨h1,h2⟩=>h1▸h2▸hK) t'
def CallD.ofE{G:Nat->Option (List D)}{f:FuncId}{args eargs:List D}{obs ls:List Ob}{e:D}{K:D->List Ob->Prop}(h:YK P G f eargs obs (Eqs e ls))(hf:ZH args eargs)(hK:K e ls)(t':Prf args):CallD P G f args obs K t':=
 CallD.of h hf XpK (λ_ _ ⟨h1,h2⟩=>h1▸h2▸hK) t'
def XN{d e:D}{obs ls:List Ob}(h:fitsR d e/\obs=ls):RetG d obs (Eqs e ls):=⟨_,h.1,rfl,h.2⟩
def XpL{a c:Nat}{b d:Ob}:(some (a,b)=some (c,d))=(a=c/\b=d):=by simp
def Xq9{a b:D}{l m:List D}:(a::l=b::m)=(a=b/\l=m):=by simp
def XpM{a b:List D}{l m:List (List D)}:(a::l=b::m)=(a=b/\l=m):=by simp
def XpN{a b:Ob}{l m:List Ob}:(a::l=b::m)=(a=b/\l=m):=by simp
attribute [go_sem] fits ZH fitsR JE Xq9 XpM XpN XpL D.osl.injEq D.ept.injEq Ob.arr.injEq exists_eq_left' exists_eq_left exists_eq exists_eq' exists_and_left exists_const or_self true_or or_true false_or or_false false_and and_false eq_self
attribute [go_sem] XiU XnB XnC Xen Nat.sub_zero XkJ Xnx Xny Xnz Xkp Xkq Xkr Xks Xkt Xku XnA Xkv Xfx Xkw Xkx Xky Xkz XkA XkB XkC XkD XkE XkF Xq8 XkG XkH XkI List.map_append List.map_set List.map_take List.map_drop List.map_replicate
end Go.Sx
