import Derived.LoopNIn
import Derived.OrdersIn
import Derived.TacticsIn
import Derived.Scope
import Derived.Test.YtmpbhfnjjaocoaaGreatAA
set_option linter.all false
namespace Go.Sx
variable {P:Program}
section
variable {C:Cx}{s:Heap}{U:Nat->Prop}{ver:Nat}{M:Mem}{β:Loc}{w:World}
def VS{fd:Field}(hne:P.cellsOf fd.type≠0)(b o:Nat):(fieldPlace ⟨b,o,none⟩ fd).run P w=.ok ⟨b,o+fd.offset,none⟩ w:=by have:=KT (P:=P) (t:=fd.type) rfl hne w;simp[fieldPlace,this,hne,UR]
def V0{fields:Array Field}{f off sz ft:Nat}(h:(fields.toList.map λf=>(f.offset,P.cellsOf f.type,f.type))[f]? = some (off,sz,ft)):∃fd,fields[f]? = some fd/\fd.offset=off/\P.cellsOf fd.type=sz/\fd.type=ft:=by simp_all
def XgS(fields:Array Field)(hall:∀fd∈fields.toList,((P.info? fd.type).map (·.size)).isSome=true)(w:World):
 (fields.mapM λf=>do pure (f.offset,←sizeOf f.type):Sem (Array (Nat×Nat))).run P w=.ok (fields.map λf=>(f.offset,P.cellsOf f.type)) w:=by
 rw[Array.mapM_eq_mapM_toList];have:∀l:List Field,(∀fd∈l,((P.info? fd.type).map (·.size)).isSome=true)->(l.mapM λf=>do pure (f.offset,←sizeOf f.type):Sem (List (Nat×Nat))).run P w=.ok (l.map λf=>(f.offset,P.cellsOf f.type)) w:=by
  intro l;induction l with
  |nil=>simp
  |cons f l ih=>
   intro h;have h1:=h f ab;have ih':=ih λfd hf=>h fd (by simp[hf]);cases hi:P.info? f.type with
   |none=>simp[hi]at h1
   |some i=>
    have:(sizeOf f.type).run P w=.ok (P.cellsOf f.type) w:=by simp[sizeOf,typeInfo,hi,Program.cellsOf]
    simp only[List.mapM_cons,Sem.run_bind,this,Result.andThen_ok,Sem.run_pure,ih',Ug]
 have h:=this fields.toList hall;simp only[Sem.run_map,h,Result.andThen_ok];congr 1;grind
def Xna(I:UP P C s U M β w)(_hv:¬U ver){dst:Option Tmp}{type:TypeId}{pos:String}{after:Array Edge}{guard:Option (Nat×Bool)}(ρ:Operand->Value)(t:Operand->D)(hρ:∀x,Rep P M β (t x) (ρ x)){c:Prop}{d:D}{u:Up}(x:Operand)(h:opF P dst ver t s (.move x)=some (c,d,u))(hc:c):OpOK P C s u U ver M β ((execOp ρ ⟨dst,(.move x),type,pos,after,guard⟩).run P w) d:=by unfold execOp;obtain⟨rfl,rfl,rfl⟩:=h;exact .val I rfl (hρ x)
def XiY(I:UP P C s U M β w)(_hv:¬U ver){dst:Option Tmp}{type:TypeId}{pos:String}{after:Array Edge}{guard:Option (Nat×Bool)}(ρ:Operand->Value)(t:Operand->D)(hρ:∀x,Rep P M β (t x) (ρ x)){c:Prop}{d:D}{u:Up}(x:Operand)(h:opF P dst ver t s (.assign x)=some (c,d,u))(hc:c):OpOK P C s u U ver M β ((execOp ρ ⟨dst,(.assign x),type,pos,after,guard⟩).run P w) d:=by unfold execOp;obtain⟨rfl,rfl,rfl⟩:=h;exact .val I rfl (hρ x)
def Xnb(I:UP P C s U M β w)(_hv:¬U ver){dst:Option Tmp}{type:TypeId}{pos:String}{after:Array Edge}{guard:Option (Nat×Bool)}(ρ:Operand->Value)(t:Operand->D)(hρ:∀x,Rep P M β (t x) (ρ x)){c:Prop}{d:D}{u:Up}(g:Operand)(a:Operand)(b:Operand)(h:opF P dst ver t s (.pick g a b)=some (c,d,u))(hc:c):OpOK P C s u U ver M β ((execOp ρ ⟨dst,(.pick g a b),type,pos,after,guard⟩).run P w) d:=by
 unfold execOp;simp only[opF]at h;split at h
 .rename_i bb hg;obtain⟨rfl,rfl,rfl⟩:=h;have hgr:=hρ g;rw[hg]at hgr;refine .val I (v:=if bb then ρ a else ρ b) (by simp[hgr.1,asBool]) ?_;have ha:=hρ a;have hb:=hρ b;unfold Xj2;split
  .rename_i p q e1 e2;rw[e1]at ha;rw[e2]at hb;cases bb
   .simp[Rep,hb.1,wfV]
   simp[Rep,ha.1,wfV]
  cases bb
  .exact hb
  exact ha
 simp_all
def Xj7(I:UP P C s U M β w)(hv:¬U ver){dst:Option Tmp}{type:TypeId}{pos:String}{after:Array Edge}{guard:Option (Nat×Bool)}(ρ:Operand->Value)(t:Operand->D)(_hρ:∀x,Rep P M β (t x) (ρ x)){c:Prop}{d:D}{u:Up}(T:TypeId)(h:opF P dst ver t s (.alloc T)=some (c,d,u))(hc:c):OpOK P C s u U ver M β ((execOp ρ ⟨dst,(.alloc T),type,pos,after,guard⟩).run P w) d:=by
 unfold execOp;simp only[opF]at h;split at h
 .rename_i ty hT;split at h
  .rename_i cs hcs;split at h
   .rename_i hcond;obtain⟨rfl,rfl,rfl⟩:=h;have⟨z1,z2⟩:=Y5 (P:=P) (M:=M) (β:=β) hcs;have e:(Instr.alloc T true (.tuple #[])).run P w=((do pure (Value.pointer (some (←newVar T ty.zero))):Sem Value)).run P w:=by simp[Instr.alloc,Kg hT]
    exact VOK.op (sem:=Instr.alloc T true (.tuple #[])) (by rw[e];exact Xj3 I hv hT z1 z2 hcond.1 hcond.2 (Kw dst))
   cases h
  cases h
 simp_all
def Xpu(I:UP P C s U M β w)(hv:¬U ver){dst:Option Tmp}{type:TypeId}{pos:String}{after:Array Edge}{guard:Option (Nat×Bool)}(ρ:Operand->Value)(t:Operand->D)(hρ:∀x,Rep P M β (t x) (ρ x)){c:Prop}{d:D}{u:Up}(T:TypeId)(x:Operand)(h:opF P dst ver t s (.box T x)=some (c,d,u))(hc:c):OpOK P C s u U ver M β ((execOp ρ ⟨dst,(.box T x),type,pos,after,guard⟩).run P w) d:=by
 unfold execOp;simp only[opF]at h;split at h
 .rename_i ty cs hT hcs;split at h
  .rename_i hby;obtain⟨rfl,rfl,rfl⟩:=h;have⟨z1,z2⟩:=KG hcs (hρ x);exact VOK.op (Xj3 I hv hT z1 z2 hc hby (Kw dst))
  cases h
 simp_all
def Xj8(I:UP P C s U M β w)(_hv:¬U ver){dst:Option Tmp}{type:TypeId}{pos:String}{after:Array Edge}{guard:Option (Nat×Bool)}(ρ:Operand->Value)(t:Operand->D)(hρ:∀x,Rep P M β (t x) (ρ x)){c:Prop}{d:D}{u:Up}(T:TypeId)(parts:Array (Nat×Operand))(h:opF P dst ver t s (.build T parts)=some (c,d,u))(hc:c):OpOK P C s u U ver M β ((execOp ρ ⟨dst,(.build T parts),type,pos,after,guard⟩).run P w) d:=by
 unfold execOp;simp only[opF]at h;split at h
 .rename_i ty hT;have⟨p1,p2⟩:=XdB hρ parts.toList;split at h
  .rename_i cs fs hzc hk;simp only[Ue,Wx]at h;obtain⟨r,hr,rfl,rfl,rfl⟩:=h;have⟨z1,z2⟩:=Y5 (P:=P) (M:=M) (β:=β) hzc;have⟨sz0,by0,z0,k0⟩:=ty;subst hk;obtain⟨fields,hu,rfl,hall⟩:=Z8 hT;have⟨vs,k1,k2⟩:=Xca _ (λi=>(fields.map λf=>(f.offset,P.cellsOf f.type))[i]?) (λi x hx=>by
    simp only[Ue,List.getElem?_map,UO]at hx
    obtain⟨y,⟨fd,h1,rfl⟩,rfl⟩:=hx
    simp[h1]) _ (parts.map λx=>(x.1,ρ x.2)).toList cs z0.cells r hr z1 ab (by simpa using p2)
   refine .val I (v:=.agg vs) ?_ ?_
   .simp only[Instr.build,Sem.run_bind,Kg hT,Result.andThen_ok,run_underlying hu,XgS fields hall,k1,Sem.run_pure]
   exact⟨vs.toList,ab,k2⟩
  .rename_i cs n e sz hzc hk;split at h
   .rename_i te hE;simp only[Ue,Wx]at h;obtain⟨r,hr,rfl,rfl,rfl⟩:=h;have⟨z1,z2⟩:=Y5 (P:=P) (M:=M) (β:=β) hzc;have⟨sz0,by0,z0,k0⟩:=ty;subst hk;have⟨hu,hsz⟩:=KF hT;have hsize:∀w:World,(sizeOf e).run P w=.ok sz w:=λw=>by rw[YJ hE,hsz,Xb6 hE]
    have⟨vs,k1,k2⟩:=Xca _ (λi=>some (i*sz,sz)) (λi x hx=>hx) _ (parts.map λx=>(x.1,ρ x.2)).toList cs z0.cells r hr z1 ab (by simpa using p2);refine .val I (v:=.agg vs) ?_ ?_
    .simp only[Instr.build,Sem.run_bind,Kg hT,Result.andThen_ok,run_underlying hu,hsize,k1,Sem.run_pure]
    exact⟨vs.toList,ab,k2⟩
   cases h
  cases h
 simp_all
def Xdr(I:UP P C s U M β w)(hv:¬U ver){dst:Option Tmp}{type:TypeId}{pos:String}{after:Array Edge}{guard:Option (Nat×Bool)}(ρ:Operand->Value)(t:Operand->D)(hρ:∀x,Rep P M β (t x) (ρ x)){c:Prop}{d:D}{u:Up}(T:TypeId)(n:Nat)(parts:Array (Nat×Operand))(h:opF P dst ver t s (.buildSlice T n parts)=some (c,d,u))(hc:c):OpOK P C s u U ver M β ((execOp ρ ⟨dst,(.buildSlice T n parts),type,pos,after,guard⟩).run P w) d:=by
 unfold execOp;simp only[opF]at h;split at h
 .rename_i a b zz E z hT;split at h
  .rename_i te hE;split at h
   .rename_i zc hzc;split at h
    .rename_i hcond;have⟨h1,h2,h3,h4,h5⟩:=hcond;split at h
     .rename_i cc ps l hps;simp only[Ue,Wx]at h;obtain⟨es,hes,rfl,rfl,rfl⟩:=h;have⟨p1,p2⟩:=XdB hρ parts.toList;have⟨M',I',hM,hF⟩:=I.freeze l;have⟨q3,q4⟩:=XdC I hM hps hc hF p2;have q1:ps.map (·.1)=(parts.map λx=>(x.1,ρ x.2)).toList.map (·.1):=by rw[q4,p1,Array.toList_map]
      have q2:RepL P M' Yu (ps.map (·.2)) ((parts.map λx=>(x.1,ρ x.2)).toList.map (·.2)):=by rw[Array.toList_map];exact q3
      have⟨M2,β2,w2,v2,g1,g2,g3,g4,g5⟩:=VOK.op (Xdq I' hv hT hE hzc h1 h2 h3 h4 h5 hes q1 q2 (Kw dst));refine⟨M2,β2,w2,v2,g1,?_,g3,hM.trans g4,g5⟩;rw[YW,J9];exact g2
     cases h
    cases h
   cases h
  cases h
 simp_all
def Xnc(I:UP P C s U M β w)(_hv:¬U ver){dst:Option Tmp}{type:TypeId}{pos:String}{after:Array Edge}{guard:Option (Nat×Bool)}(ρ:Operand->Value)(t:Operand->D)(hρ:∀x,Rep P M β (t x) (ρ x)){c:Prop}{d:D}{u:Up}(T:TypeId)(a:Operand)(h:opF P dst ver t s (.load T a)=some (c,d,u))(hc:c):OpOK P C s u U ver M β ((execOp ρ ⟨dst,(.load T a),type,pos,after,guard⟩).run P w) d:=by
 unfold execOp;simp only[opF]at h;split at h
 .rename_i ty c' cs o z hT hl;split at h
  .rename_i hcond;obtain⟨rfl,rfl,rfl⟩:=h;exact VOK.op (Xm6 I hT hl hc hcond.1 hcond.2 (hρ a))
  cases h
 simp_all
def Xj9(I:UP P C s U M β w)(_hv:¬U ver){dst:Option Tmp}{type:TypeId}{pos:String}{after:Array Edge}{guard:Option (Nat×Bool)}(ρ:Operand->Value)(t:Operand->D)(hρ:∀x,Rep P M β (t x) (ρ x)){c:Prop}{d:D}{u:Up}(T:TypeId)(a:Operand)(x:Operand)(h:opF P dst ver t s (.store T a x)=some (c,d,u))(hc:c):OpOK P C s u U ver M β ((execOp ρ ⟨dst,(.store T a x),type,pos,after,guard⟩).run P w) d:=by
 unfold execOp;simp only[opF]at h;split at h
 .rename_i ty id v z i cc hT ha;have hp:=hρ a;rw[ha]at hp;split at h
  .rename_i v' E z' es fz hs;split at h
   .rename_i ds hx;split at h
    .rename_i hcond;have⟨rfl,rfl,hfit⟩:=hcond;obtain⟨rfl,rfl,rfl⟩:=h;exact Xfq I hT hs hp hx (hρ x) hc.1 hc.2.1 hc.2.2 hfit
    cases h
   cases h
  .rename_i v' E z' es fz hs;split at h
   .rename_i c1 dd l hsn;split at h
    .rename_i ds hx;split at h
     .rename_i hcond;have⟨rfl,rfl,hfit,hnl⟩:=hcond;obtain⟨rfl,rfl,rfl⟩:=h;have⟨hc1,hc2,hc3,hc4⟩:=hc;have⟨M',I',hM,hF⟩:=I.freeze l;have hr':=snap_rep I hM hsn hc1 hF (hρ x);have hs':frz s l id=some (v,.arr false E z es fz):=by unfold frz;rw[Wn hnl];exact hs
      have⟨M2,β2,w2,v2,g1,g2,g3,g4,g5⟩:=Xfq (ver:=ver) I' hT hs' (hp.mono hM (BLe.refl _)) hx hr' hc2 hc3 hc4 hfit;refine⟨M2,β2,w2,v2,g1,?_,g3,hM.trans g4,g5⟩;rw[YW,J9];exact g2
     cases h
    cases h
   cases h
  cases h
 simp_all
def Xfu(I:UP P C s U M β w)(_hv:¬U ver){dst:Option Tmp}{type:TypeId}{pos:String}{after:Array Edge}{guard:Option (Nat×Bool)}(ρ:Operand->Value)(t:Operand->D)(hρ:∀x,Rep P M β (t x) (ρ x)){c:Prop}{d:D}{u:Up}(x:Operand)(h:opF P dst ver t s (.nilCheck x)=some (c,d,u))(hc:c):OpOK P C s u U ver M β ((execOp ρ ⟨dst,(.nilCheck x),type,pos,after,guard⟩).run P w) d:=by
 unfold execOp;simp only;simp only[opF]at h;split at h
 .rename_i id v z i cc hx;obtain⟨rfl,rfl,rfl⟩:=h;have hr:=hρ x;rw[hx]at hr;have hr':=hr;have⟨b,cb,_,he⟩:=hr';refine .val I (v:=ρ x) ?_ hr;rw[he];rfl
 .rename_i z cs cc hx;obtain⟨rfl,rfl,rfl⟩:=h;have hr:=hρ x;rw[hx]at hr;have hr':=hr;have⟨_,b,o,he,_⟩:=hr';refine .val I (v:=ρ x) ?_ hr;rw[he];rfl
 simp_all
def XiZ(I:UP P C s U M β w){op:BinOp}{T:TypeId}{x:D}{ρ:Operand->Value}{oy:Operand}{c:Prop}{d:D}(h:Xep P op T x=some (c,d))(hc:c){vx:Value}(rx:Rep P M β x vx){ox:Operand}(hn:Xb2 oy=true)(hy:∀v,oy=.const v->ρ oy=v):VOK P C s [] U ver M β ((do eqGuard op T ox oy vx (ρ oy);binOp op T vx (ρ oy):Sem Value).run P w) d:=by
 have hoy:∃l c,ρ oy=.slice none l c:=by
  cases oy with
  |const v=>
   simp only[Xb2]at hn;unfold XgO at hn;split at hn
   .cases hn
   .cases hn
   .rename_i l c;exact⟨l,c,hy _ rfl⟩
   cases hn
  |_=>simp[Xb2]at hn
 have⟨ly,cy,hoy⟩:=hoy;rw[hoy];have key:∀(a:Option Addr)(l cp:Nat){x1 x2:Nat}{x3:Value}{E z:Nat},Xo P T=some ⟨x1,x2,x3,.slice E z⟩->(Op.equal T (.slice a l cp) (.slice none ly cy)).run P w=.ok a.isNone w:=by intro a l cp x1 x2 x3 E z hT;unfold Op.equal Op.maxDepth Op.equalIn;cases a<;>simp[run_underlying (X4 hT).1]
 have hg:∀(op:BinOp)(a:Option Addr)(l cp:Nat),(eqGuard op T ox oy (.slice a l cp) (.slice none ly cy)).run P w=.ok () w:=by intro op a l cp;unfold eqGuard;cases op<;>simp
 unfold Xep at h;split at h
 .obtain⟨_,_,_,a,cap,rfl,_,hr⟩:=rx;split at h
  .rename_i hT;obtain⟨rfl,rfl⟩:=h;obtain⟨b,o,rfl,_⟩:=hr.resolve_left hc;refine .same I (v:=.bool false) ?_ (Zg _);simp[hg,binOp,key _ _ _ hT]
  .rename_i hT;obtain⟨rfl,rfl⟩:=h;obtain⟨b,o,rfl,_⟩:=hr.resolve_left hc;refine .same I (v:=.bool true) ?_ (Zg _);simp[hg,binOp,key _ _ _ hT]
  cases h
 .rename_i a l cp;obtain⟨rfl,_⟩:=rx;split at h
  .rename_i hT;obtain⟨rfl,rfl⟩:=h;refine .same I (v:=.bool a.isNone) ?_ (Zg _);simp[hg,binOp,key _ _ _ hT]
  .rename_i hT;simp only[Ws,Wx]at h;obtain⟨rfl,rfl⟩:=h;refine .same I (v:=.bool (!a.isNone)) ?_ (Zg _);simp[hg,binOp,key _ _ _ hT]
  cases h
 simp_all
def Xka(I:UP P C s U M β w)(_hv:¬U ver){dst:Option Tmp}{type:TypeId}{pos:String}{after:Array Edge}{guard:Option (Nat×Bool)}(ρ:Operand->Value)(t:Operand->D)(hρ:∀x,Rep P M β (t x) (ρ x)){c:Prop}{d:D}{u:Up}(op:BinOp)(T:TypeId)(x:Operand)(y:Operand)(yt:TypeId)(hy:∀v,y=.const v->ρ y=v)(h:opF P dst ver t s (.binOp op T x y yt)=some (c,d,u))(hc:c):OpOK P C s u U ver M β ((execOp ρ ⟨dst,(.binOp op T x y yt),type,pos,after,guard⟩).run P w) d:=by
 unfold execOp;simp only[opF,Ue,Wx]at h;obtain⟨⟨c',d'⟩,hb,rfl,rfl,rfl⟩:=h;split at hb
 .rename_i hn;exact VOK.op (XiZ I hb hc (hρ x) hn hy)
 exact VOK.op (Xm5 I hb hc (hρ x) (hρ y) x y)
def Xnd(I:UP P C s U M β w)(_hv:¬U ver){dst:Option Tmp}{type:TypeId}{pos:String}{after:Array Edge}{guard:Option (Nat×Bool)}(ρ:Operand->Value)(t:Operand->D)(hρ:∀x,Rep P M β (t x) (ρ x)){c:Prop}{d:D}{u:Up}(op:UnOp)(T:TypeId)(x:Operand)(h:opF P dst ver t s (.unOp op T x)=some (c,d,u))(hc:c):OpOK P C s u U ver M β ((execOp ρ ⟨dst,(.unOp op T x),type,pos,after,guard⟩).run P w) d:=by
 unfold execOp;simp only;simp only[opF]at h;have hr:=hρ x;split at h
 .rename_i b hx;obtain⟨rfl,rfl,rfl⟩:=h;rw[hx]at hr;refine .val I (v:=.bool (!b)) ?_ (Zg _);rw[hr.1];simp[Op.unary]
 .rename_i k n hx;obtain⟨rfl,rfl,rfl⟩:=h;rw[hx]at hr;refine .val I (v:=.int k (k.wrap (0-n))) ?_ (Zm _ _ (ZV _ _));rw[hr.1];simp[Op.unary,Op.intArith]
 simp_all
def XgT(I:UP P C s U M β w)(_hv:¬U ver){dst:Option Tmp}{type:TypeId}{pos:String}{after:Array Edge}{guard:Option (Nat×Bool)}(ρ:Operand->Value)(t:Operand->D)(hρ:∀x,Rep P M β (t x) (ρ x)){c:Prop}{d:D}{u:Up}(S:TypeId)(T:TypeId)(x:Operand)(h:opF P dst ver t s (.convert S T x)=some (c,d,u))(hc:c):OpOK P C s u U ver M β ((execOp ρ ⟨dst,(.convert S T x),type,pos,after,guard⟩).run P w) d:=by
 unfold execOp;simp only;simp only[opF]at h;split at h
 .rename_i tS a b zz k k' n hS hT hx;obtain⟨rfl,rfl,rfl⟩:=h;have hr:=hρ x;rw[hx]at hr;have⟨i,dd,_,hu,_⟩:=Yd hS;refine .val I (v:=.int k (k.wrap n)) ?_ (Zm _ _ (ZV _ _));rw[hr.1];simp[convert,run_underlying hu,run_underlying (XbG hT),Conv.intToInt]
 simp_all
def Xfv(I:UP P C s U M β w)(_hv:¬U ver){dst:Option Tmp}{type:TypeId}{pos:String}{after:Array Edge}{guard:Option (Nat×Bool)}(ρ:Operand->Value)(t:Operand->D)(hρ:∀x,Rep P M β (t x) (ρ x)){c:Prop}{d:D}{u:Up}(fn:Fn)(first:Array Operand)(captured:Array Operand)(h:opF P dst ver t s (.makeFunc fn first captured)=some (c,d,u))(hc:c):OpOK P C s u U ver M β ((execOp ρ ⟨dst,(.makeFunc fn first captured),type,pos,after,guard⟩).run P w) d:=by
 unfold execOp;obtain⟨rfl,rfl,rfl⟩:=h;refine .val I (v:=.func fn (first.map ρ) (captured.map ρ)) (by simp[Instr.makeFunc]) ?_;refine⟨first.toList.map ρ,captured.toList.map ρ,?_,Xeu hρ _,Xeu hρ _⟩;have e:∀l:Array Operand,l.map ρ=⟨l.toList.map ρ⟩:=λl=>by apply Array.ext';simp
 simp_all
def Xex(I:UP P C s U M β w)(hv:¬U ver){dst:Option Tmp}{type:TypeId}{pos:String}{after:Array Edge}{guard:Option (Nat×Bool)}(ρ:Operand->Value)(t:Operand->D)(hρ:∀x,Rep P M β (t x) (ρ x)){c:Prop}{d:D}{u:Up}(T:TypeId)(l:Operand)(cc:Operand)(h:opF P dst ver t s (.makeSlice T l cc)=some (c,d,u))(hc:c):OpOK P C s u U ver M β ((execOp ρ ⟨dst,(.makeSlice T l cc),type,pos,after,guard⟩).run P w) d:=by
 unfold execOp;simp only;simp only[opF]at h;split at h
 .rename_i a b zz E z n m hT hl hm;split at h
  .rename_i te hE;split at h
   .rename_i zc hzc;split at h
    .rename_i hcond;obtain⟨rfl,rfl,rfl⟩:=h;have⟨h0,rfl,h1,h2⟩:=hc;have⟨k,hk,_⟩:=JG hl (hρ l);have⟨k',hk',_⟩:=JG hm (hρ cc);rw[hk,hk'];exact VOK.op (Xm9 I hv hT hE hzc hcond.1 hcond.2 h0 h1 h2 (Kw dst))
    cases h
   cases h
  cases h
 simp_all
def Xkb(I:UP P C s U M β w)(_hv:¬U ver){dst:Option Tmp}{type:TypeId}{pos:String}{after:Array Edge}{guard:Option (Nat×Bool)}(ρ:Operand->Value)(t:Operand->D)(hρ:∀x,Rep P M β (t x) (ρ x)){c:Prop}{d:D}{u:Up}(T:TypeId)(x:Operand)(lo:Option Operand)(hi:Option Operand)(mx:Option Operand)(h:opF P dst ver t s (.slice T x lo hi mx)=some (c,d,u))(hc:c):OpOK P C s u U ver M β ((execOp ρ ⟨dst,(.slice T x lo hi mx),type,pos,after,guard⟩).run P w) d:=by
 unfold execOp;simp only[opF]at h;split at h
 .rename_i a b zz E sz l hh m hT hl hhh hm;split at h
  .rename_i te hE;simp only[Ue,Wx]at h;obtain⟨⟨c',d'⟩,hs,rfl,rfl,rfl⟩:=h;have⟨k1,e1⟩:=JH hρ hl;have⟨k2,e2⟩:=JH hρ hhh;have⟨k3,e3⟩:=JH hρ hm;simp only[e1,e2,e3];exact VOK.op (XiU I hT hE hs hc (hρ x))
  cases h
 .rename_i a b zz n E sz' hT hl hhh hm;split at h
  .rename_i te z cs hE hx;split at h
   .rename_i hcond;have⟨h1,rfl,h0,h2,h3⟩:=hcond;obtain⟨rfl,rfl,rfl⟩:=h;have⟨k1,e1⟩:=JH hρ hl;have⟨k2,e2⟩:=JH hρ hhh;have⟨k3,e3⟩:=JH hρ hm;simp only[e1,e2,e3];have hr:=hρ x;rw[hx]at hr;exact VOK.op (XiV I hT hE h1 h0 h2 h3 hr)
   cases h
  cases h
 simp_all
def Xey(I:UP P C s U M β w)(_hv:¬U ver){dst:Option Tmp}{type:TypeId}{pos:String}{after:Array Edge}{guard:Option (Nat×Bool)}(ρ:Operand->Value)(t:Operand->D)(hρ:∀x,Rep P M β (t x) (ρ x)){c:Prop}{d:D}{u:Up}(T:TypeId)(x:Operand)(f:Nat)(h:opF P dst ver t s (.fieldAddr T x f)=some (c,d,u))(hc:c):OpOK P C s u U ver M β ((execOp ρ ⟨dst,(.fieldAddr T x f),type,pos,after,guard⟩).run P w) d:=by
 unfold execOp;simp only;simp only[opF]at h;have hr:=hρ x;split at h
 .rename_i a b zz fs id v z i cc hT hx;split at h
  .rename_i off sz ft hf;split at h
   .cases h
   rename_i hne;obtain⟨rfl,rfl,rfl⟩:=h;rw[hx]at hr;have⟨bb,cb,hb,he⟩:=hr;obtain⟨fields,hu,rfl,_⟩:=Z8 hT;have⟨fd,g1,g2,g3,g4⟩:=V0 hf;have hp:=VS (P:=P) (w:=w) (fd:=fd) (by rw[g3];exact hne) bb (i*z+cc);refine .val I (v:=.pointer (some ⟨bb,i*z+cc+off,none⟩)) ?_ ?_
   .rw[he];simp[Instr.fieldAt,run_underlying hu,g1,Instr.sureAddr,hp,g2]
   exact⟨bb,cb,hb,by rw[Nat.add_assoc]⟩
  cases h
 .rename_i a b zz fs z cs cc hT hx;split at h
  .rename_i off sz ft hf;split at h
   .cases h
   rename_i hne;obtain⟨rfl,rfl,rfl⟩:=h;rw[hx]at hr;obtain⟨hz,bb,o,he,hrc⟩:=hr;obtain⟨fields,hu,rfl,_⟩:=Z8 hT;obtain⟨fd,g1,g2,g3,g4⟩:=V0 hf;have hp:=VS (P:=P) (w:=w) (fd:=fd) (by rw[g3];exact hne) bb (o+cc);refine .val I (v:=.pointer (some ⟨bb,o+cc+off,none⟩)) ?_ ?_
   .rw[he];simp[Instr.fieldAt,run_underlying hu,g1,Instr.sureAddr,hp,g2]
   simp only[Rep];exact⟨hz,bb,o,by rw[Nat.add_assoc],hrc⟩
  cases h
 simp_all
def Xkc(I:UP P C s U M β w)(_hv:¬U ver){dst:Option Tmp}{type:TypeId}{pos:String}{after:Array Edge}{guard:Option (Nat×Bool)}(ρ:Operand->Value)(t:Operand->D)(hρ:∀x,Rep P M β (t x) (ρ x)){c:Prop}{d:D}{u:Up}(T:TypeId)(x:Operand)(f:Nat)(h:opF P dst ver t s (.field T x f)=some (c,d,u))(hc:c):OpOK P C s u U ver M β ((execOp ρ ⟨dst,(.field T x f),type,pos,after,guard⟩).run P w) d:=by
 unfold execOp;simp only;simp only[opF]at h;have hr:=hρ x;split at h
 .rename_i a b zz fs cs hT hx;split at h
  .rename_i off sz ft hf;split at h
   .rename_i ty hty;split at h
    .rename_i hsz;obtain⟨rfl,rfl,rfl⟩:=h;have⟨hfit,hag⟩:=hc;rw[hx]at hr;have⟨vs,he,hrl⟩:=hr;obtain⟨fields,hu,rfl,_⟩:=Z8 hT;have⟨fd,g1,g2,g3,g4⟩:=V0 hf;subst g4;rw[he];cases hagg:ty.isAgg with
     |true=>
      refine .val I (v:=.agg ((vs.toArray).extract off (off+sz))) ?_ ?_
      .simp[Instr.field,run_underlying hu,g1,part,asAgg,KD hty,hagg,YJ hty,hsz,g2]
      refine⟨(vs.drop off).take sz,?_,(hrl.drop off).take sz⟩;congr 1;simp[List.extract_eq_take_drop]
     |false=>
      have h1:sz=1:=by rcases hag with h|h;(rw[hagg]at h;cases h);exact h
      subst h1;have⟨x0,hx0,hr0⟩:=hrl.get off (cs[off]'aa) ab;refine .val I (v:=x0) ?_ ?_
      .simp[Instr.field,run_underlying hu,g1,part,asAgg,KD hty,hagg,g2,hx0]
      simp only[KS,U4,if_false];have:((cs.drop off).take 1).headD .any=cs[off]'aa:=by rw[List.take_one];simp[List.head?_drop,show off<cs.length by omega]
      rw[this];exact hr0
    cases h
   cases h
  cases h
 simp_all
def Xez(I:UP P C s U M β w)(_hv:¬U ver){dst:Option Tmp}{type:TypeId}{pos:String}{after:Array Edge}{guard:Option (Nat×Bool)}(ρ:Operand->Value)(t:Operand->D)(hρ:∀x,Rep P M β (t x) (ρ x)){c:Prop}{d:D}{u:Up}(T:TypeId)(x:Operand)(ix:Operand)(h:opF P dst ver t s (.indexAddr T x ix)=some (c,d,u))(hc:c):OpOK P C s u U ver M β ((execOp ρ ⟨dst,(.indexAddr T x ix),type,pos,after,guard⟩).run P w) d:=by
 unfold execOp;simp only;simp only[opF]at h;have hr:=hρ x;split at h
 .rename_i a b zz E sz E' z es i hT hx hi;split at h
  .rename_i hsz;have⟨rfl,hne⟩:=hsz;obtain⟨rfl,rfl,rfl⟩:=h;have⟨k,hk,_⟩:=JG hi (hρ ix);have⟨hu,hcz⟩:=X4 hT;rw[hx]at hr;have⟨q1,q2,q3,base,cap,he,hcap,hr⟩:=hr;have hlt:i.toNat<es.length:=aa;rcases hr with rfl|⟨bb,o,rfl,hr⟩
   .simp at hlt
   have hsize:∀{n:Nat},sz=n->n≠0->(sizeOf E).run P w=.ok n w:=λ{n} h1 h2=>KT (hcz.symm.trans h1) h2 w;have hrc:=hr.get q1 i.toNat es[i.toNat] (by simp[hlt]);have hgd:es.getD i.toNat []=es[i.toNat]:=by rw[Wp,Wc hlt];rfl
   rcases Ua sz with hz0|hz0
   .exact absurd hz0 hne
   refine .val I (v:=.pointer (some ⟨bb,o+i.toNat*sz,none⟩)) ?_ ?_
   .rw[he,hk];simp[Instr.indexAt,run_underlying hu,asIntOf,hc.1,hc.2,hsize rfl aa,UR]
   rw[hgd];exact⟨q1 _ (WO _),bb,o+i.toNat*sz,ab,hrc⟩
  cases h
 .rename_i a b zz E sz id v z off len i hT hx hi;split at h
  .rename_i hsz;have⟨rfl,hne⟩:=hsz;obtain⟨rfl,rfl,rfl⟩:=h;obtain⟨k,hk,_⟩:=JG hi (hρ ix);obtain⟨hu,hcz⟩:=X4 hT;rw[hx]at hr;simp only[Rep]at hr;rcases hr with⟨_,_,rfl,_,_⟩|⟨bb,cb,o,cap,hb1,he,hcap,hcb,ho⟩
   .omega
   have ho':o=off*sz:=by rcases ho with h|h;exact h;omega
   subst ho';refine .val I (v:=.pointer (some ⟨bb,off*sz+i.toNat*sz,none⟩)) ?_ ?_
   .rw[he,hk];have hsize:=KT hcz.symm hne w;simp[Instr.indexAt,run_underlying hu,asIntOf,hc.1,hc.2,hsize,UR]
   simp only[Rep];exact⟨bb,cb,hb1,by rw[Uu];simp⟩
  cases h
 .rename_i a b zz n E sz z cs cc i hT hx hi;split at h
  .cases h
  rename_i hne;simp only[Ws,Wx]at h;obtain⟨rfl,rfl,rfl⟩:=h;obtain⟨k,hk,_⟩:=JG hi (hρ ix);obtain⟨hu,hcz⟩:=KF hT;have hsize:=KT hcz.symm hne w;rw[hx]at hr;simp only[Rep]at hr;obtain⟨hz,bb,o,he,hrc⟩:=hr;refine .val I (v:=.pointer (some ⟨bb,o+cc+i.toNat*sz,none⟩)) ?_ ?_
  .rw[he,hk];simp[Instr.indexAt,run_underlying hu,asIntOf,Instr.sureAddr,hc.1,hc.2,hsize,UR]
  simp only[Rep];exact⟨hz,bb,o,by rw[Nat.add_assoc],hrc⟩
 .rename_i a b zz n E sz id v z j cc i hT hx hi;split at h
  .cases h
  rename_i hne;simp only[Ws,Wx]at h;obtain⟨rfl,rfl,rfl⟩:=h;obtain⟨k,hk,_⟩:=JG hi (hρ ix);obtain⟨hu,hcz⟩:=KF hT;have hsize:=KT hcz.symm hne w;rw[hx]at hr;simp only[Rep]at hr;obtain⟨bb,cb,hb1,he⟩:=hr;refine .val I (v:=.pointer (some ⟨bb,j*z+cc+i.toNat*sz,none⟩)) ?_ ?_
  .rw[he,hk];simp[Instr.indexAt,run_underlying hu,asIntOf,Instr.sureAddr,hc.1,hc.2,hsize,UR]
  simp only[Rep];exact⟨bb,cb,hb1,by rw[Nat.add_assoc]⟩
 simp_all
def Xkd(I:UP P C s U M β w)(_hv:¬U ver){dst:Option Tmp}{type:TypeId}{pos:String}{after:Array Edge}{guard:Option (Nat×Bool)}(ρ:Operand->Value)(t:Operand->D)(hρ:∀x,Rep P M β (t x) (ρ x)){c:Prop}{d:D}{u:Up}(T:TypeId)(x:Operand)(ix:Operand)(h:opF P dst ver t s (.index T x ix)=some (c,d,u))(hc:c):OpOK P C s u U ver M β ((execOp ρ ⟨dst,(.index T x ix),type,pos,after,guard⟩).run P w) d:=by
 unfold execOp;simp only;simp only[opF]at h;have hr:=hρ x;split at h
 .rename_i a b zz n e sz cs i hT hx hi;split at h
  .rename_i ty hty;split at h
   .rename_i hsz;obtain⟨rfl,rfl,rfl⟩:=h;have⟨h0,hn,hfit,hag⟩:=hc;have⟨k,hk,_⟩:=JG hi (hρ ix);have⟨hu,hcz⟩:=KF hT;rw[hx]at hr;have⟨vs,he,hrl⟩:=hr;rw[he,hk];cases hagg:ty.isAgg with
    |true=>
     refine .val I (v:=.agg ((vs.toArray).extract (i.toNat*sz) (i.toNat*sz+sz))) ?_ ?_
     .simp[Instr.index,run_underlying hu,asIntOf,h0,hn,part,asAgg,KD hty,hagg,YJ hty,hsz]
     refine⟨(vs.drop (i.toNat*sz)).take sz,?_,(hrl.drop (i.toNat*sz)).take sz⟩;congr 1;simp[List.extract_eq_take_drop]
    |false=>
     have h1:sz=1:=by rcases hag with h|h;(rw[hagg]at h;cases h);exact h
     subst h1;have⟨x0,hx0,hr0⟩:=hrl.get (i.toNat*1) (cs[i.toNat*1]'aa) ab;refine .val I (v:=x0) ?_ ?_
     .simp[Instr.index,run_underlying hu,asIntOf,h0,hn,part,asAgg,KD hty,hagg,YJ hty,hsz];have:vs[i.toNat]? = some x0:=by rw[←hx0,Nat.mul_one]
      simp[this]
     simp only[KS,U4,if_false];have:((cs.drop (i.toNat*1)).take 1).headD .any=cs[i.toNat*1]'aa:=by rw[List.take_one];have hl:i.toNat<cs.length:=aa;simp[List.head?_drop,hl]
     rw[this];exact hr0
   cases h
  cases h
 simp_all
def XgU(I:UP P C s U M β w)(_hv:¬U ver){dst:Option Tmp}{type:TypeId}{pos:String}{after:Array Edge}{guard:Option (Nat×Bool)}(ρ:Operand->Value)(t:Operand->D)(hρ:∀x,Rep P M β (t x) (ρ x)){c:Prop}{d:D}{u:Up}(x:Operand)(i:Nat)(h:opF P dst ver t s (.extract x i)=some (c,d,u))(hc:c):OpOK P C s u U ver M β ((execOp ρ ⟨dst,(.extract x i),type,pos,after,guard⟩).run P w) d:=by
 unfold execOp;simp only;simp only[opF]at h;have hr:=hρ x;split at h
 .rename_i ds hx;split at h
  .rename_i hi;obtain⟨rfl,rfl,rfl⟩:=h;rw[hx]at hr;have⟨vs,he,hrl⟩:=hr;have⟨v,hv1,hv2⟩:=hrl.get i ds[i] (by simp[hi]);refine .val I (v:=v) ?_ ?_
   .rw[he];simp[Instr.extract,hv1]
   rw[Wp,Wc hi];exact hv2
  cases h
 simp_all
def Xai{t:Operand->D}{ρ:Operand->Value}(hρ:∀x,Rep P M β (t x) (ρ x)){args:Array Operand}{d:D}(h:args.toList.map t=[d]):∃v,args.map ρ=#[v]/\Rep P M β d v:=by
 have⟨l⟩:=args;match l,h with
 |[x],h=>grind
def Va{t:Operand->D}{ρ:Operand->Value}(hρ:∀x,Rep P M β (t x) (ρ x)){args:Array Operand}{d e:D}(h:args.toList.map t=[d,e]):∃v u,args.map ρ=#[v,u]/\Rep P M β d v/\Rep P M β e u:=by
 have⟨l⟩:=args;match l,h with
 |[x,y],h=>grind
def XaM{types:Array TypeId}{T:TypeId}(h:types.toList=[T]):types=#[T]:=by grind
def Xi0{types:Array TypeId}{T T2:TypeId}(h:types.toList=[T,T2]):types=#[T,T2]:=by grind
def VA{n:Nat}(h:n<=Xp):wfV (.int .i64 n):=by simp only[wfV,IntKind.min,IntKind.max,IntKind.signed,IntKind.bits,if_true];grind[Xp]
def Xpv(I:UP P C s U M β w){dst:Option Tmp}{type:TypeId}{pos:String}{after:Array Edge}{guard:Option (Nat×Bool)}(ρ:Operand->Value)(t:Operand->D)(hρ:∀x,Rep P M β (t x) (ρ x)){c:Prop}{d:D}{u:Up}(args:Array Operand)(types:Array TypeId)(h:opF P dst ver t s (.call ⟨.builtin .len,args,types⟩)=some (c,d,u))(hc:c):OpOK P C s u U ver M β ((execOp ρ ⟨dst,.call ⟨.builtin .len,args,types⟩,type,pos,after,guard⟩).run P w) d:=by
 simp only[opF]at h;split at h
 .rename_i d0 T ha ht;have⟨v,hv,hr⟩:=Xai hρ ha;have hty:=XaM ht;subst hty;have start:∀r:Int,(Builtin.len_ #[T] type #[v]).run P w=.ok (.int .i64 r) w->(execOp ρ ⟨dst,.call ⟨.builtin .len,args,#[T]⟩,type,pos,after,guard⟩).run P w=.ok (.value (.int .i64 r)) w:=by intro r hrun;simp[execOp,resolve,invoke,builtin,hv,hrun]
  split at h
  .rename_i a b zz E sz hT;obtain⟨rfl,rfl,rfl⟩:=h;obtain⟨a',rfl⟩:=hr;exact .val I (v:=.int .i64 0) (start 0 (by simp[Builtin.len_,run_underlying (X4 hT).1,goInt])) (Zm _ _ (VA (n:=0) ae))
  .rename_i a b zz E sz E' z es hT;obtain⟨rfl,rfl,rfl⟩:=h;obtain⟨_,h2,_,a',cap,rfl,_⟩:=hr;exact .val I (v:=.int .i64 es.length) (start _ (by simp[Builtin.len_,run_underlying (X4 hT).1,goInt])) (Zm _ _ (VA h2))
  .rename_i a b zz E sz id v' z off len hT;obtain⟨rfl,rfl,rfl⟩:=h;have hv2:∃a cap,v=.slice a len cap:=by
    simp only[Rep]at hr;rcases hr with⟨_,_,rfl,a,rfl⟩|⟨_,_,_,cap,_,rfl,_⟩
    .exact⟨_,_,rfl⟩
    exact⟨_,_,rfl⟩
   obtain⟨a',cap,rfl⟩:=hv2;exact .val I (v:=.int .i64 len) (start _ (by simp[Builtin.len_,run_underlying (X4 hT).1,goInt])) (Zm _ _ (VA hc))
  .rename_i a b zz n E sz hT;split at h
   .rename_i hn;simp only[Ws,Wx]at h;obtain⟨rfl,rfl,rfl⟩:=h;exact .val I (v:=.int .i64 n) (start _ (by simp[Builtin.len_,run_underlying (KF hT).1,goInt])) (Zm _ _ (VA hn))
   cases h
  .rename_i id v0 _;split at h
   .rename_i k E v' k2 es hT hs;split at h
    .rename_i hcond;obtain⟨rfl,rfl⟩:=hcond;simp only[Ws,Wx]at h;obtain⟨rfl,rfl,rfl⟩:=h;obtain⟨K,hT1,hT2⟩:=Ka hT;simp only[Rep]at hr;obtain⟨b,cb,hb,rfl⟩:=hr;obtain⟨x0,hx0,hob⟩:=I.obs id v0 _ hs;rw[hb]at hx0;obtain rfl:some (b,cb)=x0:=by simpa using hx0
     obtain⟨rfl,h1,h2,ents,clock,h3,h4,h5,h6⟩:=hob;have hl:=h4.length;have hl':ents.size=es.length:=by simpa using hl
     exact .val I (v:=.int .i64 es.length) (start _ (by simp[Builtin.len_,run_underlying hT1,goInt,Go.MapKept.run_getObj_map h3,hl'])) (Zm _ _ (VA h1))
    cases h
   cases h
  cases h
 simp_all
def Xi1(I:UP P C s U M β w){dst:Option Tmp}{type:TypeId}{pos:String}{after:Array Edge}{guard:Option (Nat×Bool)}(ρ:Operand->Value)(t:Operand->D)(hρ:∀x,Rep P M β (t x) (ρ x)){c:Prop}{d:D}{u:Up}(args:Array Operand)(types:Array TypeId)(h:opF P dst ver t s (.call ⟨.builtin .delete,args,types⟩)=some (c,d,u))(_hc:c):OpOK P C s u U ver M β ((execOp ρ ⟨dst,.call ⟨.builtin .delete,args,types⟩,type,pos,after,guard⟩).run P w) d:=by
 simp only[opF]at h;split at h
 .rename_i id v k' n T ts ha ht;have⟨v1,v2,hvs,hr1,hr2⟩:=Va hρ ha;have⟨tl⟩:=types;subst ht;split at h
  .rename_i k E v' k2 es hT hs;split at h
   .rename_i hcond;have⟨rfl,rfl,rfl⟩:=hcond;obtain⟨rfl,rfl,rfl⟩:=h;have⟨K,hT1,hT2⟩:=Ka hT;obtain⟨b,cb,hb,rfl⟩:=hr1;obtain⟨rfl,_⟩:=hr2;have⟨x0,hx0,hob⟩:=I.obs id v _ hs;rw[hb]at hx0;obtain rfl:some (b,cb)=x0:=by simpa using hx0
    obtain⟨rfl,h1,h2,ents,clock,h3,h4,h5,h6⟩:=hob;have start:∀a,Instr.findNow (.int k) (.int k n) ents.toList 0=some a->(Builtin.delete_ ⟨T::ts⟩ type #[.map (some b),.int k n]).run P w =
     .ok (.tuple #[]) {w with heap:=w.heap.setIfInBounds b (.map (match a with|some (i,_)=>ents.eraseIdxIfInBounds i|none=>ents) clock)}:=by
     intro a ha
     unfold Builtin.delete_
     cases a with
     |none=>simp[run_underlying hT1,Go.MapKept.run_getObj_map h3,Go.MapKept.run_checkKey hT2 (Vz k n),Go.MapKept.run_findKey hT2 ha,Go.MapKept.run_setObj_map _ h3]
     |some y=>simp[run_underlying hT1,Go.MapKept.run_getObj_map h3,Go.MapKept.run_checkKey hT2 (Vz k n),Go.MapKept.run_findKey hT2 ha,Go.MapKept.run_setObj_map _ h3]
    have start2:∀a,Instr.findNow (.int k) (.int k n) ents.toList 0=some a->(execOp ρ ⟨dst,.call ⟨.builtin .delete,args,⟨T::ts⟩⟩,type,pos,after,guard⟩).run P w =
     .ok (.value (.tuple #[])) {w with heap:=w.heap.setIfInBounds b (.map (match a with|some (i,_)=>ents.eraseIdxIfInBounds i|none=>ents) clock)}:=by
     intro a ha
     simp[execOp,resolve,invoke,builtin,hvs,start a ha]
    rcases Xah n ents.toList es 0 h4 with⟨g1,g2,g3,g4⟩|⟨j,e,d0,g1,g2,g3,g4,g5,g6,g7,g8,g9⟩
    .refine⟨M,β,_,.tuple #[],.inl (start2 _ g4),?_,by simp[Rep,RepL],MLe.refl _,BLe.refl _⟩;rw[g2];exact(I.setMap hs hb h3 h1 h4 h5 h6).mono λ_ h=>.inl h
    have hle:(ents.eraseIdxIfInBounds (0+j)).toList=ents.toList.eraseIdx j:=by
     have hj:j<ents.size:=by
      rcases Uq j ents.size with h'|h'
      .exact h'
      rw[WY (by exact h')]at g3;cases g3
     rw[Uy];simp[Array.eraseIdxIfInBounds,hj]
    refine⟨M,β,_,.tuple #[],.inl (start2 _ g2),?_,by simp[Rep,RepL],MLe.refl _,BLe.refl _⟩;refine(I.setMap hs hb h3 aa (by rw[hle];exact g7) ?_ ?_).mono λ_ h=>.inl h
    .rw[hle];exact h5.sublist ((List.eraseIdx_sublist _ _).map _)
    intro e' he';rw[hle]at he';exact h6 e' (List.mem_of_mem_eraseIdx he')
   cases h
  cases h
 simp_all
def Xpw(I:UP P C s U M β w){dst:Option Tmp}{type:TypeId}{pos:String}{after:Array Edge}{guard:Option (Nat×Bool)}(ρ:Operand->Value)(t:Operand->D)(hρ:∀x,Rep P M β (t x) (ρ x)){c:Prop}{d:D}{u:Up}(args:Array Operand)(types:Array TypeId)(h:opF P dst ver t s (.call ⟨.builtin .cap,args,types⟩)=some (c,d,u))(_hc:c):OpOK P C s u U ver M β ((execOp ρ ⟨dst,.call ⟨.builtin .cap,args,types⟩,type,pos,after,guard⟩).run P w) d:=by
 simp only[opF]at h;split at h
 .rename_i d0 T ha ht;have⟨v,hv,hr⟩:=Xai hρ ha;have hty:=XaM ht;subst hty;split at h
  .rename_i a b zz E sz hT;obtain⟨rfl,rfl,rfl⟩:=h;obtain⟨a',rfl⟩:=hr;exact .val I (v:=.int .i64 0) (by simp[execOp,resolve,invoke,builtin,hv,Builtin.cap_,run_underlying (X4 hT).1,goInt]) (Zm _ _ (VA (n:=0) ae))
  cases h
 simp_all
def Xpx(I:UP P C s U M β w){dst:Option Tmp}{type:TypeId}{pos:String}{after:Array Edge}{guard:Option (Nat×Bool)}(ρ:Operand->Value)(t:Operand->D)(hρ:∀x,Rep P M β (t x) (ρ x)){c:Prop}{d:D}{u:Up}(args:Array Operand)(types:Array TypeId)(h:opF P dst ver t s (.call ⟨.builtin .min,args,types⟩)=some (c,d,u))(_hc:c):OpOK P C s u U ver M β ((execOp ρ ⟨dst,.call ⟨.builtin .min,args,types⟩,type,pos,after,guard⟩).run P w) d:=by
 simp only[opF]at h;split at h
 .rename_i j a k b ha;split at h
  .rename_i hk;subst hk;have⟨v1,v2,hv,hr1,hr2⟩:=Va hρ ha;obtain⟨rfl,rfl,rfl⟩:=h;obtain⟨rfl,w1⟩:=hr1;obtain⟨rfl,w2⟩:=hr2;refine .val I (v:=.int j (if b<a then b else a)) (by simp[execOp,resolve,invoke,builtin,hv,Builtin.min_,Builtin.min2]) (Zm _ _ ?_);split<;>assumption
  cases h
 simp_all
def Xpy(I:UP P C s U M β w){dst:Option Tmp}{type:TypeId}{pos:String}{after:Array Edge}{guard:Option (Nat×Bool)}(ρ:Operand->Value)(t:Operand->D)(hρ:∀x,Rep P M β (t x) (ρ x)){c:Prop}{d:D}{u:Up}(args:Array Operand)(types:Array TypeId)(h:opF P dst ver t s (.call ⟨.builtin .max,args,types⟩)=some (c,d,u))(_hc:c):OpOK P C s u U ver M β ((execOp ρ ⟨dst,.call ⟨.builtin .max,args,types⟩,type,pos,after,guard⟩).run P w) d:=by
 simp only[opF]at h;split at h
 .rename_i j a k b ha;split at h
  .rename_i hk;subst hk;have⟨v1,v2,hv,hr1,hr2⟩:=Va hρ ha;obtain⟨rfl,rfl,rfl⟩:=h;obtain⟨rfl,w1⟩:=hr1;obtain⟨rfl,w2⟩:=hr2;refine .val I (v:=.int j (if a<b then b else a)) (by simp[execOp,resolve,invoke,builtin,hv,Builtin.max_,Builtin.max2]) (Zm _ _ ?_);split<;>assumption
  cases h
 simp_all
def Xi2(I:UP P C s U M β w)(hv:¬U ver){dst:Option Tmp}{type:TypeId}{pos:String}{after:Array Edge}{guard:Option (Nat×Bool)}(ρ:Operand->Value)(t:Operand->D)(hρ:∀x,Rep P M β (t x) (ρ x)){c:Prop}{d:D}{u:Up}(args:Array Operand)(types:Array TypeId)(h:opF P dst ver t s (.call ⟨.builtin .append,args,types⟩)=some (c,d,u))(hc:c):OpOK P C s u U ver M β ((execOp ρ ⟨dst,.call ⟨.builtin .append,args,types⟩,type,pos,after,guard⟩).run P w) d:=by
 simp only[opF]at h;split at h
 .rename_i d0 x0 T T2 ha ht;have⟨v1,v2,hvs,hr1,hr2⟩:=Va hρ ha;have hty:=Xi0 ht;subst hty;have start:∀{d u},VOK P C s u U ver M β ((Builtin.append_ #[T,T2] type #[v1,v2]).run P w) d->OpOK P C s u U ver M β ((execOp ρ ⟨dst,.call ⟨.builtin .append,args,#[T,T2]⟩,type,pos,after,guard⟩).run P w) d:=by
   intro d u hk;have:=VOK.op (sem:=Builtin.append_ #[T,T2] type #[v1,v2]) hk;have e:(execOp ρ ⟨dst,.call ⟨.builtin .append,args,#[T,T2]⟩,type,pos,after,guard⟩).run P w=((do pure (Next.value (←Builtin.append_ #[T,T2] type #[v1,v2])):Sem Next)).run P w:=by simp[execOp,resolve,invoke,builtin,hvs]
   rw[e];exact this
  split at h
  .rename_i a b zz E z hT;split at h
   .rename_i te hE;split at h
    .rename_i zc hzc;split at h
     .rename_i hcond;have⟨hz,hzl⟩:=hcond;have⟨z1,z2⟩:=Y5 (P:=P) (M:=M) (β:=β) hzc;have hzs:te.zero.cells.size=te.size:=by have:=z1.length;simp at this;omega
      split at h
      .rename_i a2 b2 zz2 E2 sz2 hT2;split at h
       .rename_i c0 src hel;have hc0:c0:=by
         unfold Xdn at h;split at h
         .simp at h;rw[←h.1]at hc;exact hc.1
         .split at h
          .split at h
           .split at h
            .simp at h;rw[←h.1]at hc;exact hc.1
            simp at h;rw[←h.1]at hc;exact hc.1
           cases h
          cases h
         cases h
        obtain⟨base,cap,vals,rfl,e1,e2,e3,e4,e5,e6⟩:=Xfr I hel hc0 hr2;have R:=Xet (w:=w) (o':=type) (X4 hT).1 (X4 hT2).1 hE (xb:=base) (m:=src.length) (xc:=cap) (vals:=vals) (by rw[hz];exact e2) e3 e4 e6;exact start (XhW I hv hE hz hzc hzl e1 e5 e6 R h hc hr1)
       cases h
      .rename_i a2 b2 zz2 k2 hT2;split at h
       .rename_i n hn;have hc0:(0<=n/\n<=Xp/\n.toNat*te.bytes<=Xp):=by
         unfold Xdn at h;split at h
         .simp only[Ws,Wx]at h;rw[←h.1]at hc;exact hc.1
         .split at h
          .split at h
           .split at h
            .simp only[Ws,Wx]at h;rw[←h.1]at hc;exact hc.1
            simp only[Ws,Wx]at h;rw[←h.1]at hc;exact hc.1
           cases h
          cases h
         cases h
        have⟨g0,g1,g2⟩:=hc0;have⟨k',hk',_⟩:=JG hn hr2;subst hk';have hvl:(if n.toNat*te.size=0 then([]:List Value)else(Builtin.zeroCells te.zero.cells n.toNat).toList)=(Builtin.zeroCells te.zero.cells n.toNat).toList:=by
         split
         .rename_i h0;refine(WJ ?_).symm;rw[UV,Yi,hzs];exact h0
         rfl
        have hone:∀v∈(Builtin.zeroCells te.zero.cells n.toNat).toList,v.oneCell'=true:=λv hv=>Y6 z2 n.toNat v (by simpa using hv);have R:=Xfs (w:=w) (o':=type) (k':=k') (X4 hT).1 (XbG hT2) hE g0 g1 g2 (vals:=(Builtin.zeroCells te.zero.cells n.toNat).toList) hvl.symm hone hzs;exact start (XhW I hv hE hz hzc hzl (YO _ _ _ hzl) (Vy hzc n.toNat) hone (by rw[WU];exact R) h hc hr1)
       cases h
      cases h
     cases h
    cases h
   cases h
  cases h
 simp_all
def Xke(I:UP P C s U M β w){dst:Option Tmp}{type:TypeId}{pos:String}{after:Array Edge}{guard:Option (Nat×Bool)}(ρ:Operand->Value)(t:Operand->D)(hρ:∀x,Rep P M β (t x) (ρ x)){c:Prop}{d:D}{u:Up}(args:Array Operand)(types:Array TypeId)(h:opF P dst ver t s (.call ⟨.builtin .clear,args,types⟩)=some (c,d,u))(hc:c):OpOK P C s u U ver M β ((execOp ρ ⟨dst,.call ⟨.builtin .clear,args,types⟩,type,pos,after,guard⟩).run P w) d:=by
 simp only[opF]at h;split at h
 .rename_i id v z off len T ha ht;have⟨v1,hvs,hr1⟩:=Xai hρ ha;have hty:=XaM ht;subst hty;split at h
  .rename_i a b zz E sz hT;split at h
   .rename_i te hE;split at h
    .rename_i zc v' E' z' es fz hzc hs;split at h
     .rename_i hcond;have⟨rfl,rfl,rfl,hz,hzl⟩:=hcond;obtain⟨rfl,rfl,rfl⟩:=h;have⟨hfit,hfz⟩:=hc;have⟨hu,hcz⟩:=X4 hT;have start:∀{w'},(Builtin.clear_ #[T] type #[v1]).run P w=.ok (.tuple #[]) w'->(execOp ρ ⟨dst,.call ⟨.builtin .clear,args,#[T]⟩,type,pos,after,guard⟩).run P w=.ok (.value (.tuple #[])) w':=by intro w' hk;simp[execOp,resolve,invoke,builtin,hvs,hk]
      have same:len=0->upd s id (some (v,.arr false E' z (es.take off++List.replicate len zc++es.drop (off+len)) fz))=s:=by
       rintro rfl;funext i;unfold upd;split
       .rename_i e;subst e;rw[hs];simp
       rfl
      have nil:∀{a cap},len=0->v1=.slice a 0 cap->OpOK P C s [(id,v,.arr false E' z (es.take off++List.replicate len zc++es.drop (off+len)) fz)] U ver M β ((execOp ρ ⟨dst,.call ⟨.builtin .clear,args,#[T]⟩,type,pos,after,guard⟩).run P w) (.tup []):=by
       intro a cap h0 h1;subst h1;refine⟨M,β,w,.tuple #[],.inl (start ?_),?_,by simp[Rep,RepL],MLe.refl _,BLe.refl _⟩
       .unfold Builtin.clear_;cases a<;>simp[run_underlying hu]
       rw[XiT,same h0];exact I.mono λ_ h=>.inl h
      have⟨x0,hx0,hob⟩:=I.obs id v _ hs;rcases hr1 with⟨hn,h1,h2,a,rfl⟩|⟨bb,cb,o,cap,hb1,rfl,hcap,hcb,ho⟩
      .exact nil h2 rfl
      rw[hb1]at hx0;obtain rfl:some (bb,cb)=x0:=by simpa using hx0
      have⟨cs,T0,k1,k2,k3,k4,k5,k6,k7,k8,k9,k10⟩:=hob;by_cases h0:len=0
      .subst h0;exact nil rfl rfl
      have ho':o=off*z:=by rcases ho with h|h;exact h;omega
      subst ho';have⟨z1,z2⟩:=Y5 (P:=P) (M:=M) (β:=Yu) hzc;have hzs:te.zero.cells.size=z:=by have:=z1.length;simp at this;omega
      have hvl:(Builtin.zeroCells te.zero.cells len).toList.length=(List.replicate len zc).length*z:=by rw[UV,Yi,WU,hzs]
      have hone:∀x∈(Builtin.zeroCells te.zero.cells len).toList,x.oneCell'=true:=λx hx=>Y6 z2 len x (by simpa using hx);have hmul:(off+len)*z<=cb*z:=WZ _ aa;rw[Uu]at hmul;have hst:=run_storeCells_at P bb (off*z) T0 (Builtin.zeroCells te.zero.cells len).toList 0 cs w k1 (by rw[hvl,WU];omega) hone;have I':=I.seg (p:=off) (src:=List.replicate len zc) hs hb1 k1 k2 k3 k4 k8 (by exact k10) (λe he=>by rw[(List.mem_replicate.1 he).2];exact hzl) hvl (Vy hzc len) hone (by rw[WU];exact hfit) hfz;rw[WU]at I';refine⟨M,β,_,.tuple #[],.inl (start ?_),(by rw[XiT];exact I'.mono λ_ h=>.inl h),by simp[Rep,RepL],MLe.refl _,BLe.refl _⟩;unfold Builtin.clear_;cases len with
      |zero=>exact absurd rfl h0
      |succ len=>simp[run_underlying hu,Kg hE,hst]
     cases h
    cases h
   cases h
  cases h
 .rename_i id v T ts ha ht;have⟨v1,hvs,hr1⟩:=Xai hρ ha;have⟨tl⟩:=types;subst ht;split at h
  .rename_i k E v' k2 es hT hs;split at h
   .rename_i hcond;have⟨rfl,rfl⟩:=hcond;simp only[Ws,Wx]at h;obtain⟨rfl,rfl,rfl⟩:=h;obtain⟨K,hT1,hT2⟩:=Ka hT;simp only[Rep]at hr1;obtain⟨b,cb,hb,rfl⟩:=hr1;obtain⟨x0,hx0,hob⟩:=I.obs id v _ hs;rw[hb]at hx0;obtain rfl:some (b,cb)=x0:=by simpa using hx0
    obtain⟨rfl,h1,h2,ents,clock,h3,h4,h5,h6⟩:=hob;have start:(execOp ρ ⟨dst,.call ⟨.builtin .clear,args,⟨T::ts⟩⟩,type,pos,after,guard⟩).run P w=.ok (.value (.tuple #[])) {w with heap:=w.heap.setIfInBounds b (.map #[] clock)}:=by
     have:(Builtin.clear_ ⟨T::ts⟩ type #[.map (some b)]).run P w=.ok (.tuple #[]) {w with heap:=w.heap.setIfInBounds b (.map #[] clock)}:=by unfold Builtin.clear_;simp[run_underlying hT1,Go.MapKept.run_getObj_map h3,Go.MapKept.run_setObj_map _ h3]
     simp[execOp,resolve,invoke,builtin,hvs,this]
    refine⟨M,β,_,.tuple #[],.inl start,?_,by simp[Rep,RepL],MLe.refl _,BLe.refl _⟩;exact(I.setMap (es':=[]) (ents':=#[]) hs hb h3 (UN _) rfl ab ab).mono λ_ h=>.inl h
   cases h
  cases h
 simp_all
def Xne(I:UP P C s U M β w){dst:Option Tmp}{type:TypeId}{pos:String}{after:Array Edge}{guard:Option (Nat×Bool)}(ρ:Operand->Value)(t:Operand->D)(hρ:∀x,Rep P M β (t x) (ρ x)){c:Prop}{d:D}{u:Up}(args:Array Operand)(types:Array TypeId)(h:opF P dst ver t s (.call ⟨.builtin .copy,args,types⟩)=some (c,d,u))(hc:c):OpOK P C s u U ver M β ((execOp ρ ⟨dst,.call ⟨.builtin .copy,args,types⟩,type,pos,after,guard⟩).run P w) d:=by
 simp only[opF]at h;split at h
 .rename_i id v z off len x T ts ha ht;have⟨v1,v2,hvs,hr1,hr2⟩:=Va hρ ha;have⟨types⟩:=types;subst ht;split at h
  .rename_i a b zz E sz hT;split at h
   .rename_i te v' E' z' es fz c0 src hE hs hel;split at h
    .rename_i hcond;have⟨rfl,rfl,rfl,hz⟩:=hcond;obtain⟨rfl,rfl,rfl⟩:=h;have⟨hc0,hlen,hfit,hfz⟩:=hc;have⟨hu,hcz⟩:=X4 hT;obtain⟨base,cap2,vals,rfl,e1,e2,e3,e4,e5,e6⟩:=Xfr I hel hc0 hr2;have hf:(Builtin.firstCells te.size src.length (.slice base src.length cap2)).run P w=.ok vals.toArray w:=by
      cases base with
      |none=>have hm:=e3 rfl;have:vals=[]:=WJ (by rw[e2,hm,Nat.zero_mul]);subst this;simp[Builtin.firstCells]
      |some a=>exact run_firstCells_some (P:=P) w te.size src.length a src.length cap2 vals (by rw[hz];exact e2) (λj v hj=>e4 a rfl j v hj)
     have start:∀{w' x'},(Builtin.copy_ ⟨T::ts⟩ type #[v1,.slice base src.length cap2]).run P w=.ok x' w'->(execOp ρ ⟨dst,.call ⟨.builtin .copy,args,⟨T::ts⟩⟩,type,pos,after,guard⟩).run P w=.ok (.value x') w':=by intro w' x' hk;simp[execOp,resolve,invoke,builtin,hvs,hk]
     have hl47:src.length<=140737488355328:=by
      have:=(I.obs id v _ hs)
      obtain⟨x0,_,hob⟩:=this;cases x0 with
      |none=>obtain⟨_,h2,_⟩:=hob;subst h2;simp at hfit;omega
      |some bc=>obtain⟨_,_,_,_,_,_,h5,_⟩:=hob;simp only[Xp]at h5;omega
     have hres:Rep P M β (.v (.int .i64 (src.length:Int))) (goInt src.length):=Zm _ _ ⟨by show(-9223372036854775808:Int)<=_;omega,by show _<=(9223372036854775807:Int);omega⟩;have hn:Nat.min src.length len=src.length:=Nat.min_eq_left hlen;have nil:∀{a cap},src=[]->v1=.slice a len cap->OpOK P C s [(id,v,.arr false E' z (es.take off++src++es.drop (off+src.length)) fz)] U ver M β ((execOp ρ ⟨dst,.call ⟨.builtin .copy,args,⟨T::ts⟩⟩,type,pos,after,guard⟩).run P w) (.v (.int .i64 (src.length:Int))):=by
      intro a cap h0 h1;subst h1;have hv0:vals=[]:=WJ (by rw[e2,h0];simp);have same:upd s id (some (v,.arr false E' z (es.take off++src++es.drop (off+src.length)) fz))=s:=by
       funext i;unfold upd;split
       .rename_i e;subst e;rw[hs,h0];simp
       rfl
      refine⟨M,β,w,goInt src.length,.inl (start ?_),?_,hres,MLe.refl _,BLe.refl _⟩
      .unfold Builtin.copy_;rw[hv0]at hf;cases a<;>simp[run_underlying hu,Builtin.lenOf,hn,YJ hE,hf,storeCells]
      rw[XiT,same];exact I.mono λ_ h=>.inl h
     have⟨x0,hx0,hob⟩:=I.obs id v _ hs;rcases hr1 with⟨hn0,h1,h2,a,rfl⟩|⟨bb,cb,o,cap,hb1,rfl,hcap,hcb,ho⟩
     .subst h2;exact nil (WJ aa) rfl
     rw[hb1]at hx0;obtain rfl:some (bb,cb)=x0:=by simpa using hx0
     have⟨cs,T0,k1,k2,k3,k4,k5,k6,k7,k8,k9,k10⟩:=hob;by_cases h0:src.length=0
     .exact nil (WJ h0) rfl
     have ho':o=off*z:=by rcases ho with h|h;exact h;omega
     subst ho';have hmul:(off+src.length)*z<=cb*z:=WZ _ aa;rw[Uu]at hmul;have hst:=run_storeCells_at P bb (off*z) T0 vals 0 cs w k1 (by rw[e2];omega) e6;have I':=I.seg (p:=off) (src:=src) hs hb1 k1 k2 k3 k4 k8 (by exact k10) e1 e2 e5 e6 aa hfz;refine⟨M,β,_,goInt src.length,.inl (start ?_),(by rw[XiT];exact I'.mono λ_ h=>.inl h),hres,MLe.refl _,BLe.refl _⟩;unfold Builtin.copy_;simp[run_underlying hu,Builtin.lenOf,hn,YJ hE,hf,hst]
    cases h
   cases h
  cases h
 simp_all
def JI{t:TypeId}{ty:I8}(h:Xo P t=some ty)(hi:¬ty.isIface=true):∃d,P.underlying t=some d/\∀m,d≠.interface m:=by have⟨i,d,_,h2,_,_,_,h6⟩:=Yd h;refine⟨d,h2,λm e=>hi ?_⟩;subst e;unfold I8.isIface;rw[←h6];rfl
def XaN(I:UP P C s U M β w)(_hv:¬U ver){dst:Option Tmp}{type:TypeId}{pos:String}{after:Array Edge}{guard:Option (Nat×Bool)}(ρ:Operand->Value)(t:Operand->D)(hρ:∀x,Rep P M β (t x) (ρ x)){c:Prop}{d:D}{u:Up}(T:TypeId)(x:Operand)(h:opF P dst ver t s (.makeInterface T x)=some (c,d,u))(hc:c):OpOK P C s u U ver M β ((execOp ρ ⟨dst,(.makeInterface T x),type,pos,after,guard⟩).run P w) d:=by
 unfold execOp;simp only[opF]at h;split at h
 .rename_i ty hT;split at h
  .cases h
  rename_i hi;obtain⟨rfl,rfl,rfl⟩:=h;have⟨dd,hu,hne⟩:=JI hT hi;refine .val I (v:=.iface T (ρ x)) ?_ ?_
  .cases dd<;>first|exact absurd rfl (hne _)|simp[Instr.makeInterface,run_underlying hu]
  exact⟨_,rfl,hρ x⟩
 simp_all
def Xds(I:UP P C s U M β w)(_hv:¬U ver){dst:Option Tmp}{type:TypeId}{pos:String}{after:Array Edge}{guard:Option (Nat×Bool)}(ρ:Operand->Value)(t:Operand->D)(hρ:∀x,Rep P M β (t x) (ρ x)){c:Prop}{d:D}{u:Up}(x:Operand)(xT A:TypeId)(ok:Bool)(h:opF P dst ver t s (.typeAssert x xT A ok)=some (c,d,u))(hc:c):OpOK P C s u U ver M β ((execOp ρ ⟨dst,(.typeAssert x xT A ok),type,pos,after,guard⟩).run P w) d:=by
 unfold execOp;simp only;simp only[opF]at h;have hr:=hρ x;split at h
 .rename_i te T d0 hT hx;rw[hx]at hr;split at h
  .cases h
  rename_i hi;have⟨dd,hu,hne⟩:=JI hT hi;have⟨y,he,hy⟩:=hr;split at h
  .rename_i e;obtain⟨rfl,rfl,rfl⟩:=h;refine .val I (v:=.tuple #[y,.bool true]) ?_ ?_
   .rw[he];cases dd<;>first|exact absurd rfl (hne _)|simp[Instr.typeAssert,run_underlying hu,e]
   exact⟨_,rfl,_,_,rfl,hy,_,_,rfl,⟨rfl,trivial⟩,rfl⟩
  rename_i e;obtain⟨rfl,rfl,rfl⟩:=h;refine .val I (v:=.tuple #[te.zero,.bool false]) ?_ ?_
  .rw[he];cases dd<;>first|exact absurd rfl (hne _)|simp[Instr.typeAssert,run_underlying hu,e,Kg hT]
  exact⟨_,rfl,_,_,rfl,Vx _,_,_,rfl,⟨rfl,trivial⟩,rfl⟩
 .rename_i te hT hx;rw[hx]at hr;split at h
  .cases h
  rename_i hi;have⟨dd,hu,hne⟩:=JI hT hi;simp only[Ws,Wx]at h;obtain⟨rfl,rfl,rfl⟩:=h;refine .val I (v:=.tuple #[te.zero,.bool false]) ?_ ?_
  .rw[hr.1];cases dd<;>first|exact absurd rfl (hne _)|simp[Instr.typeAssert,run_underlying hu,Kg hT]
  simp only[Rep,RepL];exact⟨_,rfl,_,_,rfl,Vx _,_,_,rfl,⟨rfl,trivial⟩,rfl⟩
 simp_all
def Xkf(I:UP P C s U M β w)(hv:¬U ver)(o:Oper)(ρ:Operand->Value)(t:Operand->D)(hρ:∀x,Rep P M β (t x) (ρ x))(hcn:∀v,ρ (.const v)=v){c:Prop}{d:D}{u:Up}(h:opF P o.dst ver t s o.op=some (c,d,u))(hc:c):OpOK P C s u U ver M β ((execOp ρ o).run P w) d:=by
 have⟨dst,op,type,pos,after,guard⟩:=o;cases op with
 |move x=>exact Xna I hv ρ t hρ x h hc
 |assign x=>exact XiY I hv ρ t hρ x h hc
 |pick g a b=>exact Xnb I hv ρ t hρ g a b h hc
 |alloc T=>exact Xj7 I hv ρ t hρ T h hc
 |box T x=>exact Xpu I hv ρ t hρ T x h hc
 |build T parts=>exact Xj8 I hv ρ t hρ T parts h hc
 |buildSlice T n parts=>exact Xdr I hv ρ t hρ T n parts h hc
 |load T a=>exact Xnc I hv ρ t hρ T a h hc
 |store T a x=>exact Xj9 I hv ρ t hρ T a x h hc
 |nilCheck x=>exact Xfu I hv ρ t hρ x h hc
 |binOp op T x y yt=>exact Xka I hv ρ t hρ op T x y yt (λv e=>by simp_all) h hc
 |unOp op T x=>exact Xnd I hv ρ t hρ op T x h hc
 |convert S T x=>exact XgT I hv ρ t hρ S T x h hc
 |makeFunc fn first captured=>exact Xfv I hv ρ t hρ fn first captured h hc
 |makeSlice T l cc=>exact Xex I hv ρ t hρ T l cc h hc
 |slice T x lo hi mx=>exact Xkb I hv ρ t hρ T x lo hi mx h hc
 |fieldAddr T x f=>exact Xey I hv ρ t hρ T x f h hc
 |field T x f=>exact Xkc I hv ρ t hρ T x f h hc
 |indexAddr T x ix=>exact Xez I hv ρ t hρ T x ix h hc
 |index T x ix=>exact Xkd I hv ρ t hρ T x ix h hc
 |makeMap T r=>exact XgR I hv ρ t hρ T r h hc
 |mapUpdate T m k x=>exact Xew I hv ρ t hρ T m k x h hc
 |insert T m k x=>exact XiW I hv ρ t hρ T m k x h hc
 |lookup T m k ok=>exact XiX I hv ρ t hρ T m k ok h hc
 |extract x i=>exact XgU I hv ρ t hρ x i h hc
 |makeInterface T x=>exact XaN I hv ρ t hρ T x h hc
 |typeAssert x xT A ok=>exact Xds I hv ρ t hρ x xT A ok h hc
 |call cl=>
  have⟨callee,args,types⟩:=cl;cases callee with
  |value f=>simp_all[opF]
  |invoke r m=>simp_all[opF]
  |builtin b=>
   cases b with
   |len=>exact Xpv I ρ t hρ args types h hc
   |delete=>exact Xi1 I ρ t hρ args types h hc
   |clear=>exact Xke I ρ t hρ args types h hc
   |copy=>exact Xne I ρ t hρ args types h hc
   |cap=>exact Xpw I ρ t hρ args types h hc
   |min=>exact Xpx I ρ t hρ args types h hc
   |max=>exact Xpy I ρ t hρ args types h hc
   |append=>exact Xi2 I hv ρ t hρ args types h hc
   |_=>simp[opF]at h
 |_=>simp[opF]at h
end
variable {P:Program}
structure St where
 t:Nat->D
 s:Heap
 n:Nat
 k:Nat
def Rel(P:Program)(C:Cx)(st:St)(a:Act)(w:World):Prop:=
 a.defers=C.df/\a.tmps.size=st.n/\∃M β,BLe C.b0 β/\(∀x,Rep P M β (st.t x) (a.tmps.getD x undef))/\UP P C st.s (·<st.k) M β w
def Xcc{C:Cx}{s:Heap}{U:Nat->Prop}{M:Mem}{β:Loc}{w:World}(I:UP P C s U M β w){t:Nat->D}{a:Act}(h:∀x,Rep P M β (t x) (a.tmps.getD x undef))(x:Operand):
 Rep P M β (ev t C.G x) (a.eval x):=by
 cases x with
 |tmp i=>exact h i
 |const v=>exact Vx v
 |global g=>
  simp only[ev,Act.eval];split
  .rename_i cs hcs;simp only[Rep];exact⟨trivial,g,0,rfl,RepC.mono I.le (I.glob g cs hcs)⟩
  simp[Rep]
 |func f=>simp[ev,Act.eval,Rep,RepL]
def LB:Nat:=1000000
def Z3(lb:List (Nat×Nat)):Loc:=λid v=>if v=0/\LB<=id then(lb[id-LB]?).map some else none
def KU(ls:List Ob):Heap:=λid=>if LB<=id then(ls[id-LB]?).map (λo=>(0,o))else none
mutual
def FrRep(P:Program)(M:Mem)(w:World)(B:Nat):D->Value->List (Option (Nat×Nat))->Prop
 |.fsl E z es,y,l=>(l=[none]/\es=[]/\∃a,y=.slice a 0 0) \/
  ∃b cb o,l=[some (b,cb)]/\B<=b/\y=.slice (some ⟨b,o,none⟩) es.length cb/\(o=0\/cb=0)/\ObRep P M Yu w (some (b,cb)) (.arr false E z es 0)
 |.fmp k ks vs,y,l=>∃b,l=[some (b,0)]/\B<=b/\y=.map (some b)/\ks.length=vs.length/\ObRep P M Yu w (some (b,0)) (.mp k (ks.zip vs))
 |.agg cs,y,l=>∃vs,y=.agg ⟨vs⟩/\FrRepL P M w B cs vs l
 |.tup cs,y,l=>∃vs,y=.tuple ⟨vs⟩/\FrRepL P M w B cs vs l
 |.ifc t d,y,l=>∃x,y=.iface t x/\FrRep P M w B d x l
 |.clo fn a b,y,l=>∃va vb,y=.func fn ⟨va⟩ ⟨vb⟩/\∃l1 l2,l=l1++l2/\FrRepL P M w B a va l1/\FrRepL P M w B b vb l2
 |.any,_,l=>l=[]
 |.v x,y,l=>l=[]/\Rep P M Yu (.v x) y
 |.nsl,y,l=>l=[]/\Rep P M Yu .nsl y
 |.isl E z es,y,l=>l=[]/\Rep P M Yu (.isl E z es) y
 |.ipt z cs c,y,l=>l=[]/\Rep P M Yu (.ipt z cs c) y
 |_,_,_=>False
def FrRepL(P:Program)(M:Mem)(w:World)(B:Nat):List D->List Value->List (Option (Nat×Nat))->Prop
 |[],vs,l=>vs=[]/\l=[]
 |d::ds,vs,l=>∃x xs l1 l2,vs=x::xs/\l=l1++l2/\FrRep P M w B d x l1/\FrRepL P M w B ds xs l2
end
def XY(l:List (Option (Nat×Nat))):List Nat:=l.filterMap (·.map (·.1))
def Xnf(P:Program)(M:Mem)(w:World)(lb:List (Nat×Nat))(R:D->List Ob->Prop)(e:Ending)(w':World):Prop:=
 ∃v r ls M' l,e=.returned v/\R r ls/\Kp w (lb.map (·.1)) w'/\MemOK M' w'/\(∀b o,b<w.heap.size->M' b o=M b o)/\ls.length=lb.length /\
  (∀(k:Nat)ob x,ls[k]? = some ob->lb[k]? = some x->ObRep P M' Yu w' (some x) ob/\ob.bx=true)/\FrRep P M' w' w.heap.size r v l/\(XY l).Nodup
def YM(P:Program)(G:Nat->Option (List D))(f:FuncId)(args:List D)(lent:List Ob)(R:D->List Ob->Prop):Prop:=
 (∃fn,P.funcs[f]? = some fn/\fn.body.isNone=false/\(fn.name== "runtime.NumGoroutine")=false) /\
 ∀M w vs lb,MemOK M w->(∀g cs,G g=some cs->RepC P M cs g 0)->lb.length=lent.length->(lb.map (·.1)).Nodup ->
  (∀(k:Nat)ob x,lent[k]? = some ob->lb[k]? = some x->ObRep P M Yu w (some x) ob/\ob.bx=true)->RepL P M (Z3 lb) args vs->Calls P f ⟨vs⟩ w (Xnf P M w lb R)
mutual
def imp(ver:Nat):Nat->D->D×Nat×Up
 |n,.fsl E z es=>(.osl n ver z 0 es.length,n+1,[(n,ver,.arr false E z es 0)])
 |n,.fmp k ks vs=>(.omp n ver,n+1,[(n,ver,.mp k (ks.zip vs))])
 |n,.agg cs=>let r:=J0 ver n cs;(.agg r.1,r.2.1,r.2.2)
 |n,.tup cs=>let r:=J0 ver n cs;(.tup r.1,r.2.1,r.2.2)
 |n,.ifc t d=>let r:=imp ver n d;(.ifc t r.1,r.2.1,r.2.2)
 |n,.clo fn a b=>let r:=J0 ver n a;let q:=J0 ver r.2.1 b;(.clo fn r.1 q.1,q.2.1,r.2.2++q.2.2)
 |n,d=>(d,n,[])
def J0(ver:Nat):Nat->List D->List D×Nat×Up
 |n,[]=>([],n,[])
 |n,d::ds=>let r:=imp ver n d;let q:=J0 ver r.2.1 ds;(r.1::q.1,q.2.1,r.2.2++q.2.2)
end
section
variable {C:Cx}{U:Nat->Prop}{M:Mem}{w:World}{ver:Nat}
def XgV(s:Heap)(β:Loc)(l:List Nat):Prop:=∀b∈l,∀id v ob cb,s id=some (v,ob)->β id v≠some (some (b,cb))
structure Oh(P:Program)(C:Cx)(s:Heap)(U:Nat->Prop)(M:Mem)(β:Loc)(w:World)(ver n n':Nat)(u:Up)(l:List (Option (Nat×Nat)))(β':Loc):Prop where
 inv:UP P C (app s u) (λv=>U v\/v=ver) M β' w
 le:BLe β β'
 next:n<=n'
 high:∀i,n'<=i->β' i ver=none
 free:∀l',XgV s β l'->(∀b∈l',b∉XY l)->XgV (app s u) β' l'
def Oh.nil{s:Heap}{β:Loc}(I:UP P C s U M β w){n:Nat}(hi:∀i,n<=i->β i ver=none):Oh P C s U M β w ver n n [] [] β:=
 ⟨I.mono λ_ h=>.inl h,BLe.refl _,Un _,hi,λ_ h _=>h⟩
def ObRep.row{b cb:Nat}{ob:Ob}(h:ObRep P M Yu w (some (b,cb)) ob)(hb:ob.bx=false)(β:Loc):ObRep P M β w (some (b,cb)) ob:=by
 cases ob with
 |mp kk es=>exact h
 |raw o=>exact h
 |arr bx E z es fz=>have:bx=false:=hb;subst this;exact h
def X5(l1 l2:List (Option (Nat×Nat))):XY (l1++l2)=XY l1++XY l2:=by simp[XY]
mutual
def imp_ok{B:Nat}(hB:C.w0.heap.size<=B):∀(d:D)(y:Value)(l:List (Option (Nat×Nat)))(n:Nat){s:Heap}{U:Nat->Prop}{β:Loc},UP P C s U M β w->(∀i,n<=i->β i ver=none)->FrRep P M w B d y l->(XY l).Nodup->XgV s β (XY l) ->
 ∃β',Oh P C s U M β w ver n (imp ver n d).2.1 (imp ver n d).2.2 l β'/\Rep P M β' (imp ver n d).1 y
 |.fsl E z es,y,l,n,s,U,β,I,hi,hr,hnd,hf=>by
  simp only[imp];have hid:β n ver=none:=hi n (Un _);rcases hr with⟨rfl,rfl,a,rfl⟩|⟨b,cb,o,rfl,hb,rfl,ho,hob⟩
  .refine⟨Zf β n ver none,⟨I.setNil n ver E z (YV hid) (XJ ..) Y4,YV hid,aa,λi h=>?_,λl' h _=>?_⟩,?_⟩
   .unfold Zf;grind
   .intro b hb id v ob cb hs hx;by_cases hn:id=n
    .subst hn;have hs':some (ver,Ob.arr false E z [] 0)=some (v,ob):=by rw[←hs];show _=upd s id _ id;rw[YC]
     simp_all[XJ]
    have hs':s id=some (v,ob):=by rw[←hs];show _=upd s n _ id;rw[Yb _ _ _ _ hn]
    have hx':β id v=some (some (b,cb)):=by unfold Zf at hx;rw[Wn (λh=>hn h.1)]at hx;exact hx
    exact h b hb id v ob cb hs' hx'
   exact .inl ⟨XJ ..,ab⟩
  have hfree:∀id' v' ob' cb',id'≠n->s id'=some (v',ob')->β id' v'≠some (some (b,cb')):=λid' v' ob' cb' _ hs=>hf b (by simp[XY]) id' v' ob' cb' hs;have hob':=hob;have⟨cs,T,k1,k2,k3,k4,k5,k6,k7,k8,k9,k10⟩:=hob';have I':=I.set (M':=M) (β':=Zf β n ver (some (b,cb))) (w':=w) n ver (.arr false E z es 0) b cb (MLe.refl _) (YV hid) (λ_ _=>rfl) (λ_ _ _=>rfl) (λo x hx=>I.mem b o x hx) (XJ ..) (hob.row rfl _) hfree (.inl aa) (λ_ _=>rfl) rfl rfl rfl (Un _) Y4;refine⟨Zf β n ver (some (b,cb)),⟨I',YV hid,aa,λi h=>?_,λl' h hl=>?_⟩,?_⟩
  .unfold Zf;grind
  .intro b' hb' id v ob cb' hs hx;by_cases hn:id=n
   .subst hn;have hs':some (ver,Ob.arr false E z es 0)=some (v,ob):=by rw[←hs];show _=upd s id _ id;rw[YC]
    grind[XJ,XY]
   have hs':s id=some (v,ob):=by rw[←hs];show _=upd s n _ id;rw[Yb _ _ _ _ hn]
   have hx':β id v=some (some (b',cb')):=by unfold Zf at hx;rw[Wn (λh=>hn h.1)]at hx;exact hx
   exact h b' hb' id v ob cb' hs' hx'
  exact .inr ⟨b,cb,o,cb,XJ ..,rfl,k4,ab,aa⟩
 |.fmp k ks vs,y,l,n,s,U,β,I,hi,hr,hnd,hf=>by
  simp only[imp];have hid:β n ver=none:=hi n (Un _);obtain⟨b,rfl,hb,rfl,hlen,hob⟩:=hr;have hfree:∀id' v' ob' cb',id'≠n->s id'=some (v',ob')->β id' v'≠some (some (b,cb')):=λid' v' ob' cb' _ hs=>hf b (by simp[XY]) id' v' ob' cb' hs;have I':=I.set (M':=M) (β':=Zf β n ver (some (b,0))) (w':=w) n ver (.mp k (ks.zip vs)) b 0 (MLe.refl _) (YV hid) (λ_ _=>rfl) (λ_ _ _=>rfl) (λo x hx=>I.mem b o x hx) (XJ ..) (hob.row rfl _) hfree (.inl aa) (λ_ _=>rfl) rfl rfl rfl (Un _) Y4;refine⟨Zf β n ver (some (b,0)),⟨I',YV hid,aa,λi h=>?_,λl' h hl=>?_⟩,?_⟩
  .unfold Zf;grind
  .intro b' hb' id v ob cb' hs hx;by_cases hn:id=n
   .subst hn;have hs':some (ver,Ob.mp k (ks.zip vs))=some (v,ob):=by rw[←hs];show _=upd s id _ id;rw[YC]
    grind[XJ,XY]
   have hs':s id=some (v,ob):=by rw[←hs];show _=upd s n _ id;rw[Yb _ _ _ _ hn]
   have hx':β id v=some (some (b',cb')):=by unfold Zf at hx;rw[Wn (λh=>hn h.1)]at hx;exact hx
   exact h b' hb' id v ob cb' hs' hx'
  exact⟨b,0,XJ ..,rfl⟩
 |.agg cs,y,l,n,s,U,β,I,hi,hr,hnd,hf=>by obtain⟨vs,rfl,hr⟩:=hr;have⟨β',h1,h2⟩:=Xaj hB cs vs l n I hi hr hnd hf;grind[imp,Rep]
 |.tup cs,y,l,n,s,U,β,I,hi,hr,hnd,hf=>by obtain⟨vs,rfl,hr⟩:=hr;have⟨β',h1,h2⟩:=Xaj hB cs vs l n I hi hr hnd hf;grind[imp,Rep]
 |.ifc t d,y,l,n,s,U,β,I,hi,hr,hnd,hf=>by obtain⟨x,rfl,hr⟩:=hr;have⟨β',h1,h2⟩:=imp_ok hB d x l n I hi hr hnd hf;grind[imp,Rep]
 |.clo fn a b,y,l,n,s,U,β,I,hi,hr,hnd,hf=>by
  obtain⟨va,vb,rfl,l1,l2,rfl,hr1,hr2⟩:=hr;rw[X5,Io]at hnd;rw[X5]at hf;have⟨β1,h1,h2⟩:=Xaj hB a va l1 n I hi hr1 hnd.1 (λx hx=>hf x (W0 _ hx));have hf2:XgV (app s (J0 ver n a).2.2) β1 (XY l2):=h1.free _ (λx hx=>hf x (Ub _ hx)) (λx hx hx'=>hnd.2.2 x hx' x hx rfl);have⟨β2,h3,h4⟩:=Xaj hB b vb l2 (J0 ver n a).2.1 h1.inv h1.high hr2 hnd.2.1 hf2;refine⟨β2,⟨?_,h1.le.trans h3.le,Um h1.next h3.next,h3.high,λl' hl' hb=>?_⟩,?_⟩
  .simp only[imp];rw[YW];exact h3.inv.mono λv hv=>by simp_all
  .simp only[imp];rw[YW];refine h3.free _ (h1.free _ hl' λx hx hx'=>hb x hx ?_) λx hx hx'=>hb x hx ?_
   .rw[X5];exact W0 _ hx'
   simp_all[X5]
  exact⟨va,vb,rfl,h2.mono (MLe.refl _) h3.le,h4⟩
 |.any,y,l,n,s,U,β,I,hi,hr,hnd,hf=>by subst hr;exact⟨β,.nil I hi,by simp[imp,Rep]⟩
 |.v x,y,l,n,s,U,β,I,hi,hr,hnd,hf=>by obtain⟨rfl,hr⟩:=hr;exact⟨β,.nil I hi,hr.mono (MLe.refl _) (BLe.zero _)⟩
 |.nsl,y,l,n,s,U,β,I,hi,hr,hnd,hf=>by obtain⟨rfl,hr⟩:=hr;exact⟨β,.nil I hi,hr.mono (MLe.refl _) (BLe.zero _)⟩
 |.isl E z es,y,l,n,s,U,β,I,hi,hr,hnd,hf=>by obtain⟨rfl,hr⟩:=hr;exact⟨β,.nil I hi,hr.mono (MLe.refl _) (BLe.zero _)⟩
 |.ipt z cs c,y,l,n,s,U,β,I,hi,hr,hnd,hf=>by obtain⟨rfl,hr⟩:=hr;exact⟨β,.nil I hi,hr.mono (MLe.refl _) (BLe.zero _)⟩
 |.osl ..,y,l,n,s,U,β,I,hi,hr,hnd,hf=>by simp_all[FrRep]
 |.ept ..,y,l,n,s,U,β,I,hi,hr,hnd,hf=>by simp_all[FrRep]
 |.omp ..,y,l,n,s,U,β,I,hi,hr,hnd,hf=>by simp_all[FrRep]
def Xaj{B:Nat}(hB:C.w0.heap.size<=B):∀(ds:List D)(ys:List Value)(l:List (Option (Nat×Nat)))(n:Nat){s:Heap}{U:Nat->Prop}{β:Loc},UP P C s U M β w->(∀i,n<=i->β i ver=none)->FrRepL P M w B ds ys l->(XY l).Nodup->XgV s β (XY l) ->
 ∃β',Oh P C s U M β w ver n (J0 ver n ds).2.1 (J0 ver n ds).2.2 l β'/\RepL P M β' (J0 ver n ds).1 ys
 |[],ys,l,n,s,U,β,I,hi,hr,hnd,hf=>by obtain⟨rfl,rfl⟩:=hr;exact⟨β,.nil I hi,by rfl⟩
 |d::ds,ys,l,n,s,U,β,I,hi,hr,hnd,hf=>by
  obtain⟨x,xs,l1,l2,rfl,rfl,hr1,hr2⟩:=hr;rw[X5,Io]at hnd;rw[X5]at hf;have⟨β1,h1,h2⟩:=imp_ok hB d x l1 n I hi hr1 hnd.1 (λx hx=>hf x (W0 _ hx));have hf2:XgV (app s (imp ver n d).2.2) β1 (XY l2):=h1.free _ (λx hx=>hf x (Ub _ hx)) (λx hx hx'=>hnd.2.2 x hx' x hx rfl);have⟨β2,h3,h4⟩:=Xaj hB ds xs l2 (imp ver n d).2.1 h1.inv h1.high hr2 hnd.2.1 hf2;refine⟨β2,⟨?_,h1.le.trans h3.le,Um h1.next h3.next,h3.high,λl' hl' hb=>?_⟩,?_⟩
  .simp only[J0];rw[YW];exact h3.inv.mono λv hv=>by simp_all
  .simp only[J0];rw[YW];refine h3.free _ (h1.free _ hl' λx hx hx'=>hb x hx ?_) λx hx hx'=>hb x hx ?_
   .rw[X5];exact W0 _ hx'
   simp_all[X5]
  exact⟨x,xs,rfl,h2.mono (MLe.refl _) h3.le,h4⟩
end
end
variable {P:Program}
def pos:List Nat->Nat->Option Nat
 |[],_=>none
 |x::l,i=>if x=i then some 0 else(pos l i).map (·+1)
def XhY:∀{l:List Nat}{i j:Nat},pos l i=some j->l[j]? = some i
 |[],i,j,h=>by simp_all[pos]
 |x::l,i,j,h=>by
  unfold pos at h;split at h
  .grind
  simp at h;obtain⟨k,hk,rfl⟩:=h;simpa using XhY hk
def Xfw:∀{l:List Nat}{i:Nat},pos l i=none->i∉l
 |[],i,_=>by simp
 |x::l,i,h=>by
  unfold pos at h;split at h
  .grind
  rename_i hx;simp at h;simp;exact⟨λe=>hx e.symm,Xfw h⟩
mutual
def lend(s:Heap):List Nat->D->Option (Prop×D×List Nat×List Nat)
 |ls,.ept id ver z i c=>match s id with
  |some (ver',.arr true _ z' [_] _)=>if ver=ver'/\z=z'/\i=0 then
   match pos ls id with
   |some j=>some (True,.ept (LB+j) 0 z 0 c,ls,[])
   |none=>some (True,.ept (LB+ls.length) 0 z 0 c,ls++[id],[])
   else none
  |_=>none
 |ls,.agg cs=>match Zs s ls cs with
  |some (c,ds,ls',l)=>some (c,.agg ds,ls',l)
  |none=>none
 |ls,.tup cs=>match Zs s ls cs with
  |some (c,ds,ls',l)=>some (c,.tup ds,ls',l)
  |none=>none
 |ls,.clo fn a b=>match Zs s ls a with
  |some (c,a',ls',l)=>match Zs s ls' b with
   |some (c',b',ls'',l')=>some (c/\c',.clo fn a' b',ls'',l++l')
   |none=>none
  |none=>none
 |ls,.ifc t d=>match lend s ls d with
  |some (c,e,ls',l)=>some (c,.ifc t e,ls',l)
  |none=>none
 |ls,d=>match snap s d with
  |some (c,e,l)=>some (c,e,ls,l)
  |none=>none
def Zs(s:Heap):List Nat->List D->Option (Prop×List D×List Nat×List Nat)
 |ls,[]=>some (True,[],ls,[])
 |ls,d::ds=>match lend s ls d with
  |some (c,e,ls',l)=>match Zs s ls' ds with
   |some (c',es,ls'',l')=>some (c/\c',e::es,ls'',l++l')
   |none=>none
  |none=>none
end
mutual
def lend_prefix{s:Heap}:∀{d d':D}{ls ls':List Nat}{c:Prop}{l:List Nat},lend s ls d=some (c,d',ls',l)->ls <+:ls'
 |.ept id ver z i k,d',ls,ls',c,l,h=>by unfold lend at h;grind
 |.agg cs,d',ls,ls',c,l,h=>by
  unfold lend at h;split at h
  .rename_i hl;obtain⟨_,_,rfl,_⟩:=h;exact YX hl
  simp_all
 |.tup cs,d',ls,ls',c,l,h=>by
  unfold lend at h;split at h
  .rename_i hl;obtain⟨_,_,rfl,_⟩:=h;exact YX hl
  simp_all
 |.clo fn a b,d',ls,ls',c,l,h=>by
  unfold lend at h;split at h
  .rename_i h1;split at h
   .rename_i h2;obtain⟨_,_,rfl,_⟩:=h;exact(YX h1).trans (YX h2)
   cases h
  simp_all
 |.ifc t d,d',ls,ls',c,l,h=>by
  unfold lend at h;split at h
  .rename_i hl;obtain⟨_,_,rfl,_⟩:=h;exact lend_prefix hl
  simp_all
 |.osl id ver z off len,d',ls,ls',c,l,h=>by unfold lend at h;grind
 |.any,d',ls,ls',c,l,h=>by unfold lend at h;grind
 |.v x,d',ls,ls',c,l,h=>by unfold lend at h;grind
 |.nsl,d',ls,ls',c,l,h=>by unfold lend at h;grind
 |.isl E z es,d',ls,ls',c,l,h=>by unfold lend at h;grind
 |.ipt z cs k,d',ls,ls',c,l,h=>by unfold lend at h;grind
 |.fsl E z es,d',ls,ls',c,l,h=>by unfold lend at h;grind
 |.fmp k ks vs,d',ls,ls',c,l,h=>by unfold lend at h;grind
 |.omp id ver,d',ls,ls',c,l,h=>by unfold lend at h;grind
def YX{s:Heap}:∀{ds ds':List D}{ls ls':List Nat}{c:Prop}{l:List Nat},Zs s ls ds=some (c,ds',ls',l)->ls <+:ls'
 |[],ds',ls,ls',c,l,h=>by simp_all[Zs,Ws,Wx]
 |d::ds,ds',ls,ls',c,l,h=>by
  unfold Zs at h;split at h
  .rename_i h1;split at h
   .rename_i h2;obtain⟨_,_,rfl,_⟩:=h;exact(lend_prefix h1).trans (YX h2)
   cases h
  simp_all
end
def Xcd(s:Heap)(ls:List Nat):Prop:=ls.Nodup/\∀id∈ls,∃v E z cs fz,s id=some (v,.arr true E z [cs] fz)
mutual
def lend_boxes{s:Heap}:∀{d d':D}{ls ls':List Nat}{c:Prop}{l:List Nat},lend s ls d=some (c,d',ls',l)->Xcd s ls->Xcd s ls'
 |.ept id ver z i k,d',ls,ls',c,l,h=>by
  intro hb;unfold lend at h;split at h
  .rename_i hs;split at h
   .split at h
    .obtain⟨_,_,rfl,_⟩:=h;exact hb
    rename_i hp;obtain⟨_,_,rfl,_⟩:=h;refine⟨Io.2 ⟨hb.1,ab,λx hx y hy=>?_⟩,λx hx=>?_⟩
    .simp at hy;subst hy;rintro rfl;exact Xfw hp hx
    simp at hx;rcases hx with hx|rfl
    .exact hb.2 x hx
    exact⟨_,_,_,_,_,hs⟩
   cases h
  simp_all
 |.agg cs,d',ls,ls',c,l,h=>by
  unfold lend at h;split at h
  .rename_i hl;obtain⟨_,_,rfl,_⟩:=h;exact YU hl
  simp_all
 |.tup cs,d',ls,ls',c,l,h=>by
  unfold lend at h;split at h
  .rename_i hl;simp only[Ws,Wx]at h;obtain⟨_,_,rfl,_⟩:=h;exact YU hl
  simp_all
 |.clo fn a b,d',ls,ls',c,l,h=>by
  unfold lend at h;split at h
  .rename_i h1;split at h
   .rename_i h2;simp only[Ws,Wx]at h;obtain⟨_,_,rfl,_⟩:=h;exactλhb=>YU h2 (YU h1 hb)
   cases h
  simp_all
 |.ifc t d,d',ls,ls',c,l,h=>by
  unfold lend at h;split at h
  .rename_i hl;simp only[Ws,Wx]at h;obtain⟨_,_,rfl,_⟩:=h;exact lend_boxes hl
  simp_all
 |.osl id ver z off len,d',ls,ls',c,l,h=>by unfold lend at h;grind
 |.any,d',ls,ls',c,l,h=>by unfold lend at h;grind
 |.v x,d',ls,ls',c,l,h=>by unfold lend at h;grind
 |.nsl,d',ls,ls',c,l,h=>by unfold lend at h;grind
 |.isl E z es,d',ls,ls',c,l,h=>by unfold lend at h;grind
 |.ipt z cs k,d',ls,ls',c,l,h=>by unfold lend at h;grind
 |.fsl E z es,d',ls,ls',c,l,h=>by unfold lend at h;grind
 |.fmp k ks vs,d',ls,ls',c,l,h=>by unfold lend at h;grind
 |.omp id ver,d',ls,ls',c,l,h=>by unfold lend at h;grind
def YU{s:Heap}:∀{ds ds':List D}{ls ls':List Nat}{c:Prop}{l:List Nat},Zs s ls ds=some (c,ds',ls',l)->Xcd s ls->Xcd s ls'
 |[],ds',ls,ls',c,l,h=>by simp_all[Zs,Ws,Wx]
 |d::ds,ds',ls,ls',c,l,h=>by
  unfold Zs at h;split at h
  .rename_i h1;split at h
   .rename_i h2;obtain⟨_,_,rfl,_⟩:=h;exactλhb=>YU h2 (lend_boxes h1 hb)
   cases h
  simp_all
end
section
variable {C:Cx}{s:Heap}{U:Nat->Prop}{M M':Mem}{β:Loc}{w:World}
def XeA(s:Heap)(β:Loc)(ls:List Nat)(lb:List (Nat×Nat)):Prop:=
 ∀(j:Nat)id,ls[j]? = some id->∃v E z cs fz x,s id=some (v,.arr true E z [cs] fz)/\lb[j]? = some x/\β id v=some (some x)
mutual
def lend_rep(I:UP P C s U M β w)(hM:MLe M M'){lsF:List Nat}{lbF:List (Nat×Nat)}(hL:XeA s β lsF lbF):∀{d d':D}{ls ls':List Nat}{c:Prop}{l:List Nat},lend s ls d=some (c,d',ls',l)->c->Frz s M' β w l->ls' <+:lsF ->
 ∀{y:Value},Rep P M β d y->Rep P M' (Z3 lbF) d' y
 |.ept id ver z i k,d',ls,ls',c,l,h,hc,hF,hp,y,hr=>by
  have key:∀j,lsF[j]? = some id->i=0->(∃E cs fz,s id=some (ver,.arr true E z [cs] fz))->Rep P M' (Z3 lbF) (.ept (LB+j) 0 z 0 k) y:=by
   rintro j hj rfl ⟨E,cs,fz,hs⟩;obtain⟨v',E',z',cs',fz',x,hs',hx,hb⟩:=hL j id hj;rw[hs]at hs';obtain⟨rfl,_⟩:ver=v'/\_:=by simpa using hs'
   simp only[Rep]at hr⊢;obtain⟨b,cb,hb',rfl⟩:=hr;rw[hb]at hb';obtain rfl:x=(b,cb):=by simpa using hb'
   exact⟨b,cb,by simp[Z3,hx],rfl⟩
  unfold lend at h;split at h
  .rename_i ver' E z' cs fz hs;split at h
   .rename_i hcond;have⟨rfl,rfl,hi⟩:=hcond;split at h
    .rename_i j hj;obtain⟨rfl,rfl,rfl,rfl⟩:=h;refine key j ?_ hi ⟨_,_,_,hs⟩;have:=XhY hj;obtain⟨t,rfl⟩:=hp;rw[UT]
     .exact this
     rcases Uq j ls.length with h|h
     .exact h
     rw[WY h]at this;cases this
    obtain⟨rfl,rfl,rfl,rfl⟩:=h;refine key ls.length ?_ hi ⟨_,_,_,hs⟩;obtain⟨t,rfl⟩:=hp;simp
   cases h
  simp_all
 |.agg cs,d',ls,ls',c,l,h,hc,hF,hp,y,hr=>by
  unfold lend at h;split at h
  .rename_i c' ds ls2 l' hl;obtain⟨rfl,rfl,rfl,rfl⟩:=h;simp only[Rep]at hr⊢;obtain⟨vs,e,hr⟩:=hr;exact⟨vs,e,KH I hM hL hl hc hF hp hr⟩
  simp_all
 |.tup cs,d',ls,ls',c,l,h,hc,hF,hp,y,hr=>by
  unfold lend at h;split at h
  .rename_i c' ds ls2 l' hl;simp only[Ws,Wx]at h;obtain⟨rfl,rfl,rfl,rfl⟩:=h;simp only[Rep]at hr⊢;obtain⟨vs,e,hr⟩:=hr;exact⟨vs,e,KH I hM hL hl hc hF hp hr⟩
  simp_all
 |.clo fn a b,d',ls,ls',c,l,h,hc,hF,hp,y,hr=>by
  unfold lend at h;split at h
  .rename_i c1 a' ls1 l1 h1;split at h
   .rename_i c2 b' ls2 l2 h2;simp only[Ws,Wx]at h;obtain⟨rfl,rfl,rfl,rfl⟩:=h;simp only[Rep]at hr⊢;obtain⟨va,vb,e,hr1,hr2⟩:=hr;exact⟨va,vb,e,KH I hM hL h1 hc.1 (λi hi=>hF i (W0 _ hi)) ((YX h2).trans hp) hr1,KH I hM hL h2 hc.2 (λi hi=>hF i (Ub _ hi)) hp hr2⟩
   cases h
  simp_all
 |.ifc t d,d',ls,ls',c,l,h,hc,hF,hp,y,hr=>by
  unfold lend at h;split at h
  .rename_i c' e ls2 l' hl;simp only[Ws,Wx]at h;obtain⟨rfl,rfl,rfl,rfl⟩:=h;simp only[Rep]at hr⊢;obtain⟨x,e,hr⟩:=hr;exact⟨x,e,lend_rep I hM hL hl hc hF hp hr⟩
  simp_all
 |.osl id ver z off len,d',ls,ls',c,l,h,hc,hF,hp,y,hr=>by
  unfold lend at h;split at h
  .rename_i c' e l' hl;simp only[Ws,Wx]at h;obtain⟨rfl,rfl,rfl,rfl⟩:=h;exact(snap_rep I hM hl hc hF hr).mono (MLe.refl _) (BLe.zero _)
  simp_all
 |.any,d',ls,ls',c,l,h,hc,hF,hp,y,hr=>by
  unfold lend at h;split at h
  .rename_i c' e l' hl;simp only[Ws,Wx]at h;obtain⟨rfl,rfl,rfl,rfl⟩:=h;exact(snap_rep I hM hl hc hF hr).mono (MLe.refl _) (BLe.zero _)
  simp_all
 |.v x,d',ls,ls',c,l,h,hc,hF,hp,y,hr=>by
  unfold lend at h;split at h
  .rename_i c' e l' hl;simp only[Ws,Wx]at h;obtain⟨rfl,rfl,rfl,rfl⟩:=h;exact(snap_rep I hM hl hc hF hr).mono (MLe.refl _) (BLe.zero _)
  simp_all
 |.nsl,d',ls,ls',c,l,h,hc,hF,hp,y,hr=>by
  unfold lend at h;split at h
  .rename_i c' e l' hl;simp only[Ws,Wx]at h;obtain⟨rfl,rfl,rfl,rfl⟩:=h;exact(snap_rep I hM hl hc hF hr).mono (MLe.refl _) (BLe.zero _)
  simp_all
 |.isl E z es,d',ls,ls',c,l,h,hc,hF,hp,y,hr=>by
  unfold lend at h;split at h
  .rename_i c' e l' hl;simp only[Ws,Wx]at h;obtain⟨rfl,rfl,rfl,rfl⟩:=h;exact(snap_rep I hM hl hc hF hr).mono (MLe.refl _) (BLe.zero _)
  simp_all
 |.ipt z cs k,d',ls,ls',c,l,h,hc,hF,hp,y,hr=>by
  unfold lend at h;split at h
  .rename_i c' e l' hl;simp only[Ws,Wx]at h;obtain⟨rfl,rfl,rfl,rfl⟩:=h;exact(snap_rep I hM hl hc hF hr).mono (MLe.refl _) (BLe.zero _)
  simp_all
 |.fsl E z es,d',ls,ls',c,l,h,hc,hF,hp,y,hr=>by simp_all[Rep]
 |.fmp k ks vs,d',ls,ls',c,l,h,hc,hF,hp,y,hr=>by simp_all[Rep]
 |.omp id ver,d',ls,ls',c,l,h,hc,hF,hp,y,hr=>by simp_all[lend,snap]
def KH(I:UP P C s U M β w)(hM:MLe M M'){lsF:List Nat}{lbF:List (Nat×Nat)}(hL:XeA s β lsF lbF):∀{ds ds':List D}{ls ls':List Nat}{c:Prop}{l:List Nat},Zs s ls ds=some (c,ds',ls',l)->c->Frz s M' β w l->ls' <+:lsF ->
 ∀{ys:List Value},RepL P M β ds ys->RepL P M' (Z3 lbF) ds' ys
 |[],ds',ls,ls',c,l,h,hc,hF,hp,ys,hr=>by simp_all[Zs,Ws,Wx,RepL]
 |d::ds,ds',ls,ls',c,l,h,hc,hF,hp,ys,hr=>by
  unfold Zs at h;split at h
  .rename_i c1 e ls1 l1 h1;split at h
   .rename_i c2 es ls2 l2 h2;obtain⟨rfl,rfl,rfl,rfl⟩:=h;have⟨x,xs,e,hr1,hr2⟩:=hr;exact⟨x,xs,e,lend_rep I hM hL h1 hc.1 (λi hi=>hF i (W0 _ hi)) ((YX h2).trans hp) hr1,KH I hM hL h2 hc.2 (λi hi=>hF i (Ub _ hi)) hp hr2⟩
   cases h
  simp_all
end
end
variable {P:Program}
def KV(s:Heap):List Nat->Option (Prop×List Ob×List Nat)
 |[]=>some (True,[],[])
 |id::ids=>match s id with
  |some (_,.arr true E z [cs] fz)=>match Zx s cs,KV s ids with
   |some (c,ds,l),some (c',obs,l')=>some (c/\c',.arr true E z [ds] fz::obs,l++l')
   |_,_=>none
  |_=>none
def Zy(s:Heap):List Nat->List Ob->Up
 |id::ids,o::os=>match s id with
  |some (v,_)=>(id,v,o)::Zy s ids os
  |none=>Zy s ids os
 |_,_=>[]
section
variable {C:Cx}{s:Heap}{U:Nat->Prop}{M M':Mem}{β:Loc}{w w':World}
def XaO{lz:List Nat}(I:UP P C s U M β w)(hM:MLe M M')(I':UP P C (frz s lz) U M' β w)(hFz:Frz s M' β w lz):∀{ids:List Nat}{c:Prop}{obs:List Ob}{l:List Nat}{lb:List (Nat×Nat)},KV s ids=some (c,obs,l)->c->(∀x∈l,x∈lz)->XeA s β ids lb->lb.length=ids.length ->
 obs.length=ids.length/\∀(k:Nat)ob x,obs[k]? = some ob->lb[k]? = some x->ObRep P M' Yu w (some x) ob/\ob.bx=true
 |[],c,obs,l,lb,h,hc,hl,hL,hlen=>by simp_all[KV,Ws,Wx]
 |id::ids,c,obs,l,lb,h,hc,hl,hL,hlen=>by
  unfold KV at h;split at h
  .rename_i v E z cs fz hs;split at h
   .rename_i c1 ds l1 c2 obs2 l2 h1 h2;obtain⟨rfl,rfl,rfl⟩:=h;match lb,hlen with
    |x0::lb,hlen=>
     have hL2:XeA s β ids lb:=λj i hj=>by simpa using hL (j+1) i (by simpa using hj)
     have⟨g1,g2⟩:=XaO I hM I' hFz h2 hc.2 (λx hx=>hl x (Ub _ hx)) hL2 (by simpa using hlen);refine⟨by simp[g1],λk ob x hk hx=>?_⟩;cases k with
     |succ k=>exact g2 k ob x (by exact hk) (by exact hx)
     |zero=>
      simp at hk hx;subst hk;subst hx;refine⟨?_,rfl⟩;have⟨v',E',z',cs',fz',x,hs',hx',hb⟩:=hL 0 id ab;simp at hx';subst hx';rw[hs]at hs';obtain⟨rfl,_⟩:v=v'/\_:=by simpa using hs'
      have hsf:frz s lz id=some (v,.arr true E z [cs] fz):=by
       unfold frz;split
       .rw[hs];rfl
       exact hs
      have⟨x1,hx1,hob⟩:=I'.obs id v _ hsf;rw[hb]at hx1;obtain rfl:x0=x1:=by simpa using hx1
      have⟨b,cb⟩:=x0;have⟨y,T,k1,k2,k3,k4,k5,k6,k7,k8,k9,k10⟩:=hob;have⟨x2,hx2,hob2⟩:=I.obs id v _ hs;rw[hb]at hx2;obtain rfl:some (b,cb)=x2:=by simpa using hx2
      have⟨y2,T2,j1,j2,j3,j4,j5,j6,j7,j8,j9,j10⟩:=hob2;rw[k1]at j1;have⟨rfl,rfl⟩:y=y2/\T=T2:=by simpa using j1
      have hcsl:RepL P M β cs (y.toList.take cs.length):=by
       have hle:cs.length<=y.size:=by have:=k3 cs ab;have:z<=cb*z:=Nat.le_mul_of_pos_left _ (by simp at k4;omega);omega
       refine RepL.of ah λi d x hd hx=>?_;obtain⟨u,hu,hru⟩:=j10 i d (by simpa using hd);rw[Uk]at hx;split at hx
       .rw[UO,hu]at hx;obtain rfl:u=x:=by simpa using hx
        exact hru
       cases hx
      have hds:=Z9 I hM h1 hc.1 (λi hi=>hFz i (hl i (W0 _ hi))) hcsl;have hdl:ds.length=cs.length:=by rw[←hds.length,hcsl.length]
      refine⟨y,T,k1,k2,?_,by exact k4,by exact k5,by exact k6,by exact k7,k8,k9,λi d hd=>?_⟩
      .intro e he;simp at he;subst he;rw[hdl];exact k3 cs ab
      have hd':ds[i]? = some d:=by simpa using hd
      have⟨u,hu,hru⟩:=hds.get i d hd';rw[Uk]at hu;split at hu
      .exact⟨u,by simpa using hu,hru⟩
      cases hu
   cases h
  simp_all
def Xce(s0:Heap):∀(ids:List Nat)(obs:List Ob)(s:Heap)(i:Nat),ids.Nodup->(∀id∈ids,∃v o,s0 id=some (v,o))->obs.length=ids.length ->
 (i∉ids->app s (Zy s0 ids obs) i=s i)/\∀(j:Nat)o,ids[j]? = some i->obs[j]? = some o->∀v o',s0 i=some (v,o')->app s (Zy s0 ids obs) i=some (v,o)
 |[],obs,s,i,_,_,_=>by simp[Zy,app]
 |id::ids,o::obs,s,i,hnd,hall,hlen=>by
  have⟨v,o0,hs⟩:=hall id ab;simp at hnd;have hu:app s (Zy s0 (id::ids) (o::obs))=app (upd s id (some (v,o))) (Zy s0 ids obs):=by simp only[Zy,hs];rfl
  have⟨g1,g2⟩:=Xce s0 ids obs (upd s id (some (v,o))) i hnd.2 (λx hx=>hall x (by grind)) (by simp_all);rw[hu];refine⟨λhi=>?_,λj o' hj ho v' o'' hs'=>?_⟩
  .simp_all[UY,not_or,g1,hi,Yb]
  cases j with
  |zero=>simp_all[hs,g1,hnd,YC]
  |succ j=>grind
def UP.called(I:UP P C s U M β w){ids:List Nat}{lb:List (Nat×Nat)}(hB:Xcd s ids)(hL:XeA s β ids lb)(hlb:lb.length=ids.length)(hK:Kp w (lb.map (·.1)) w')(hmem:MemOK M' w')(hold:∀b o,b<w.heap.size->M' b o=M b o){obs:List Ob}(hlo:obs.length=ids.length)(hobs:∀(k:Nat)ob x,obs[k]? = some ob->lb[k]? = some x->ObRep P M' Yu w' (some x) ob/\ob.bx=true):
 UP P C (app s (Zy s ids obs)) U M' β w'/\MLe M M':=by
 have hMle:MLe M M':=λb o x hx=>by rw[hold b o (I.mem.lt hx)];omega
 have hall:∀id∈ids,∃v o,s id=some (v,o):=λid hid=>by have⟨v,E,z,cs,fz,h⟩:=hB.2 id hid;simp_all
 have hsv:∀id v ob,app s (Zy s ids obs) id=some (v,ob)->(id∉ids/\s id=some (v,ob))\/∃(j:Nat) (x:Nat×Nat) (ob0:Ob),ids[j]? = some id/\lb[j]? = some x/\obs[j]? = some ob/\s id=some (v,ob0)/\ob0.bx=true/\β id v=some (some x):=by
  intro id v ob h;obtain⟨g1,g2⟩:=Xce s ids obs s id hB.1 hall hlo;by_cases hid:id∈ids
  .right;obtain⟨j,hj,rfl⟩:=WN hid;have⟨v',E,z,cs,fz,x,hs,hx,hb⟩:=hL j _ (Wc hj);have ho:obs[j]? = some (obs[j]'aa):=Wc aa;have:=g2 j _ ab ho v' _ hs;have⟨rfl,rfl⟩:v'=v/\obs[j]'aa=ob:=by simp_all
   exact⟨j,x,_,Wc hj,hx,ho,hs,rfl,hb⟩
  simp_all
 have hnot:∀id v ob b cb,id∉ids->s id=some (v,ob)->β id v=some (some (b,cb))->b∉lb.map (·.1):=by
  intro id v ob b cb hid hs hb hm;rw[UX]at hm;obtain⟨x,hx,rfl⟩:=hm;obtain⟨j,hj,rfl⟩:=WN hx;obtain⟨v',E,z,cs,fz,x',hs',hx',hb'⟩:=hL j (ids[j]'aa) ab;have:lb[j]=x':=by rw[Wc hj]at hx';simpa using hx'
  have hid':=I.inj id v ob (ids[j]'aa) v' _ _ cb x'.2 hs hs' (by rw[hb]) (by simp_all);exact hid (hid'▸WO _)
 refine⟨?_,hMle⟩;constructor
 .omega
 .exact I.used
 .intro id v ob hs;rcases hsv id v ob hs with⟨hid,hs⟩|⟨j,x,ob0,hj,hx,ho,hs,_,hb⟩
  .have⟨x,hx,hr⟩:=I.obs id v ob hs;refine⟨x,hx,hr.mono hMle (BLe.refl _) ?_ ?_⟩
   .rintro b cb rfl;exact hK.block b hr.lt (hnot id v ob b cb hid hs hx)
   rintro b cb rfl o;exact hold b o hr.lt
  have⟨g1,g2⟩:=hobs j ob x ho hx;exact⟨some x,hb,g1.mono (MLe.refl _) (BLe.zero _) (λ_ _ _=>rfl) (λ_ _ _ _=>rfl)⟩
 .intro id v ob b cb hs hb;rcases hsv id v ob hs with⟨hid,hs⟩|⟨j,x,ob0,hj,hx,ho,hs,hbx,hb'⟩
  .exact I.own id v ob b cb hs hb
  rcases I.own id v ob0 b cb hs hb with h|h
  .exact .inl h
  grind
 .intro id v ob id' v' ob' b cb cb' hs hs' hb hb';have h1:∃o,s id=some (v,o):=by rcases hsv id v ob hs with⟨_,hs⟩|⟨_,_,o,_,_,_,hs,_⟩<;>exact⟨_,hs⟩
  have h2:∃o,s id'=some (v',o):=by rcases hsv id' v' ob' hs' with⟨_,hs⟩|⟨_,_,o,_,_,_,hs,_⟩<;>exact⟨_,hs⟩
  have⟨o1,h1⟩:=h1;have⟨o2,h2⟩:=h2;exact I.inj id v o1 id' v' o2 b cb cb' h1 h2 hb hb'
 .refine⟨hK.os.trans I.keep.os,hK.tape.trans I.keep.tape,hK.output.trans I.keep.output,Um I.keep.size hK.size,λk hk hl=>?_⟩;rw[←I.keep.block k hk hl];refine hK.block k (IC hk I.keep.size) λhm=>?_;rw[UX]at hm;obtain⟨x,hx,rfl⟩:=hm;obtain⟨j,hj,rfl⟩:=WN hx;have⟨v',E,z,cs,fz,x',hs',hx',hb'⟩:=hL j (ids[j]'aa) ab;have hx2:lb[j]=x':=by rw[Wc hj]at hx';simpa using hx'
  rcases I.own _ v' _ lb[j].1 x'.2 hs' (by rw[hb',hx2])with h|h
  .omega
  simp_all
 .intro b o hb;rw[hold b o (IC hb I.keep.size)];exact I.old b o hb
 .exact I.le.trans hMle
 exact I.glob
end
variable {P:Program}
mutual
def fits:D->D->Prop
 |.nsl,.isl _ _ es=>es=[]
 |.agg cs,.agg ds=>ZK cs ds
 |.tup cs,.tup ds=>ZK cs ds
 |.clo fn a b,.clo fn' a' b'=>fn=fn'/\ZK a a'/\ZK b b'
 |.ifc t d,.ifc t' d'=>t=t'/\fits d d'
 |d,e=>d=e
def ZK:List D->List D->Prop
 |[],[]=>True
 |d::ds,e::es=>fits d e/\ZK ds es
 |_,_=>False
end
mutual
def fits_rep{M:Mem}{β:Loc}:∀{d e:D}{y:Value},fits d e->Rep P M β d y->Rep P M β e y
 |.nsl,e,y,h,hr=>by
  cases e<;>simp only[fits,reduceCtorEq]at h<;>try (first|exact hr|(exact h.elim))
  grind[Rep,Xp]
 |.agg cs,e,y,h,hr=>by cases e<;>simp only[fits,reduceCtorEq]at h;have⟨vs,e,hr⟩:=hr;exact⟨vs,e,KI h hr⟩
 |.tup cs,e,y,h,hr=>by cases e<;>simp only[fits,reduceCtorEq]at h;have⟨vs,e,hr⟩:=hr;exact⟨vs,e,KI h hr⟩
 |.clo fn a b,e,y,h,hr=>by cases e<;>simp only[fits,reduceCtorEq]at h;have⟨rfl,h1,h2⟩:=h;have⟨va,vb,e,hr1,hr2⟩:=hr;exact⟨va,vb,e,KI h1 hr1,KI h2 hr2⟩
 |.ifc t d,e,y,h,hr=>by cases e<;>simp only[fits,reduceCtorEq]at h;have⟨rfl,h1⟩:=h;have⟨x,e,hr⟩:=hr;exact⟨x,e,fits_rep h1 hr⟩
 |.any,e,y,h,hr=>by simp_all[fits]
 |.v x,e,y,h,hr=>by simp_all[fits]
 |.isl a b c,e,y,h,hr=>by simp_all[fits]
 |.osl a b c d f,e,y,h,hr=>by simp_all[fits]
 |.ept a b c d f,e,y,h,hr=>by simp_all[fits]
 |.ipt a b c,e,y,h,hr=>by simp_all[fits]
 |.fsl a b c,e,y,h,hr=>by simp_all[Rep]
 |.fmp a b c,e,y,h,hr=>by simp_all[Rep]
 |.omp a b,e,y,h,hr=>by simp_all[fits]
def KI{M:Mem}{β:Loc}:∀{ds es:List D}{ys:List Value},ZK ds es->RepL P M β ds ys->RepL P M β es ys
 |[],es,ys,h,hr=>by grind[ZK]
 |d::ds,es,ys,h,hr=>by cases es<;>simp only[ZK]at h;have⟨x,xs,e,h1,h2⟩:=hr;exact⟨x,xs,e,fits_rep h.1 h1,KI h.2 h2⟩
end
mutual
def scal:D->Bool
 |.any=>true
 |.v _=>true
 |.agg cs=>Jo cs
 |.tup cs=>Jo cs
 |_=>false
def Jo:List D->Bool
 |[]=>true
 |d::ds=>scal d&&Jo ds
end
mutual
def scal_rep{M M':Mem}{w:World}{B:Nat}(β:Loc)(ver n:Nat):∀{d:D}{y:Value}{l:List (Option (Nat×Nat))},scal d=true->FrRep P M w B d y l->l=[]/\Rep P M' β d y/\imp ver n d=(d,n,[])
 |.any,y,l,_,hr=>by simp_all[FrRep,Rep,imp]
 |.v x,y,l,_,hr=>by simp_all[FrRep,Rep,imp]
 |.agg cs,y,l,hs,hr=>by have⟨vs,e,hr⟩:=hr;have⟨h1,h2,h3⟩:=XaP (M':=M') β ver n hs hr;simp_all[Rep,imp,h3]
 |.tup cs,y,l,hs,hr=>by have⟨vs,e,hr⟩:=hr;have⟨h1,h2,h3⟩:=XaP (M':=M') β ver n hs hr;simp_all[Rep,imp,h3]
 |.nsl,y,l,hs,hr=>by simp_all[scal]
 |.isl ..,y,l,hs,hr=>by simp_all[scal]
 |.osl ..,y,l,hs,hr=>by simp_all[scal]
 |.ept ..,y,l,hs,hr=>by simp_all[scal]
 |.ipt ..,y,l,hs,hr=>by simp_all[scal]
 |.clo ..,y,l,hs,hr=>by simp_all[scal]
 |.ifc ..,y,l,hs,hr=>by simp_all[scal]
 |.fsl ..,y,l,hs,hr=>by simp_all[scal]
 |.fmp ..,y,l,hs,hr=>by simp_all[scal]
 |.omp ..,y,l,hs,hr=>by simp_all[scal]
def XaP{M M':Mem}{w:World}{B:Nat}(β:Loc)(ver n:Nat):∀{ds:List D}{ys:List Value}{l:List (Option (Nat×Nat))},Jo ds=true->FrRepL P M w B ds ys l->l=[]/\RepL P M' β ds ys/\J0 ver n ds=(ds,n,[])
 |[],ys,l,_,hr=>by simp_all[FrRepL,RepL,hr,J0]
 |d::ds,ys,l,hs,hr=>by simp only[Jo,W6]at hs;obtain⟨x,xs,l1,l2,e,rfl,h1,h2⟩:=hr;obtain⟨rfl,h3,h4⟩:=scal_rep (M':=M') β ver n hs.1 h1;obtain⟨rfl,h5,h6⟩:=XaP (M':=M') β ver n hs.2 h2;exact⟨rfl,by grind[RepL],by simp[J0,h4,h6,U1]⟩
end
mutual
def FrRep.ge{M:Mem}{w:World}{B:Nat}:∀{d:D}{y:Value}{l:List (Option (Nat×Nat))},FrRep P M w B d y l->∀b∈XY l,B<=b
 |.fsl E z es,y,l,hr=>by
  rcases hr with⟨rfl,_⟩|⟨b,cb,o,rfl,hb,_⟩
  .simp[XY]
  simp[XY,hb]
 |.fmp k ks vs,y,l,hr=>by obtain⟨b,rfl,hb,_⟩:=hr;simp[XY,hb]
 |.agg cs,y,l,hr=>by have⟨vs,_,hr⟩:=hr;exact FrRepL.ge hr
 |.tup cs,y,l,hr=>by have⟨vs,_,hr⟩:=hr;exact FrRepL.ge hr
 |.ifc t d,y,l,hr=>by have⟨vs,_,hr⟩:=hr;exact FrRep.ge hr
 |.clo fn a b,y,l,hr=>by
  obtain⟨va,vb,_,l1,l2,rfl,h1,h2⟩:=hr;intro b hb;rw[X5,WG]at hb;rcases hb with hb|hb
  .exact FrRepL.ge h1 b hb
  exact FrRepL.ge h2 b hb
 |.any,y,l,hr=>by simp_all[FrRep,XY]
 |.v _,y,l,hr=>by simp_all[FrRep,hr,XY]
 |.nsl,y,l,hr=>by simp_all[FrRep,hr,XY]
 |.isl ..,y,l,hr=>by simp_all[FrRep,hr,XY]
 |.ipt ..,y,l,hr=>by simp_all[FrRep,hr,XY]
 |.osl ..,y,l,hr=>by simp_all[FrRep]
 |.ept ..,y,l,hr=>by simp_all[FrRep]
 |.omp ..,y,l,hr=>by simp_all[FrRep]
def FrRepL.ge{M:Mem}{w:World}{B:Nat}:∀{ds:List D}{ys:List Value}{l:List (Option (Nat×Nat))},FrRepL P M w B ds ys l->∀b∈XY l,B<=b
 |[],ys,l,hr=>by simp_all[FrRepL,hr,XY]
 |d::ds,ys,l,hr=>by
  obtain⟨x,xs,l1,l2,_,rfl,h1,h2⟩:=hr;intro b hb;rw[X5,WG]at hb;rcases hb with hb|hb
  .exact FrRep.ge h1 b hb
  exact FrRepL.ge h2 b hb
end
def Y0(s:Heap)(args:List D):Option (Prop×List D×List Nat×List Ob×List Nat):=
 match Zs s [] args with
 |some (c,as,ids,l1)=>match KV s ids with
  |some (c',obs,l2)=>some (c/\c',as,ids,obs,l1++l2)
  |none=>none
 |none=>none
def Vb:Ob->Bool
 |.arr true _ _ es 0=>es.all Jo
 |_=>false
mutual
def scalR{M M':Mem}{β β':Loc}:∀{d:D}{y:Value},scal d=true->Rep P M β d y->Rep P M' β' d y
 |.any,y,_,_=>by simp[Rep]
 |.v x,y,_,h=>by assumption
 |.agg cs,y,hs,h=>by have⟨vs,e,h⟩:=h;exact⟨vs,e,XgW hs h⟩
 |.tup cs,y,hs,h=>by have⟨vs,e,h⟩:=h;exact⟨vs,e,XgW hs h⟩
 |.nsl,_,hs,_=>by assumption
 |.isl ..,_,hs,_=>by simp_all[scal]
 |.osl ..,_,hs,_=>by simp_all[scal]
 |.ept ..,_,hs,_=>by simp_all[scal]
 |.ipt ..,_,hs,_=>by simp_all[scal]
 |.clo ..,_,hs,_=>by simp_all[scal]
 |.ifc ..,_,hs,_=>by simp_all[scal]
 |.fsl ..,_,hs,_=>by assumption
 |.fmp ..,_,hs,_=>by assumption
 |.omp ..,_,hs,_=>by simp_all[scal]
def XgW{M M':Mem}{β β':Loc}:∀{ds:List D}{ys:List Value},Jo ds=true->RepL P M β ds ys->RepL P M' β' ds ys
 |[],ys,_,h=>by assumption
 |d::ds,ys,hs,h=>by simp only[Jo,W6]at hs;have⟨x,xs,e,h1,h2⟩:=h;exact⟨x,xs,e,scalR hs.1 h1,XgW hs.2 h2⟩
end
def XdD:∀{ds:List D},Jo ds=true->∀d∈ds,scal d=true
 |[],_,d,h=>by grind
 |e::ds,hs,d,h=>by
  simp only[Jo,W6]at hs;rcases UY.1 h with rfl|h
  .simp_all
  exact XdD hs.2 d h
def Xi3{M M':Mem}{w:World}{x:Nat×Nat}:∀{ob:Ob},Vb ob=true->(∀b o y,M b o=some y->M' b o=some y)->ObRep P M' Yu w (some x) ob->ObRep P M Yu w (some x) ob
 |.mp ..,hs,_,_=>by simp_all[Vb]
 |.raw _,hs,_,_=>by simp_all[Vb]
 |.arr false ..,hs,_,_=>by simp_all[Vb]
 |.arr true E z es (n+1),hs,_,_=>by simp_all[Vb]
 |.arr true E z es 0,hs,hle,h=>by
  have⟨b,cb⟩:=x;simp only[Vb,Ud]at hs;have⟨cs,T,k1,k2,k3,k4,k5,k6,k7,k8,k9,k10⟩:=h;refine⟨cs,T,k1,k2,k3,k4,k5,k6,k7,k8,λo=>?_,λi d hd=>?_⟩
  .have h9:=k9 o;rw[Wn aa]at h9⊢;cases hM:M b o with
   |none=>rfl
   |some y=>simp_all
  have⟨y,hy,hr⟩:=k10 i d hd;have⟨e,he,hde⟩:=List.mem_flatten.1 (Ui hd);exact⟨y,hy,scalR (XdD (hs e he) d hde) hr⟩
def KJ(s:Heap)(ids fz:List Nat)(r:D)(ls:List Ob)(ver n:Nat):D×Heap:=
 let s1:=if scal r&&ls.all Vb then s else frz s fz
 let s2:=app s1 (Zy s ids ls)
 let q:=imp ver n r
 (q.1,app s2 q.2.2)
section
variable {C:Cx}{s:Heap}{U:Nat->Prop}{M:Mem}{β:Loc}{w:World}{ver:Nat}
def XaQ(s:Heap)(fz:List Nat):∀(ids:List Nat)(obs:List Ob),(∀id∈ids,∃v o,s id=some (v,o))->Zy (frz s fz) ids obs=Zy s ids obs
 |[],_,_=>rfl
 |id::ids,[],_=>rfl
 |id::ids,o::obs,h=>by
  have⟨v,o0,hs⟩:=h id ab;have ih:=XaQ s fz ids obs λx hx=>h x (by simp[hx]);have hv:∃o',frz s fz id=some (v,o'):=by
   unfold frz;split
   .rw[hs];cases o0 with
    |mp _=>exact⟨_,rfl⟩
    |raw _=>exact⟨_,rfl⟩
    |arr bx E z es f=>cases bx<;>exact⟨_,rfl⟩
   exact⟨_,hs⟩
  have⟨o',hv⟩:=hv;simp[Zy,hv,hs,ih]
def XhZ(I:UP P C s U M β w)(hv:¬U ver){f:FuncId}{args eargs:List D}{vs:List Value}(hr:RepL P M β args vs){c:Prop}{as:List D}{ids:List Nat}{obs:List Ob}{fz:List Nat}(h:Y0 s args=some (c,as,ids,obs,fz))(hc:c)(hfit:ZK as eargs){R:D->List Ob->Prop}(hA:YM P C.G f eargs obs R)(n:Nat):
 Calls P f ⟨vs⟩ w λe w'=>∃v r ls M' β',e=.returned v/\R r ls/\UP P C (KJ s ids fz r ls ver n).2 (λx=>U x\/x=ver) M' β' w'/\Rep P M' β' (KJ s ids fz r ls ver n).1 v/\MLe M M'/\BLe β β':=by
 unfold Y0 at h;split at h
 .rename_i c1 as' ids' l1 hl;split at h
  .rename_i c2 obs' l2 ho;simp only[Ws,Wx]at h;have⟨rfl,rfl,rfl,rfl,rfl⟩:=h;have⟨M1,I1,hM1,hF⟩:=I.freeze (l1++l2);have hboxes:Xcd s ids':=YU hl ⟨ab,ab⟩;have hlb:∃lb:List (Nat×Nat),lb.length=ids'.length/\XeA s β ids' lb:=by
    have:∀l:List Nat,(∀id∈l,∃v E z cs fz,s id=some (v,.arr true E z [cs] fz))->∃lb:List (Nat×Nat),lb.length=l.length/\XeA s β l lb:=by
     intro l;induction l with
     |nil=>intro _;exact⟨[],rfl,λj id h=>by simp at h⟩
     |cons id l ih=>
      intro hall;obtain⟨lb,h1,h2⟩:=ih λx hx=>hall x (by simp[hx]);obtain⟨v,E,z,cs,fz,hs⟩:=hall id ab;obtain⟨x,hx,hob⟩:=I.obs id v _ hs;cases x with
      |none=>simp[ObRep]at hob
      |some x=>
       refine⟨x::lb,by simp[h1],λj i hj=>?_⟩;cases j with
       |zero=>simp at hj;subst hj;exact⟨v,E,z,cs,fz,x,hs,ab,hx⟩
       |succ j=>simpa using h2 j i (by simpa using hj)
    exact this ids' hboxes.2
   have⟨lb,hlen,hL⟩:=hlb;have hargs:=KI hfit (KH I hM1 hL hl hc.1 (λi hi=>hF i (W0 _ hi)) (List.prefix_refl _) hr);have⟨g1,g2⟩:=XaO I hM1 I1 hF ho hc.2 (λx hx=>Ub _ hx) hL hlen;have hnd:(lb.map (·.1)).Nodup:=by
    rw[List.nodup_iff_pairwise_ne,UI];intro i j hi0 hj0 hij he;simp only[W4]at hi0 hj0;have hii:i<lb.length:=aa;have hj:j<lb.length:=aa;simp only[List.getElem_map]at he;obtain⟨v,E,z,cs,fz,x,hs,hx,hb⟩:=hL i (ids'[i]'aa) ab;obtain⟨v',E',z',cs',fz',x',hs',hx',hb'⟩:=hL j (ids'[j]'aa) ab;have e1:lb[i]=x:=by simpa [hii]using hx
    have e2:lb[j]=x':=by simpa [hj]using hx'
    have hid:=I.inj _ v _ _ v' _ x.1 x.2 x'.2 hs hs' hb (by rw[hb',←e2,←e1,he]);have:=(UI.1 (List.nodup_iff_pairwise_ne.1 hboxes.1)) i j aa aa hij;exact this hid
   refine(hA.2 M1 w vs lb I1.mem (λg cs hg=>RepC.mono I1.le (I1.glob g cs hg)) (by rw[hlen,g1]) hnd g2 hargs).mono ?_;rintro e w' ⟨v,r,ls,M',l,rfl,hR,hK,hmem,hold,hls,hobs,hfr,hndl⟩;refine⟨v,r,ls,?_⟩;have hlsn:ls.length=ids'.length:=by rw[hls,hlen]
   have hall:∀id∈ids',∃v o,s id=some (v,o):=λid hid=>by have⟨v,E,z,cs,fz,h⟩:=hboxes.2 id hid;exact⟨_,_,h⟩
   have hold0:∀b o x,M b o=some x->M' b o=some x:=λb o x hx=>by rw[hold b o (I.mem.lt hx)];exact hM1 _ _ _ hx
   unfold KJ;by_cases hsc:(scal r&&ls.all Vb)=true
   .simp only[hsc,if_true];simp only[W6]at hsc;have⟨hsc1,hso⟩:=hsc;have⟨rfl,hrv,himp⟩:=scal_rep (M':=M) β ver n hsc1 hfr;have⟨I2,_⟩:=I.called (ids:=ids') (lb:=lb) (M':=M) (w':=w') (obs:=ls) hboxes hL hlen hK (λb o x hx=>hmem b o x (hold0 b o x hx)) (λ_ _ _=>rfl) hlsn (λk ob x h1 h2=>by
     obtain⟨g3,g4⟩:=hobs k ob x h1 h2
     exact⟨Xi3 (Ud.1 hso ob (Ui h1)) hold0 g3,g4⟩)
    refine⟨M,β,trivial,hR,?_,?_,MLe.refl _,BLe.refl _⟩
    .rw[himp];exact I2.mono λ_ h=>.inl h
    rw[himp];exact hrv
   simp only[hsc,U4,if_false];have hB1:Xcd (frz s (l1++l2)) ids':=⟨hboxes.1,λid hid=>by
    obtain⟨v,E,z,cs,fz,hs⟩:=hboxes.2 id hid
    refine⟨v,E,z,cs,fz,?_⟩
    unfold frz
    split
    .rw[hs];rfl
    .exact hs⟩
   have hL1:XeA (frz s (l1++l2)) β ids' lb:=λj id hj=>by
    obtain⟨v,E,z,cs,fz,x,hs,hx,hb⟩:=hL j id hj;refine⟨v,E,z,cs,fz,x,?_,hx,hb⟩;unfold frz;split
    .rw[hs];rfl
    exact hs
   have⟨I2,hM2⟩:=I1.called hB1 hL1 hlen hK hmem hold hlsn hobs;rw[XaQ s _ ids' ls hall]at I2;have hfree:XgV (app (frz s (l1++l2)) (Zy s ids' ls)) β (XY l):=by
    intro b hb id v' ob cb hs hx;have hge:=FrRep.ge hfr b hb;have h1:∃o,frz s (l1++l2) id=some (v',o):=by
     obtain⟨q1,q2⟩:=Xce (frz s (l1++l2)) ids' ls (frz s (l1++l2)) id hB1.1 (λi hi=>by
      obtain⟨v,E,z,cs,fz,h⟩:=hB1.2 i hi
      exact⟨_,_,h⟩) hlsn
     rw[XaQ s _ ids' ls hall]at q1 q2;by_cases hid:id∈ids'
     .obtain⟨j,hj,rfl⟩:=WN hid;obtain⟨v2,E,z,cs,fz,h⟩:=hB1.2 _ hid;have:=q2 j (ls[j]'aa) ab ab v2 _ h;rw[this]at hs;obtain⟨rfl,_⟩:v2=v'/\_:=by simpa using hs
      exact⟨_,h⟩
     rw[q1 hid]at hs;exact⟨_,hs⟩
    obtain⟨o,h1⟩:=h1;obtain⟨x,hx1,hob⟩:=I1.obs id v' o h1;rw[hx]at hx1;obtain rfl:some (b,cb)=x:=by simpa using hx1
    have:=hob.lt;omega
   have⟨β',h1,h2⟩:=imp_ok (C:=C) (ver:=ver) (B:=w.heap.size) I.keep.size r v l n I2 (λi _=>I2.fresh hv i) hfr hndl hfree;exact⟨M',β',trivial,hR,h1.inv,h2,hM1.trans hM2,h1.le⟩
  cases h
 simp_all
def Xng(I:UP P C s U M β w){f:FuncId}{eargs:List D}{vs:List Value}{M1:Mem}(hM1:MLe M M1)(hm1:MemOK M1 w)(hargs:RepL P M1 Yu eargs vs){R:D->List Ob->Prop}(hA:YM P C.G f eargs [] R)(hsc:∀r ls,R r ls->scal r=true):
 Calls P f ⟨vs⟩ w λe w'=>∃v r ls,e=.returned v/\R r ls/\UP P C s U M β w'/\Rep P M β r v:=by
 refine(hA.2 M1 w vs [] hm1 (λg cs hg=>RepC.mono (I.le.trans hM1) (I.glob g cs hg)) rfl ab (λk ob x h=>ab) (hargs.mono (MLe.refl _) (BLe.zero _))).mono ?_;rintro e w' ⟨v,r,ls,M',l,rfl,hR,hK,hmem,hold,hls,hobs,hfr,hndl⟩;have hold0:∀b o x,M b o=some x->M' b o=some x:=λb o x hx=>by rw[hold b o (I.mem.lt hx)];exact hM1 _ _ _ hx
 have⟨rfl,hrv,_⟩:=scal_rep (M':=M) β 0 0 (hsc r ls hR) hfr;have⟨I2,_⟩:=I.called (ids:=[]) (lb:=[]) (M':=M) (w':=w') (obs:=[]) ⟨ab,ab⟩ (λj id h=>by grind) rfl hK (λb o x hx=>hmem b o x (hold0 b o x hx)) (λ_ _ _=>rfl) rfl (λk ob x h=>ab);exact⟨v,r,ls,rfl,hR,I2,hrv⟩
end
variable {P:Program}
def HLe(s s':Heap):Prop:=∀i x,s i=some x->s' i=some x
section
variable {s s':Heap}
mutual
def snap_le(hs:HLe s s'):∀{d:D}{r},snap s d=some r->snap s' d=some r
 |.osl id ver z off len,r,h=>by
  unfold snap at h⊢;split at h
  .rename_i ver' E z' es f he;rw[hs _ _ he];exact h
  simp_all
 |.agg cs,r,h=>by
  unfold snap at h⊢;split at h
  .rename_i c ds l he;rw[KW hs he];exact h
  simp_all
 |.tup cs,r,h=>by
  unfold snap at h⊢;split at h
  .rename_i c ds l he;rw[KW hs he];exact h
  simp_all
 |.clo fn a b,r,h=>by
  unfold snap at h⊢;split at h
  .rename_i he hf;rw[KW hs he,KW hs hf];exact h
  simp_all
 |.ifc t d,r,h=>by
  unfold snap at h⊢;split at h
  .rename_i he;rw[snap_le hs he];exact h
  simp_all
 |.any,r,h=>by assumption
 |.v _,r,h=>by assumption
 |.nsl,r,h=>by assumption
 |.isl ..,r,h=>by assumption
 |.ipt ..,r,h=>by assumption
 |.ept ..,r,h=>by assumption
 |.fsl ..,r,h=>by assumption
 |.fmp ..,r,h=>by assumption
 |.omp ..,r,h=>by assumption
def KW(hs:HLe s s'):∀{ds:List D}{r},Zx s ds=some r->Zx s' ds=some r
 |[],r,h=>by assumption
 |d::ds,r,h=>by
  unfold Zx at h⊢;split at h
  .rename_i he hf;rw[snap_le hs he,KW hs hf];exact h
  simp_all
end
def Xfx(hs:HLe s s'):∀{ds:List (Nat×D)}{r},J6 s ds=some r->J6 s' ds=some r
 |[],r,h=>by assumption
 |(i,d)::ds,r,h=>by
  unfold J6 at h⊢;split at h
  .rename_i he hf;rw[snap_le hs he,Xfx hs hf];exact h
  simp_all
def Has(s:Heap)(l:List Nat):Prop:=∀i∈l,∃x,s i=some x
def Xak(hs:HLe s s'):∀{l:List Nat},Has s l->Xaf s' l=Xaf s l
 |[],_=>rfl
 |i::l,h=>by have⟨x,hx⟩:=h i ab;have ih:=Xak hs (l:=l) (λj hj=>h j (Ul _ hj));simp only[Xaf,hx,hs _ _ hx,ih]
mutual
def snap_has:∀{d:D}{c e l},snap s d=some (c,e,l)->Has s l
 |.osl id ver z off len,c,e,l,h=>by
  unfold snap at h;split at h
  .rename_i he;split at h
   .obtain⟨_,_,rfl⟩:=h;intro i hi;simp at hi;subst hi;exact⟨_,he⟩
   cases h
  simp_all
 |.agg cs,c,e,l,h=>by
  unfold snap at h;split at h
  .rename_i he;obtain⟨_,_,rfl⟩:=h;exact KK he
  simp_all
 |.tup cs,c,e,l,h=>by
  unfold snap at h;split at h
  .rename_i he;obtain⟨_,_,rfl⟩:=h;exact KK he
  simp_all
 |.clo fn a b,c,e,l,h=>by
  unfold snap at h;split at h
  .rename_i he hf;simp only[Ws,Wx]at h;obtain⟨_,_,rfl⟩:=h;intro i hi;rcases WG.1 hi with hi|hi
   .exact KK he i hi
   exact KK hf i hi
  simp_all
 |.ifc t d,c,e,l,h=>by
  unfold snap at h;split at h
  .rename_i he;simp only[Ws,Wx]at h;obtain⟨_,_,rfl⟩:=h;exact snap_has he
  simp_all
 |.any,c,e,l,h=>by simp[snap]at h;obtain⟨_,_,rfl⟩:=h;intro i hi;simp_all
 |.v _,c,e,l,h=>by simp[snap]at h;obtain⟨_,_,rfl⟩:=h;intro i hi;simp_all
 |.nsl,c,e,l,h=>by simp[snap]at h;obtain⟨_,_,rfl⟩:=h;intro i hi;simp_all
 |.isl ..,c,e,l,h=>by simp[snap]at h;obtain⟨_,_,rfl⟩:=h;intro i hi;simp_all
 |.ipt ..,c,e,l,h=>by simp[snap]at h;obtain⟨_,_,rfl⟩:=h;intro i hi;simp_all
 |.ept ..,c,e,l,h=>by simp_all[snap]
 |.fsl ..,c,e,l,h=>by simp_all[snap]
 |.fmp ..,c,e,l,h=>by simp_all[snap]
 |.omp ..,c,e,l,h=>by simp_all[snap]
def KK:∀{ds:List D}{c es l},Zx s ds=some (c,es,l)->Has s l
 |[],c,es,l,h=>by obtain⟨_,_,rfl⟩:=h;intro i hi;simp_all
 |d::ds,c,es,l,h=>by
  unfold Zx at h;split at h
  .rename_i he hf;obtain⟨_,_,rfl⟩:=h;intro i hi;rcases WG.1 hi with hi|hi
   .exact snap_has he i hi
   exact KK hf i hi
  simp_all
end
def XdE:∀{ds:List (Nat×D)}{c es l},J6 s ds=some (c,es,l)->Has s l
 |[],c,es,l,h=>by obtain⟨_,_,rfl⟩:=h;intro i hi;simp_all
 |(j,d)::ds,c,es,l,h=>by
  unfold J6 at h;split at h
  .rename_i he hf;obtain⟨_,_,rfl⟩:=h;intro i hi;rcases WG.1 hi with hi|hi
   .exact snap_has he i hi
   exact XdE hf i hi
  simp_all
def Xnh(hs:HLe s s'){d:D}{r}(h:Xen s d=some r):Xen s' d=some r:=by
 unfold Xen at h⊢;split at h
 .exact h
 .split at h
  .rename_i he;rw[hs _ _ he];exact h
  cases h
 omega
def Xfy(hs:HLe s s'){z:Nat}{d:D}{r}(h:elems s z d=some r):elems s' z d=some r:=by
 unfold elems at h⊢;split at h
 .exact h
 .exact h
 .exact h
 .split at h
  .rename_i he;rw[hs _ _ he];exact h
  cases h
 omega
def Xh0(hs:HLe s s'){a b E z n:Nat}{c:Prop}{src:List (List D)}{d:D}{r}(h:Xdn P s a b E z n c src d=some r):Xdn P s' a b E z n c src d=some r:=by
 unfold Xdn at h⊢;split at h
 .exact h
 .split at h
  .rename_i he;rw[hs _ _ he];exact h
  cases h
 omega
def Xh1(hs:HLe s s'){T:TypeId}{m key x:D}{r}(h:XgP P s T m key x=some r):XgP P s' T m key x=some r:=by
 unfold XgP at h⊢;split at h
 .split at h
  .rename_i h1;rw[hs _ _ h1];split at h
   .rename_i h2;rw[snap_le hs h2];simp only;rw[Xak hs (snap_has h2)];exact h
   cases h
  cases h
 omega
def Xpz(hs:HLe s s'){dst:Option Nat}{ver:Nat}{t:Operand->D}{op:Op}{r}(h:opF P dst ver t s op=some r):opF P dst ver t s' op=some r:=by
 cases op with
 |load T a=>
  simp only[opF]at h⊢;split at h
  .rename_i h1 h2;rw[h1,Xnh hs h2];exact h
  simp_all
 |store T a x=>
  simp only[opF]at h⊢;split at h
  .split at h
   .rename_i h3;rw[hs _ _ h3];exact h
   .rename_i h3;rw[hs _ _ h3];split at h
    .rename_i h4;simp only[snap_le hs h4];rw[Xak hs (snap_has h4)];exact h
    cases h
   cases h
  omega
 |buildSlice T n parts=>
  simp only[opF]at h⊢;split at h
  .split at h
   .split at h
    .split at h
     .rename_i h4;rw[Wq h4];split at h
      .rename_i h5;simp only[Xfx hs h5];rw[Xak hs (XdE h5)];exact h
      cases h
     cases h
    cases h
   cases h
  omega
 |mapUpdate T m key x=>exact Xh1 hs h
 |insert T m key x=>exact Xh1 hs h
 |lookup T m key ok=>
  simp only[opF]at h⊢;split at h
  .split at h
   .rename_i h4 h5;simp only[hs _ _ h4,h5];exact h
   cases h
  omega
 |call c=>
  have⟨callee,args,types⟩:=c;cases callee with
  |builtin b=>
   cases b<;>first|exact h|skip
   case len=>
    simp only[opF]at h⊢
    split at h
    .split at h
     .exact h
     .exact h
     .exact h
     .exact h
     .split at h
      .rename_i h4 h5
       simp only[h4,hs _ _ h5];exact h
      .cases h
     .cases h
    .cases h
   case clear=>
    simp only[opF]at h⊢
    split at h
    .split at h
     .split at h
      .split at h
       .rename_i h5 h6
        simp only[h5,hs _ _ h6];exact h
       .cases h
      .cases h
     .cases h
    .split at h
     .rename_i h4 h5
      simp only[h4,hs _ _ h5];exact h
     .cases h
    .cases h
   case copy=>
    simp only[opF]at h⊢
    split at h
    .split at h
     .split at h
      .rename_i h4 h5 h6
       simp only[h4,hs _ _ h5,Xfy hs h6];exact h
      .cases h
     .cases h
    .cases h
   case delete=>
    simp only[opF]at h⊢
    split at h
    .split at h
     .rename_i h4 h5
      simp only[h4,hs _ _ h5];exact h
     .cases h
    .cases h
   simp only[opF]at h⊢;split at h
   .split at h
    .split at h
     .split at h
      .split at h
       .rename_i h6;rw[Wq h6];split at h
        .split at h
         .rename_i h8;simp only[Xfy hs h8];exact Xh0 hs h
         cases h
        .split at h
         .exact Xh0 hs h
         cases h
        cases h
       cases h
      cases h
     cases h
    cases h
   omega
  |_=>exact h
 |_=>exact h
end
variable {P:Program}
inductive It where
 |code (c:Code)
 |ops (full:Array Oper) (rest:List Oper)
 |blk (id:Nat)
 |stop (Q:St->Prop)
abbrev AW:=Act->World->Prop
def XgX{F:Fence}{n:Nat}{c:Code}{Q:Exit->AW}{a:Act}{w:World}(h:c.wpIn F n P (Exit.noGoto Q) a w):(Code.scope c).wpIn F n P Q a w:=by
 intro b k cs hro hb hr;have h0:(lone (b.atR a (.code (.scope c)::k)) cs w).fenced P F:=fenced_calm hb hr rfl;have s0:step P (lone (b.atR a (.code (.scope c)::k)) cs w)=.next (lone (b.atR a (.code c::.inScope c::k)) cs w):=step_lone_go (by rfl)
 have⟨e,a₁,w₁,hq,harr⟩:=h b (.inScope c::k) cs hro hb hr;have s1:step P (lone (b.atR a₁ (.inScope c::k)) cs w₁)=.next (lone (b.atR a₁ k) cs w₁):=step_lone_go (by rfl)
 cases e with
 |normal=>exact⟨.normal,a₁,w₁,hq,.head h0 s0 (StepsIn.trans harr (.one (fenced_calm hb hr rfl) s1))⟩
 |exit id=>exact⟨.exit id,a₁,w₁,hq,λk' hk=>.head h0 s0 (harr.1 k' ag),λhr' hk=>let ⟨k1,e,s⟩:=harr.2 hr' ag;⟨k1,e,.head h0 s0 s⟩⟩
 |goto l=>exact hq.elim
 |ret=>exact⟨_,a₁,w₁,hq,.of_steps (.one h0 s0) harr⟩
 |panic ch=>exact⟨_,a₁,w₁,hq,.of_steps (.one h0 s0) harr⟩
 |outgrown=>exact⟨_,a₁,w₁,hq,.of_steps (.one h0 s0) harr⟩
def XbB{F:Fence}{rm:Nat}{c:Code}{Q:Exit->AW}{a:Act}{w:World}(I:Nat->AW)(n:Nat)(h0:I n a w)(rd:∀n a w,I n a w->c.wpIn F rm P (Exit.then (λa w=>∃k,k<n/\I k a w) Q) a w):(Code.loop c).wpIn F rm P Q a w:=by
 refine wpIn_loop (λa w=>∃n,I n a w) (λa w=>leastOf λn=>I n a w) ⟨n,h0⟩ λa w hI=>wpIn_mono (rd _ a w (leastOf_spec hI).1) λe a' w' hq=>?_;cases e with
 |normal=>have⟨k,hk,hJ⟩:=hq;exact And.intro ⟨k,hJ⟩ (Nat.lt_of_le_of_lt ((leastOf_spec ⟨k,hJ⟩).2 k hJ) hk)
 |_=>exact hq
@[reducible] def fz(r:Option Nat):Fence:={Fence.wide with round:=r}
def Xcf{r:Option Nat}{n:Nat}{f:FuncId}{args:Array Value}{w:World}{R:Ending->World->Prop}(h:Calls P f args w R):CallsIn (fz r) n P f args w R:=(callsIn_wide (n:=n)).2 h
def Xkg{r:Option Nat}{n:Nat}{o:Oper}{a:Act}{w:World}{K:AW}{Q:Exit->AW}(hd:∀c,o.op≠.defer c)(h:o.wp P a w K Q):o.wpIn (fz r) n P a w K Q:=by
 refine⟨λ_ _=>trivial,?_⟩;rw[Oper.semAt_eq _ _ _ hd];unfold Oper.wp at h;revert h;generalize (execOp a.eval o).run P w=x;intro h;unfold Oper.upon at h;split at h
 .exact h
 .exact h
 .exact h
 .exact⟨λe=>(by cases e),Xcf h⟩
 .exact⟨λe=>(by cases e),λc cs _=>let ⟨v,w',r,s⟩:=h c cs;⟨v,w',r,stepsIn_wide.2 s⟩⟩
 .exact h
 simp_all
def Vc(R:AW)(f:Option Nat->AW):Exit->AW
 |.normal=>f none
 |.exit id=>f (some id)
 |.ret=>R
 |_=>λ_ _=>False
def sem(P:Program)(C:Cx)(R:AW):List It->Option Nat->AW
 |[],none=>R
 |[],some _=>λ_ _=>False
 |.stop Q::_,none=>λa w=>∃st,Rel P C st a w/\Q st
 |.stop _::k,some i=>sem P C R k (some i)
 |.blk _::k,none=>sem P C R k none
 |.blk j::k,some i=>if i=j then sem P C R k none else sem P C R k (some i)
 |.code c::k,none=>c.wpIn (fz C.rd) 0 P (Vc R (sem P C R k))
 |.code _::k,some i=>sem P C R k (some i)
 |.ops full rest::k,none=>wpListIn (fz C.rd) 0 P full (Vc R (sem P C R k)) rest
 |.ops _ _::k,some i=>sem P C R k (some i)
def ZR(P:Program)(C:Cx)(Q:St->Prop):AW:=λa w=>∃st,Rel P C st a w/\Q st
class Tag{α:Type}(x:α):Type
instance{α:Type}(x:α):Tag x:=⟨⟩
abbrev Prf{α:Type}(_:α):Prop:=True
def LoopG(P:Program)(C:Cx)(R:St->Prop)(c:Code)(k:List It)(st:St)[Tag (C,R,c,k,st)](_:Prf c):Prop:=
 ∀a w,Rel P C st a w->(Code.loop c).wpIn (fz C.rd) 0 P (Vc (ZR P C R) (sem P C (ZR P C R) k)) a w
def DrawnG(P:Program)(C:Cx)(R:St->Prop)(id:Nat)(ops:Array Oper)(k:List It)(st:St)[Tag (C,R,ops,k,st)](_:Prf ops):Prop:=
 ∀a w,Rel P C st a w->(Code.region id ops true).wpIn (fz C.rd) 0 P (Vc (ZR P C R) (sem P C (ZR P C R) k)) a w
def CallG(P:Program)(G:Nat->Option (List D))(f:FuncId)(args:List D)(obs:List Ob)(K:D->List Ob->Prop)[Tag (G,K)](_:Prf args):Prop:=
 ∃eargs R,ZK args eargs/\YM P G f eargs obs R/\∀r ls,R r ls->K r ls
def Vd(b:Bool)(x y:Prop):Prop:=(b=true->x)/\(b=false->y)
def VP(st:St)(x:Nat)(d:D):St:={st with t:=upd st.t x d}
def nx(st:St)(dst:Option Nat)(d:D)(u:Up)(n k:Nat):St:=
 ⟨match dst with|some x=>upd st.t x d|none=>st.t,app st.s u,n,k⟩
def XO(dst:Option Nat)(n:Nat):Option Nat:=match dst with
 |some x=>if x<n then some x else none
 |none=>none
def callee(t:Operand->D)(c:Call):Option (FuncId×List D):=match c.callee with
 |.value f=>match t f with
  |.clo (.func g) first caps=>some (g,first++(c.args.toList.map t++caps))
  |_=>none
 |_=>none
def XbH(t:Operand->D)(c:Call):Option (Nat×List D):=match c.callee with
 |.value f=>match t f with
  |.clo (.yield l) [] []=>some (l,c.args.toList.map t)
  |_=>none
 |_=>none
def JJ:Op->Option Call
 |.call c=>match c.callee with
  |.value _=>some c
  |_=>none
 |_=>none
def aft(s:Heap)(ids fz:List Nat)(r:D)(ls:List Ob)(ver n:Nat):D×Up:=
 if scal r&&ls.all Vb then(r,Zy s ids ls)else((imp ver n r).1,Xaf s fz++(Zy s ids ls++(imp ver n r).2.2))
def XpA(x:D×Up)(dst:Option Nat)(n k:Nat)(f:Option Nat->D->Up->Nat->Nat->Prop)[Tag f](_:Prf x):Prop:=f dst x.1 x.2 n k
def Xbk(x:Option (Prop×D×Up))(dst:Option Nat)(n k:Nat)(f:Option Nat->D->Up->Nat->Nat->Prop)[Tag f](_:Prf x):Prop:=match (generalizing:=false) x with
 |some (c,d,u)=>c/\f dst d u n k
 |none=>False
def XgY(P:Program)(G:Nat->Option (List D))(f:FuncId)(x:Option (Prop×List D×List Nat×List Ob×List Nat))(K:List Nat->List Nat->D->List Ob->Prop)[Tag (G,K)](_:Prf x):Prop:=match (generalizing:=false) x with
 |some (cc,as,ids,obs,fz)=>cc/\CallG P G f as obs (K ids fz) trivial
 |none=>False
def nxS(st:St)(dst:Option Nat)(d:D)(s:Heap)(n k:Nat):St:=
 ⟨match dst with|some x=>upd st.t x d|none=>st.t,s,n,k⟩
def Xfz(n:Nat)(dst:Option Nat):Option Nat:=match dst with
 |some d=>some (n+d)
 |none=>none
def CallX(P:Program)(C:Cx)(f:FuncId)(args:List D)(dst:Option Nat)(st:St)(K:St->Prop)[Tag (C,dst,st,K)](_:Prf args):Prop:=
 (∃fn,P.funcs[f]? = some fn/\fn.body.isNone=false/\(fn.name== "runtime.NumGoroutine")=false) /\
 ∀M β w vs,BLe C.b0 β->UP P C st.s (·<st.k) M β w->RepL P M β args vs->Calls P f ⟨vs⟩ w λe w'=>∃v d s' k' M' β',e=.returned v/\UP P C s' (·<k') M' β' w'/\Rep P M' β' d v/\MLe M M'/\BLe β β'/\K (nxS st (XO dst st.n) d s' st.n k')
def YieldX(P:Program)(C:Cx)(l:Nat)(args:List D)(dst:Option Nat)(st:St)(K:St->Prop)[Tag (C,dst,st,K)](_:Prf args):Prop:=
 ∀M β w vs,BLe C.b0 β->UP P C st.s (·<st.k) M β w->RepL P M β args vs->∃f tmps assign body,(Instr.yield l ⟨vs⟩).run P w=.ok (.round l f tmps assign body) w /\
  RoundIn (fz C.rd) 0 P l f tmps assign body w λe w'=>∃v d s' k' M' β',e=.returned v/\UP P C s' (·<k') M' β' w'/\Rep P M' β' d v/\MLe M M'/\BLe β β'/\K (nxS st (XO dst st.n) d s' st.n k')
def XeB(P:Program)(C:Cx)(x:Option (Nat×List D))(dst:Option Nat)(st:St)(K:St->Prop)[Tag (C,dst,st,K)](_:Prf x):Prop:=match (generalizing:=false) x with
 |some (l,args)=>YieldX P C l args dst st K trivial
 |none=>False
def Xcg(P:Program)(C:Cx)(x:Option (FuncId×List D))(c:Call)(dst:Option Nat)(st:St)(K:St->Prop)[Tag (C,c,dst,st,K)](_:Prf x):Prop:=match (generalizing:=false) x with
 |some (f,args)=>CallX P C f args dst st K trivial
 |none=>XeB P C (XbH (ev st.t C.G) c) dst st K trivial
def XdF(P:Program)(C:Cx)(x:Option Call)(o:Oper)(st:St)(K:St->Prop)[Tag (C,o,st,K)](_:Prf x):Prop:=
 match (generalizing:=false) x with
 |some c=>Xcg P C (callee (ev st.t C.G) c) c o.dst st K trivial
 |none=>Xbk (opF P (Xfz C.off o.dst) st.k (ev st.t C.G) st.s o.op) (XO o.dst st.n) st.n (st.k+1) (λdst d u n k=>K (nx st dst d u n k)) trivial
def V1(P:Program)(C:Cx)(o:Oper)(st:St)(K:St->Prop):Prop:=XdF P C (JJ o.op) o st K trivial
def XfA(dst:Option Nat)(n k:Nat)(f:Option Nat->Nat->Nat->Prop)[Tag f](_:Prf dst):Prop:=f dst n k
def ZW(d:D)(r:Nat)(want:Bool)(st:St)(x y:St->Prop)[Tag (st,x,y)](_:Prf d):Prop:=match (generalizing:=false) d with
 |.v (.bool b)=>Vd b (if want then x st else y st) (if want then y st else x st)
 |.v (.tuple _)=>y st
 |_=>False
def XeC(r:Option Nat)(want:Bool)(st:St)(x y:St->Prop)[Tag (st,x,y)](_:Prf r):Prop:=match (generalizing:=false) r with
 |some r=>ZW (st.t r) r want st x y trivial
 |none=>False
def XaR(full:Array Oper)(o:Oper)(st:St)(x y:St->Prop):Prop:=
 match o.guard with
 |none=>x st
 |some (g,want)=>XeC ((full[g]?).bind (·.dst)) want st x y trivial
def Xbl(d:D)(c:Operand)(st:St)(x y:St->Prop)[Tag (c,st,x,y)](_:Prf d):Prop:=match (generalizing:=false) d with
 |.v (.bool b)=>Vd b (x st) (y st)
 |_=>False
def Xbm:Nat->List It->Option (List It)
 |_,[]=>none
 |id,.blk j::k=>if id=j then some k else Xbm id k
 |id,_::k=>Xbm id k
def Xh2(x:Option (List It))(f:List It->Prop)[Tag f](_:Prf x):Prop:=match (generalizing:=false) x with
 |some k=>f k
 |none=>False
def run(P:Program)(C:Cx)(R:St->Prop):Nat->List It->St->Prop
 |0,_,_=>False
 |_+1,[],st=>R st
 |_+1,.stop Q::_,st=>Q st
 |n+1,.blk _::k,st=>run P C R n k st
 |n+1,.ops _ []::k,st=>run P C R n k st
 | n+1,.ops full (o::rest)::k,st=>XaR full o st
     (λst=>V1 P C o st (run P C R n (.ops full rest::k)))
     (λst=>XfA (XO o.dst st.n) st.n (st.k+1) (λdst m j=>run P C R n (.ops full rest::k) (nx st dst (.v undef) [] m j)) trivial)
 |n+1,.code .skip::k,st=>run P C R n k st
 |n+1,.code (.seq x y)::k,st=>run P C R n (.code x::.code y::k) st
 |n+1,.code (.cond c x y)::k,st=>Xbl (ev st.t C.G c) c st (run P C R n (.code x::k)) (run P C R n (.code y::k)) trivial
 |n+1,.code (.block id c)::k,st=>run P C R n (.code c::.blk id::k) st
 |n+1,.code (.scope c)::k,st=>run P C R n (.code c::k) st
 |n+1,.code (.label _)::k,st=>run P C R n k st
 |n+1,.code (.exit id)::k,st=>Xh2 (Xbm id k) (λk'=>run P C R n k' st) trivial
 |_+1,.code .ret::_,st=>R st
 |_+1,.code (.loop c)::k,st=>LoopG P C R c k st trivial
 |n+1,.code (.region _ ops false)::k,st=>run P C R n (.ops ops ops.toList::k) st
 |_+1,.code (.region id ops true)::k,st=>DrawnG P C R id ops k st trivial
 |_+1,.code _::_,_=>False
def Ve{C:Cx}{R:AW}{id:Nat}:∀{k k':List It}{a:Act}{w:World},Xbm id k=some k'->sem P C R k' none a w->sem P C R k (some id) a w
 |[],k',a,w,h,_=>by simp_all[Xbm]
 |.blk j::k,k',a,w,h,hs=>by
  unfold Xbm at h;unfold sem;split at h
  .simp_all
  rename_i e;rw[Wn e];exact Ve h hs
 |.code c::k,k',a,w,h,hs=>by unfold sem;exact Ve h hs
 |.ops _ _::k,k',a,w,h,hs=>by unfold sem;exact Ve h hs
 |.stop _::k,k',a,w,h,hs=>by unfold sem;exact Ve h hs
def I7{C:Cx}{st:St}{a:Act}{w':World}{s':Heap}{k':Nat}{M':Mem}{β':Loc}{M:Mem}{β:Loc}{d:D}{v:Value}{dst:Option Nat}(h1:a.defers=C.df)(h2:a.tmps.size=st.n)(h0:BLe C.b0 β)(h3:∀x,Rep P M β (st.t x) (a.tmps.getD x undef))(hM:MLe M M')(hB:BLe β β')(I:UP P C s' (·<k') M' β' w')(hv:Rep P M' β' d v):Rel P C (nxS st (XO dst st.n) d s' st.n k') (a.put dst v) w':=by
 cases dst with
 |none=>exact⟨h1,h2,M',β',h0.trans hB,λx=>(h3 x).mono hM hB,I⟩
 |some x=>
  by_cases hx:x<st.n
  .simp only[XO,Wq hx];refine⟨h1,by simp_all[nxS,Act.put],M',β',h0.trans hB,λi=>?_,I⟩;simp only[nxS,upd,Act.put];by_cases hi:i=x
   .simp_all
   rw[Wn hi];have e:(a.tmps.setIfInBounds x v).getD i undef=a.tmps.getD i undef:=by simp[Ne.symm hi]
   rw[e];exact(h3 i).mono hM hB
  simp only[XO,Wn hx];refine⟨h1,by simp_all[nxS,Act.put],M',β',h0.trans hB,λi=>?_,I⟩;have e:a.put (some x) v=a:=by simp only[Act.put];rw[Array.setIfInBounds_eq_of_size_le aa]
  rw[e];exact(h3 i).mono hM hB
def Rel.put{C:Cx}{st:St}{a:Act}{w':World}{u:Up}{k':Nat}{M':Mem}{β':Loc}{M:Mem}{β:Loc}{d:D}{v:Value}{dst:Option Nat}(h1:a.defers=C.df)(h2:a.tmps.size=st.n)(h0:BLe C.b0 β)(h3:∀x,Rep P M β (st.t x) (a.tmps.getD x undef))(hM:MLe M M')(hB:BLe β β')(I:UP P C (app st.s u) (·<k') M' β' w')(hv:Rep P M' β' d v):Rel P C (nx st (XO dst st.n) d u st.n k') (a.put dst v) w':=I7 h1 h2 h0 h3 hM hB I hv
def XaS:wfV undef:=by simp[undef,wfV]
def Xbn{g:FuncId}{va vb vs:List Value}{w:World}:(Deferred.ofValue (.func (.func g) ⟨va⟩ ⟨vb⟩) ⟨vs⟩).run P w=.ok {target:=.fn (.func g) ⟨vb⟩,args:=⟨va++vs⟩} w:=by simp[Deferred.ofValue,pure,Sem.run]
def RepL.map{M:Mem}{β:Loc}{t:Operand->D}{ρ:Operand->Value}(h:∀x,Rep P M β (t x) (ρ x)):∀l:List Operand,RepL P M β (l.map t) (l.map ρ)
 |[]=>by rfl
 |x::l=>by exact⟨_,_,rfl,h x,RepL.map h l⟩
def VB{ρ:Operand->Value}{o:Oper}{c:Call}(hop:o.op=.call c){x:Operand}(hc:c.callee=.value x){g:FuncId}{va vb:List Value}(hx:ρ x=.func (.func g) ⟨va⟩ ⟨vb⟩){fn:Func}(hf:P.funcs[g]? = some fn)(hb:fn.body.isNone=false)(hn:(fn.name== "runtime.NumGoroutine")=false)(w:World):
 (execOp ρ o).run P w=.ok (.enter g ⟨va++(c.args.toList.map ρ++vb)⟩) w:=by
 unfold execOp;simp only[hop,resolve,hc,hx];have e:c.args.map ρ=⟨c.args.toList.map ρ⟩:=by rw[←Array.toList_inj];simp
 have hn':¬fn.name = "runtime.NumGoroutine":=by simpa using hn
 have hb':¬fn.body=none:=by intro h0;rw[h0]at hb;simp at hb
 simp[go_sem,Xbn,invoke,callFunc,hf,hb',hn']
def XgZ{ρ:Operand->Value}{o:Oper}{c:Call}(hop:o.op=.call c){x:Operand}(hc:c.callee=.value x){l:Nat}(hx:ρ x=.func (.yield l) #[] #[]){w:World}{n:Next}(hy:(Instr.yield l ⟨c.args.toList.map ρ⟩).run P w=.ok n w):(execOp ρ o).run P w=.ok n w:=by
 unfold execOp;simp only[hop,resolve,hc,hx];have e:c.args.map ρ=⟨c.args.toList.map ρ⟩:=by rw[←Array.toList_inj];simp
 rw[e];simp[go_sem,Deferred.ofValue,pure,invoke,hy]
section
variable {C:Cx}{st:St}{a:Act}{w:World}
mutual
def scal_imp{ver n:Nat}:∀{d:D},scal d=true->imp ver n d=(d,n,[])
 |.any,_=>by rfl
 |.v x,_=>by rfl
 |.agg cs,h=>by simp_all[scal,imp,XaT,h]
 |.tup cs,h=>by simp_all[scal,imp,XaT,h]
 |.nsl,h=>by rfl
 |.isl ..,h=>by rfl
 |.osl ..,h=>by rfl
 |.ept ..,h=>by rfl
 |.ipt ..,h=>by rfl
 |.clo ..,h=>by simp_all[scal]
 |.ifc ..,h=>by simp_all[scal]
 |.fsl ..,h=>by simp_all[scal]
 |.fmp ..,h=>by simp_all[scal]
 |.omp ..,h=>by rfl
def XaT{ver n:Nat}:∀{ds:List D},Jo ds=true->J0 ver n ds=(ds,n,[])
 |[],_=>by rfl
 |d::ds,h=>by simp_all[Jo,W6,J0,scal_imp,h,XaT,U1]
end
def Xkh(s:Heap)(ids fz:List Nat)(r:D)(ls:List Ob)(ver n:Nat)(hids:∀id∈ids,∃v o,s id=some (v,o)):(aft s ids fz r ls ver n).1=(KJ s ids fz r ls ver n).1/\app s (aft s ids fz r ls ver n).2=(KJ s ids fz r ls ver n).2:=by
 unfold aft KJ;by_cases h:(scal r&&ls.all Vb)=true
 .simp only[h,if_true];simp at h;rw[scal_imp h.1];exact⟨rfl,rfl⟩
 simp[h,U4,if_false,YW,J9]
def XfB{ρ:Operand->Value}{o:Oper}{x:Option Nat}:execOp ρ {o with dst:=x}=execOp ρ o:=by rfl
def CallX.c{K:St->Prop}{f:FuncId}{args:List D}{dst:Option Nat}(h:XgY P C.G f (Y0 st.s args) (λids fz r ls=>
 XpA (aft st.s ids fz r ls st.k (64*(C.off+dst.getD 0))) (XO dst st.n) st.n (st.k+1) (λdst d u n k=>K (nx st dst d u n k)) trivial) trivial)(t:Prf args):CallX P C f args dst st K t:=by
 unfold XgY at h;split at h
 .rename_i cc as ids obs fz hca;have⟨hcc,eargs,R,hfit,hA,hKR⟩:=h;have⟨⟨fn,hf,hb',hn⟩,_⟩:=id hA;refine⟨⟨fn,hf,hb',hn⟩,λM β w vs h0 I hargs=>?_⟩;have hbox:∀id∈ids,∃v o,st.s id=some (v,o):=by
   unfold Y0 at hca;split at hca
   .rename_i hl;split at hca
    .simp only[Ws,Wx]at hca;obtain⟨_,_,rfl,_,_⟩:=hca;intro id hid;obtain⟨v,E,z,cs,fz,hs⟩:=(YU hl ⟨ab,ab⟩).2 id hid;exact⟨_,_,hs⟩
    cases hca
   cases hca
  refine(XhZ I (ver:=st.k) aa hargs hca hcc hfit hA (64*(C.off+dst.getD 0))).mono ?_;rintro e w' ⟨v,r,ls,M',β',rfl,hR,I',hv,hM,hB⟩;have⟨e1,e2⟩:=Xkh st.s ids fz r ls st.k (64*(C.off+dst.getD 0)) hbox;rw[←e1]at hv;rw[←e2]at I';exact⟨v,_,_,st.k+1,M',β',rfl,I'.mono λv hv=>aa,hv,hM,hB,hKR r ls hR⟩
 simp_all
def XdG{o:Oper}{K:St->Prop}{K':AW}{Q:Exit->AW}(hr:Rel P C st a w)(h:V1 P C o st K)(hK:∀st a w,Rel P C st a w->K st->K' a w):o.wpIn (fz C.rd) 0 P a w K' Q:=by
 have hnd:∀c,o.op≠.defer c:=by intro c e;unfold V1 XdF at h;rw[e]at h;simp[JJ,opF,Xbk]at h
 have⟨h1,h2,M,β,h0,h3,I⟩:=hr;have hev:=Xcc I h3;unfold V1 XdF at h;split at h
 .rename_i c hc;have hop:o.op=.call c:=by
   unfold JJ at hc;split at hc
   .grind
   grind
  unfold Xcg at h;split at h
  .rename_i f args hcal;have⟨⟨fn,hf,hb',hn⟩,hX⟩:=h;unfold callee at hcal;split at hcal
   .rename_i x hx;split at hcal
    .rename_i g first caps hclo
     obtain⟨rfl,rfl⟩:=hcal;have hfx:=hev x;rw[hclo]at hfx;have⟨va,vb,hfx,ha,hb⟩:=hfx;refine Xkg hnd ?_;unfold Oper.wp;rw[VB hop hx hfx hf hb' hn w];have hargs:RepL P M β (first++(c.args.toList.map (ev st.t C.G)++caps)) (va++(c.args.toList.map a.eval++vb)):=
      ha.append ((RepL.map hev _).append hb)
     refine(hX M β w _ h0 I hargs).mono ?_;rintro e w' ⟨v,d,s',k',M',β',rfl,I',hv,hM,hB,hk⟩;exact hK _ _ _ (I7 h1 h2 h0 h3 hM hB I' hv) hk
    cases hcal
   simp_all
  unfold XeB at h;split at h;rotate_left
  .exact h.elim
  rename_i l args hcal;unfold XbH at hcal;split at hcal
  .rename_i x hx;split at hcal
   .rename_i l' hclo;obtain⟨rfl,rfl⟩:=hcal;have hfx:=hev x;rw[hclo]at hfx;obtain⟨va,vb,hfx,rfl,rfl⟩:=hfx;obtain⟨f,tmps,assign,body,hy,hR⟩:=h M β w _ h0 I (RepL.map hev _);refine⟨λ_ _=>trivial,?_⟩;rw[Oper.semAt_eq _ _ _ hnd,XgZ hop hx hfx hy,Oper.uponIn_round];refine⟨λe=>(by cases e),hR.mono ?_⟩;rintro e w' ⟨v,d,s',k',M',β',rfl,I',hv,hM,hB,hk⟩;exact hK _ _ _ (I7 h1 h2 h0 h3 hM hB I' hv) hk
   cases hcal
  simp_all
 refine Xkg hnd ?_;unfold Xbk at h;split at h
 .rename_i c d u hop;have:=Xkf I (ver:=st.k) aa {o with dst:=Xfz C.off o.dst} a.eval (ev st.t C.G) hev (λ_=>rfl) hop h.1;obtain⟨M',β',w',v,hres,I',hv,hM,hB⟩:=this;rw[XfB]at hres;have hrel:Rel P C (nx st (XO o.dst st.n) d u st.n (st.k+1)) (a.put o.dst v) w':=Rel.put h1 h2 h0 h3 hM hB (I'.mono λv hv=>by show v<st.k+1;omega) hv;unfold Oper.wp;rcases hres with hres|⟨hres,rfl⟩
  .rw[hres];exact hK _ _ _ hrel h.2
  rw[hres];exact hK _ _ _ hrel h.2
 simp_all
def Rel.bump(hr:Rel P C st a w)(dst:Option Nat):Rel P C (nx st (XO dst st.n) (.v undef) [] st.n (st.k+1)) (a.put dst undef) w:=by have⟨h1,h2,M,β,h0,h3,I⟩:=hr;exact Rel.put (u:=[]) h1 h2 h0 h3 (MLe.refl _) (BLe.refl _) (I.mono λv hv=>aa) (by simp[Rep,XaS])
def Rel.bool(hr:Rel P C st a w){r:Nat}{b:Bool}(hb:st.t r=.v (.bool b)):a.tmps.getD r undef=.bool b:=by have⟨h1,h2,M,β,h0,h3,I⟩:=hr;have:=h3 r;simp_all[hb,Rep]
def Rel.tuple(hr:Rel P C st a w){r:Nat}{vs:Array Value}(hb:st.t r=.v (.tuple vs)):a.tmps.getD r undef=.tuple vs:=by have⟨h1,h2,M,β,h0,h3,I⟩:=hr;have:=h3 r;simp_all[hb,Rep]
def Xi4{full:Array Oper}{o:Oper}{x y:St->Prop}(hr:Rel P C st a w)(h:XaR full o st x y):
 (Region.wanted o (yielded full a.tmps)=true->x st)/\(Region.wanted o (yielded full a.tmps)=false->y st):=by
 unfold XaR at h;split at h
 .rename_i hg;have hw:Region.wanted o (yielded full a.tmps)=true:=by unfold Region.wanted;rw[hg]
  simp_all
 rename_i g want hg;unfold XeC at h;split at h
 .rename_i r hdst;unfold ZW at h;split at h
  .rename_i b hb;have hval:=hr.bool hb;have hy:yielded full a.tmps g=some b:=by
    unfold yielded;rw[hdst];simp only[IR];by_cases hs:r<a.tmps.size
    .have:a.tmps[r]? = some (.bool b):=by simp[hs]at hval;simp[hs,hval]
     rw[this]
    simp[hs,undef]at hval
   have hw:Region.wanted o (yielded full a.tmps)=(some b==some want):=by unfold Region.wanted;rw[hg];simp only;rw[hy]
   rw[hw];have⟨ht,hf⟩:=h;cases b
   .cases want<;>simpa using hf
   cases want<;>simpa using ht
  .rename_i vs hb;have hval:=hr.tuple hb;have hy:yielded full a.tmps g=none:=by
    unfold yielded;rw[hdst];simp only[IR];by_cases hs:r<a.tmps.size
    .have:a.tmps[r]? = some (.tuple vs):=by simp[hs]at hval;simp[hs,hval]
     rw[this]
    have:a.tmps[r]? = none:=by simp;omega
    rw[this]
   have hw:Region.wanted o (yielded full a.tmps)=false:=by unfold Region.wanted;rw[hg];simp only;rw[hy];rfl
   rw[hw];exact⟨λe=>(by cases e),λ_=>h⟩
  exact h.elim
 simp_all
def Yp{R:St->Prop}:∀(n:Nat)(k:List It){st:St}{a:Act}{w:World},Rel P C st a w->run P C R n k st->sem P C (ZR P C R) k none a w
 |0,k,st,a,w,_,h=>by unfold run at h;simp_all
 |n+1,[],st,a,w,hr,h=>by exact⟨st,hr,h⟩
 |n+1,.stop Q::k,st,a,w,hr,h=>by exact⟨st,hr,h⟩
 |n+1,.blk _::k,st,a,w,hr,h=>by exact Yp n k hr h
 |n+1,.ops full []::k,st,a,w,hr,h=>by exact Yp n k hr h
 |n+1,.ops full (o::rest)::k,st,a,w,hr,h=>by
  have⟨hx,hy⟩:=Xi4 hr h;refine wpListIn_step λK hK=>?_;split
  .rename_i hw;exact XdG hr (hx hw) λst2 a2 w2 hr2 h2=>hK _ _ (Yp n (.ops full rest::k) hr2 h2)
  exact⟨λ_ _=>trivial,hK _ _ (Yp n (.ops full rest::k) (hr.bump o.dst) (hy (by simp_all)))⟩
 |n+1,.code .skip::k,st,a,w,hr,h=>by exact wpIn_skip (Yp n k hr h)
 |n+1,.code (.seq x y)::k,st,a,w,hr,h=>by refine wpIn_seq ?_;refine wpIn_mono (Yp n (.code x::.code y::k) hr h) ?_;intro e a' w' hq;cases e<;>exact hq
 |n+1,.code (.cond c x y)::k,st,a,w,hr,h=>by
  unfold run Xbl at h;split at h
  .rename_i b hb;have h2:a.eval c=.bool b:=by obtain⟨h1,h2,M,β,h0,h3,I⟩:=hr;have:=Xcc I h3 c;rw[hb]at this;simp only[Rep]at this;exact this.1
   refine wpIn_cond_split h2 (λe=>?_) (λe=>?_)
   .exact Yp n (.code x::k) hr (h.1 e)
   exact Yp n (.code y::k) hr (h.2 e)
  simp_all
 |n+1,.code (.block id c)::k,st,a,w,hr,h=>by
  refine wpIn_block ?_;refine wpIn_mono (Yp n (.code c::.blk id::k) hr h) ?_;intro e a' w' hq;cases e with
  |exit i=>
   simp only[Exit.inBlock];have hq:sem P C (ZR P C R) (.blk id::k) (some i) a' w':=hq;unfold sem at hq;split at hq<;>rename_i e
   .rw[Wq e];exact hq
   rw[Wn e];exact hq
  |_=>exact hq
 |n+1,.code (.scope c)::k,st,a,w,hr,h=>by refine XgX (wpIn_mono (Yp n (.code c::k) hr h) ?_);intro e a' w' hq;cases e<;>exact hq
 |n+1,.code (.label l)::k,st,a,w,hr,h=>by exact wpIn_label (Yp n k hr h)
 |n+1,.code (.exit id)::k,st,a,w,hr,h=>by
  unfold run Xh2 at h;split at h
  .rename_i k' hk;exact wpIn_exit (Ve hk (Yp n k' hr h))
  simp_all
 |n+1,.code .ret::k,st,a,w,hr,h=>by exact wpIn_ret ⟨st,hr,h⟩
 |n+1,.code (.loop c)::k,st,a,w,hr,h=>by exact h a w hr
 |n+1,.code (.region id ops false)::k,st,a,w,hr,h=>by exact wpIn_region_list (Yp n (.ops ops ops.toList::k) hr h)
 |n+1,.code (.region id ops true)::k,st,a,w,hr,h=>by exact h a w hr
 |n+1,.code (.rangeFunc ..)::k,st,a,w,hr,h=>by unfold run at h;simp_all
 |n+1,.code (.goto ..)::k,st,a,w,hr,h=>by unfold run at h;simp_all
 |n+1,.code (.refuse ..)::k,st,a,w,hr,h=>by unfold run at h;simp_all
def LoopG.of{R:St->Prop}{c:Code}{k:List It}(I:Nat->St->Prop)(m n:Nat)(h0:I n st)(round:∀n st,I n st->run P C R m (.code c::.stop (λst'=>∃n',n'<n/\I n' st')::k) st)(t':Prf c):LoopG P C R c k st t':=by
 intro a w hr;refine XbB (λn a w=>∃st,Rel P C st a w/\I n st) n ⟨st,hr,h0⟩ ?_;rintro n a w ⟨st,hr,hI⟩;refine wpIn_mono (Yp m _ hr (round n st hI)) ?_;intro e a' w' hq;cases e with
 |normal=>have⟨st',hr',n',hn,hI'⟩:=hq;exact⟨n',hn,st',hr',hI'⟩
 |_=>exact hq
def LoopU(P:Program)(C:Cx)(R:St->Prop)(c:Code)(k:List It)(n:Nat)(st:St)[Tag (C,R,c,k,st)](_:Prf c):Prop:=
 ∀a w,Rel P C st a w->Code.roundsIn (fz C.rd) 0 P c (Vc (ZR P C R) (sem P C (ZR P C R) k)) n a w
def LoopU.s{R:St->Prop}{c:Code}{k:List It}{st:St}{n:Nat}(m:Nat)(h:run P C R m (.code c::.stop (λst'=>LoopU P C R c k n st' trivial)::k) st)(t':Prf c):LoopU P C R c k (n+1) st t':=by
 intro a w hr;refine wpIn_mono (Yp m _ hr h) ?_;intro e a' w' hq;cases e with
 |normal=>have⟨st',hr',hI⟩:=hq;exact hI a' w' hr'
 |_=>exact hq
end
variable {P:Program}
mutual
def shut(s:Heap)(fr:List Nat):D->Option (Prop×D×List Nat×List Nat)
 |.osl id ver z off len=>match s id with
  |some (ver',.arr false E z' es fz)=>if ver=ver'/\z=z' then
   (if id∈fr then some (off=0/\fz=0/\len<=es.length,.fsl E z (es.take len),[],[id])
    else some (off+len<=es.length,.isl E z ((es.drop off).take len),[id],[]))else none
  |_=>none
 |.omp id ver=>match s id with
  |some (ver',.mp k es)=>if ver=ver'/\id∈fr then some (True,.fmp k (es.map (·.1)) (es.map (·.2)),[],[id])else none
  |_=>none
 |.agg cs=>match Xbo s fr cs with
  |some (c,ds,l,m)=>some (c,.agg ds,l,m)
  |none=>none
 |.tup cs=>match Xbo s fr cs with
  |some (c,ds,l,m)=>some (c,.tup ds,l,m)
  |none=>none
 |.clo fn a b=>match Xbo s fr a,Xbo s fr b with
  |some (c,a',l,m),some (c',b',l',m')=>some (c/\c',.clo fn a' b',l++l',m++m')
  |_,_=>none
 |.ifc t d=>match shut s fr d with
  |some (c,e,l,m)=>some (c,.ifc t e,l,m)
  |none=>none
 |.any=>some (True,.any,[],[])
 |.v x=>some (True,.v x,[],[])
 |.nsl=>some (True,.nsl,[],[])
 |.isl E z es=>some (True,.isl E z es,[],[])
 |.ipt z cs c=>some (True,.ipt z cs c,[],[])
 |_=>none
def Xbo(s:Heap)(fr:List Nat):List D->Option (Prop×List D×List Nat×List Nat)
 |[]=>some (True,[],[],[])
 |d::ds=>match shut s fr d,Xbo s fr ds with
  |some (c,e,l,m),some (c',es,l',m')=>some (c/\c',e::es,l++l',m++m')
  |_,_=>none
end
def Blk(β:Loc)(s:Heap)(m:List Nat)(bl:List (Option (Nat×Nat))):Prop:=
 ∃f:List (Nat×Nat×Option (Nat×Nat)),f.map (·.1)=m/\f.map (·.2.2)=bl/\∀x∈f,β x.1 x.2.1=some x.2.2/\∃ob,s x.1=some (x.2.1,ob)
section
variable {C:Cx}{s:Heap}{U:Nat->Prop}{M M':Mem}{β:Loc}{w:World}
def Blk.nil:Blk β s [] []:=⟨[],rfl,rfl,ab⟩
def Blk.append{m m':List Nat}{b b':List (Option (Nat×Nat))}(h:Blk β s m b)(k:Blk β s m' b'):Blk β s (m++m') (b++b'):=by have⟨f,h1,h2,h3⟩:=h;have⟨g,k1,k2,k3⟩:=k;refine⟨f++g,by simp[h1,k1],by simp[h2,k2],λx hx=>?_⟩;grind
def Oj{x:Option (Nat×Nat)}{E z:Nat}{es:List (List D)}(h:ObRep P M β w x (.arr false E z es 0))(n:Nat):ObRep P M β w x (.arr false E z (es.take n) 0):=by
 cases x with
 |none=>simp_all[ObRep]
 |some bc=>
  have⟨cs,T,h1,h2,h3,h4,h5,h6,h7,h8,h9,h10⟩:=h;have hl:(es.take n).length<=es.length:=by simp;omega
  refine⟨cs,T,h1,h2,λe he=>h3 e (WW he),aa,aa,Um (WZ _ hl) h6,aa,h8,h9,λi d hd=>h10 i d ?_⟩;have⟨l,hl2⟩:=List.take_prefix n es;grind
mutual
def shut_rep{lz:List Nat}(I:UP P C s U M β w)(hM:MLe M M')(I':UP P C (frz s lz) U M' β w)(hF:Frz s M' β w lz){fr:List Nat}(hfr:∀i∈fr,i∉lz):
 ∀{d r:D}{c:Prop}{l m:List Nat},shut s fr d=some (c,r,l,m)->c->(∀i∈l,i∈lz)->∀{y:Value},Rep P M β d y->∃bl,FrRep P M' w C.w0.heap.size r y bl/\Blk β s m bl
 |.osl id ver z off len,r,c,l,m,h,hc,hl,y,hr=>by
  unfold shut at h;split at h
  .rename_i ver' E z' es fz hs;split at h
   .rename_i e;have⟨rfl,rfl⟩:=e;split at h
    .rename_i hid;obtain⟨rfl,rfl,rfl,rfl⟩:=h;obtain⟨rfl,rfl,hle⟩:=hc;have hsf:frz s lz id=some (ver,.arr false E z es 0):=by unfold frz;rw[Wn (hfr id hid)];exact hs
     have⟨x,hx,hob⟩:=I'.obs id ver _ hsf;have hob:=Oj hob len;rcases hr with⟨h1,_,h2,a,rfl⟩|⟨b,cb,o,cap,h1,rfl,h2,h3,h4⟩
     .rw[h1]at hx;refine⟨[none],?_,[(id,ver,none)],rfl,rfl,?_⟩
      .simp only[FrRep];exact .inl ⟨trivial,WJ ah,a,rfl⟩
      intro x hx;simp at hx;subst hx;exact⟨h1,_,hs⟩
     rw[h1]at hx;obtain rfl:some (b,cb)=x:=by simpa using hx
     refine⟨[some (b,cb)],?_,[(id,ver,some (b,cb))],rfl,rfl,?_⟩
     .refine .inr ⟨b,cb,o,rfl,?_,?_,?_,?_⟩
      .rcases I.own id ver _ b cb hs h1 with h|h
       .exact h
       simp[Ob.bx]at h
      .rw[show cap=cb by omega,Wj,Nat.min_eq_left hle]
      .rcases h4 with h|h
       .left;simpa using h
       omega
      exact hob
     intro x hx;simp at hx;subst hx;exact⟨h1,_,hs⟩
    obtain⟨rfl,rfl,rfl,rfl⟩:=h;have:=snap_rep (d:=.osl id ver z off len) (d':=.isl E z ((es.drop off).take len)) (c:=off+len<=es.length) (l:=[id]) I hM (by simp[snap,hs]) hc (λi hi=>hF i (hl i hi)) hr;exact⟨[],by simp only[FrRep];exact⟨trivial,this⟩,Blk.nil⟩
   cases h
  simp_all
 |.agg cs,r,c,l,m,h,hc,hl,y,hr=>by
  unfold shut at h;split at h
  .rename_i he;obtain⟨rfl,rfl,rfl,rfl⟩:=h;simp only[Rep]at hr;obtain⟨vs,rfl,hr⟩:=hr;obtain⟨bl,h1,h2⟩:=Jp I hM I' hF hfr he hc hl hr;exact⟨bl,by simp only[FrRep];exact⟨vs,rfl,h1⟩,h2⟩
  simp_all
 |.tup cs,r,c,l,m,h,hc,hl,y,hr=>by
  unfold shut at h;split at h
  .rename_i he;simp only[Ws,Wx]at h;obtain⟨rfl,rfl,rfl,rfl⟩:=h;simp only[Rep]at hr;obtain⟨vs,rfl,hr⟩:=hr;obtain⟨bl,h1,h2⟩:=Jp I hM I' hF hfr he hc hl hr;exact⟨bl,by simp only[FrRep];exact⟨vs,rfl,h1⟩,h2⟩
  simp_all
 |.clo fn a b,r,c,l,m,h,hc,hl,y,hr=>by
  unfold shut at h;split at h
  .rename_i he hf;simp only[Ws,Wx]at h;obtain⟨rfl,rfl,rfl,rfl⟩:=h;simp only[Rep]at hr;obtain⟨va,vb,rfl,hr1,hr2⟩:=hr;obtain⟨bl,h1,h2⟩:=Jp I hM I' hF hfr he hc.1 (λi hi=>hl i (W0 _ hi)) hr1;obtain⟨bl',h3,h4⟩:=Jp I hM I' hF hfr hf hc.2 (λi hi=>hl i (Ub _ hi)) hr2;exact⟨bl++bl',by simp only[FrRep];exact⟨va,vb,rfl,bl,bl',rfl,h1,h3⟩,h2.append h4⟩
  simp_all
 |.ifc t d,r,c,l,m,h,hc,hl,y,hr=>by
  unfold shut at h;split at h
  .rename_i he;simp only[Ws,Wx]at h;obtain⟨rfl,rfl,rfl,rfl⟩:=h;simp only[Rep]at hr;obtain⟨x,rfl,hr⟩:=hr;obtain⟨bl,h1,h2⟩:=shut_rep I hM I' hF hfr he hc hl hr;exact⟨bl,by simp only[FrRep];exact⟨x,rfl,h1⟩,h2⟩
  simp_all
 |.any,r,c,l,m,h,hc,hl,y,hr=>by simp only[shut,Ws,Wx]at h;obtain⟨rfl,rfl,rfl,rfl⟩:=h;exact⟨[],by rfl,Blk.nil⟩
 |.v x,r,c,l,m,h,hc,hl,y,hr=>by simp only[shut,Ws,Wx]at h;obtain⟨rfl,rfl,rfl,rfl⟩:=h;exact⟨[],by simp_all[FrRep,Rep],Blk.nil⟩
 |.nsl,r,c,l,m,h,hc,hl,y,hr=>by simp only[shut,Ws,Wx]at h;obtain⟨rfl,rfl,rfl,rfl⟩:=h;exact⟨[],by simp_all[FrRep,Rep],Blk.nil⟩
 |.isl E z es,r,c,l,m,h,hc,hl,y,hr=>by simp only[shut,Ws,Wx]at h;obtain⟨rfl,rfl,rfl,rfl⟩:=h;have:=hr.mono hM (BLe.refl _);exact⟨[],by simp_all[FrRep,Rep],Blk.nil⟩
 |.ipt z cs k,r,c,l,m,h,hc,hl,y,hr=>by simp only[shut,Ws,Wx]at h;obtain⟨rfl,rfl,rfl,rfl⟩:=h;have:=hr.mono hM (BLe.refl _);exact⟨[],by simp_all[FrRep,Rep],Blk.nil⟩
 |.ept ..,r,c,l,m,h,hc,hl,y,hr=>by simp_all[shut]
 |.fsl ..,r,c,l,m,h,hc,hl,y,hr=>by simp_all[shut]
 |.fmp ..,r,c,l,m,h,hc,hl,y,hr=>by simp_all[shut]
 |.omp id ver,r,c,l,m,h,hc,hl,y,hr=>by
  unfold shut at h;split at h
  .rename_i ver' k es hs;split at h
   .rename_i hcond;obtain⟨rfl,hid⟩:=hcond;simp only[Ws,Wx]at h;obtain⟨rfl,rfl,rfl,rfl⟩:=h;have hsf:frz s lz id=some (ver,.mp k es):=by unfold frz;rw[Wn (hfr id hid)];exact hs
    obtain⟨x,hx,hob⟩:=I'.obs id ver _ hsf;simp only[Rep]at hr;obtain⟨b,cb,h1,rfl⟩:=hr;rw[h1]at hx;obtain rfl:some (b,cb)=x:=by simpa using hx
    obtain rfl:cb=0:=hob.1;refine⟨[some (b,0)],?_,[(id,ver,some (b,0))],rfl,rfl,?_⟩
    .simp only[FrRep];refine⟨b,rfl,?_,rfl,ab,?_⟩
     .rcases I.own id ver _ b 0 hs h1 with h|h
      .exact h
      simp[Ob.bx]at h
     rw[show(es.map (·.1)).zip (es.map (·.2))=es by rw[List.zip_map'];simp];exact hob
    intro x hx;simp at hx;subst hx;exact⟨h1,_,hs⟩
   cases h
  simp_all
def Jp{lz:List Nat}(I:UP P C s U M β w)(hM:MLe M M')(I':UP P C (frz s lz) U M' β w)(hF:Frz s M' β w lz){fr:List Nat}(hfr:∀i∈fr,i∉lz):
 ∀{ds rs:List D}{c:Prop}{l m:List Nat},Xbo s fr ds=some (c,rs,l,m)->c->(∀i∈l,i∈lz)->∀{ys:List Value},RepL P M β ds ys->∃bl,FrRepL P M' w C.w0.heap.size rs ys bl/\Blk β s m bl
 |[],rs,c,l,m,h,hc,hl,ys,hr=>by obtain⟨rfl,rfl,rfl,rfl⟩:=h;simp only[RepL]at hr;exact⟨[],by simp[FrRepL,hr],Blk.nil⟩
 |d::ds,rs,c,l,m,h,hc,hl,ys,hr=>by
  unfold Xbo at h;split at h
  .rename_i he hf;obtain⟨rfl,rfl,rfl,rfl⟩:=h;obtain⟨x,xs,rfl,hr1,hr2⟩:=hr;have⟨bl,h1,h2⟩:=shut_rep I hM I' hF hfr he hc.1 (λi hi=>hl i (W0 _ hi)) hr1;have⟨bl',h3,h4⟩:=Jp I hM I' hF hfr hf hc.2 (λi hi=>hl i (Ub _ hi)) hr2;exact⟨bl++bl',by exact⟨x,xs,bl,bl',rfl,rfl,h1,h3⟩,h2.append h4⟩
  simp_all
end
def Blk.nodup(I:UP P C s U M β w){m:List Nat}{bl:List (Option (Nat×Nat))}(h:Blk β s m bl)(hm:m.Nodup):(XY bl).Nodup:=by
 obtain⟨f,rfl,rfl,hf⟩:=h;induction f with
 |nil=>assumption
 |cons x f ih=>
  simp at hm;have ih:=ih hm.2 λy hy=>hf y (Ul _ hy);have⟨i,v,o⟩:=x;cases o with
  |none=>assumption
  |some bc=>
   have⟨b,cb⟩:=bc;have e:XY (((i,v,some (b,cb))::f).map (·.2.2))=b::XY (f.map (·.2.2)):=by simp[XY]
   rw[e,List.nodup_cons];refine⟨λhb=>?_,ih⟩;simp only[XY,List.mem_filterMap,UX]at hb;obtain⟨o',⟨y,hy,rfl⟩,hb⟩:=hb;have⟨j,v',o'⟩:=y;simp only[Ue]at hb;obtain⟨⟨b',cb'⟩,rfl,rfl⟩:=hb;have⟨h1,ob,h2⟩:=hf (i,v,some (b',cb)) ab;have⟨h3,ob',h4⟩:=hf (j,v',some (b',cb')) (Ul _ hy);have:=I.inj i v ob j v' ob' b' cb cb' h2 h4 h1 h3;simp_all
mutual
def fitsR:D->D->Prop
 |.nsl,.isl _ _ es=>es=[]
 |.nsl,.fsl _ _ es=>es=[]
 |.agg cs,.agg ds=>JK cs ds
 |.tup cs,.tup ds=>JK cs ds
 |.ifc t d,.ifc t' e=>t=t'/\fitsR d e
 |d,e=>d=e
def JK:List D->List D->Prop
 |[],[]=>True
 |d::ds,e::es=>fitsR d e/\JK ds es
 |_,_=>False
end
def RetG(r:D)(obs:List Ob)(R':D->List Ob->Prop):Prop:=∃r',fitsR r r'/\R' r' obs
mutual
def fitsR_refl:∀d:D,fitsR d d
 |.agg cs=>by exact Vf cs
 |.tup cs=>by exact Vf cs
 |.ifc t d=>by simp only[fitsR];exact⟨trivial,fitsR_refl d⟩
 |.nsl=>by rfl
 |.any=>by rfl
 |.v _=>by rfl
 |.isl ..=>by rfl
 |.osl ..=>by rfl
 |.ept ..=>by rfl
 |.ipt ..=>by rfl
 |.clo ..=>by rfl
 |.fsl ..=>by rfl
 |.fmp ..=>by rfl
 |.omp ..=>by rfl
def Vf:∀ds:List D,JK ds ds
 |[]=>by simp[JK]
 |d::ds=>by exact⟨fitsR_refl d,Vf ds⟩
end
def RetG.same{r:D}{obs:List Ob}{R':D->List Ob->Prop}(h:R' r obs):RetG r obs R':=⟨r,fitsR_refl r,h⟩
mutual
def fitsR_rep{M:Mem}{w:World}{B:Nat}:∀{d e:D}{y:Value}{l:List (Option (Nat×Nat))},fitsR d e->FrRep P M w B d y l->∃l',FrRep P M w B e y l'/\XY l'=XY l
 |.nsl,e,y,l,h,hr=>by
  cases e with
  |isl E z es=>grind[fitsR,FrRep,Rep,Xp]
  |fsl E z es=>subst h;obtain⟨rfl,a,rfl⟩:=hr;refine⟨[none],?_,rfl⟩;simp[FrRep]
  |nsl=>grind
  |_=>simp[fitsR]at h
 |.agg cs,e,y,l,h,hr=>by
  cases e with
  |agg ds=>simp only[FrRep]at hr⊢;obtain⟨vs,rfl,hr⟩:=hr;have⟨l',h1,h2⟩:=V2 h hr;grind
  |_=>simp[fitsR]at h
 |.tup cs,e,y,l,h,hr=>by
  cases e with
  |tup ds=>simp only[FrRep]at hr⊢;obtain⟨vs,rfl,hr⟩:=hr;have⟨l',h1,h2⟩:=V2 h hr;grind
  |_=>simp[fitsR]at h
 |.ifc t d,e,y,l,h,hr=>by
  cases e with
  |ifc t' e=>have⟨rfl,h⟩:=h;simp only[FrRep]at hr⊢;obtain⟨x,rfl,hr⟩:=hr;have⟨l',h1,h2⟩:=fitsR_rep h hr;grind
  |_=>simp[fitsR]at h
 |.any,e,y,l,h,hr=>by grind[fitsR]
 |.v x,e,y,l,h,hr=>by grind[fitsR]
 |.isl a b c,e,y,l,h,hr=>by grind[fitsR]
 |.ipt a b c,e,y,l,h,hr=>by grind[fitsR]
 |.fsl a b c,e,y,l,h,hr=>by grind[fitsR]
 |.fmp a b c,e,y,l,h,hr=>by grind[fitsR]
 |.clo a b c,e,y,l,h,hr=>by grind[fitsR]
 |.osl ..,e,y,l,h,hr=>by simp_all[FrRep]
 |.ept ..,e,y,l,h,hr=>by simp_all[FrRep]
 |.omp ..,e,y,l,h,hr=>by simp_all[FrRep]
def V2{M:Mem}{w:World}{B:Nat}:∀{ds es:List D}{ys:List Value}{l:List (Option (Nat×Nat))},JK ds es->FrRepL P M w B ds ys l->∃l',FrRepL P M w B es ys l'/\XY l'=XY l
 |[],es,ys,l,h,hr=>by grind[JK]
 |d::ds,es,ys,l,h,hr=>by
  cases es with
  |nil=>simp_all[JK]
  |cons e es=>obtain⟨x,xs,l1,l2,rfl,rfl,h1,h2⟩:=hr;have⟨l1',k1,k2⟩:=fitsR_rep h.1 h1;have⟨l2',k3,k4⟩:=V2 h.2 h2;exact⟨l1'++l2',by grind[FrRepL],by simp[X5,k2,k4]⟩
end
def Xal:Nat->Nat->List Nat
 |_,0=>[]
 |k,n+1=>(LB+k)::Xal (k+1) n
def VC:∀(n k j:Nat),j<n->(Xal k n)[j]? = some (LB+(k+j))
 |0,_,_,h=>by omega
 |n+1,k,0,_=>by rfl
 |n+1,k,j+1,h=>by simp only[Xal,List.getElem?_cons_succ];rw[VC n (k+1) j aa];grind
def Kx:∀(n k:Nat),(Xal k n).length=n
 |0,_=>rfl
 |n+1,k=>by simp[Xal,Kx n (k+1)]
def Xni(s:Heap):List Nat->Prop
 |[]=>True
 |i::l=>(s i).map (·.1)=some 0/\Xni s l
def XfC{s:Heap}:∀{l:List Nat}{j i:Nat},Xni s l->l[j]? = some i->(s i).map (·.1)=some 0
 |[],j,i,_,h=>by grind
 |x::l,0,i,hv,h=>by simp at h;subst h;exact hv.1
 |x::l,j+1,i,hv,h=>XfC hv.2 (by simpa using h)
def Xki(st:St)(P:Program):ResultVar->Option (Prop×D)
 |.tmp t=>some (True,st.t t)
 |.cell a T=>match Xo P T,Xen st.s (st.t a)with
  |some ty,some (c,cs,o,z)=>if o+ty.size<=z/\(ty.isAgg=true\/ty.size=1)then some (c,KS ty.isAgg ((cs.drop o).take ty.size))else none
  |_,_=>none
def XfD(st:St)(P:Program):List ResultVar->Option (Prop×List D)
 |[]=>some (True,[])
 |x::l=>match Xki st P x,XfD st P l with
  |some (c,d),some (c',ds)=>some (c/\c',d::ds)
  |_,_=>none
def Xg0:List D->D
 |[d]=>d
 |ds=>.tup ds
def Jq(P:Program)(results:List ResultVar)(fr:List Nat)(nl:Nat)(R':D->List Ob->Prop)(st:St):Prop:=
 match XfD st P results with
 |some (c,ds)=>match shut st.s fr (Xg0 ds),KV st.s (Xal 0 nl)with
  |some (c1,r,fz1,fh),some (c2,obs,fz2)=>c/\c1/\c2/\Xni st.s (Xal 0 nl)/\fh.Nodup/\(∀i∈fr,i∉fz1++fz2)/\RetG r obs R'
  |_,_=>False
 |none=>False
end
variable {P:Program}
section
variable {C:Cx}{s:Heap}{U:Nat->Prop}{M:Mem}{β:Loc}{w:World}
def Xch(tmps:Array Value):ResultVar->Sem Value
 |.tmp t=>pure (tmps.getD t undef)
 |.cell a t=>do loadVar t (←asAddr (tmps.getD a undef))
def Xnj{st:St}(I:UP P C st.s U M β w){tmps:Array Value}(h3:∀x,Rep P M β (st.t x) (tmps.getD x undef)){x:ResultVar}{c:Prop}{d:D}(h:Xki st P x=some (c,d))(hc:c):
 ∃v,(Xch tmps x).run P w=.ok v w/\Rep P M β d v:=by
 cases x with
 |tmp t=>obtain⟨rfl,rfl⟩:=h;exact⟨_,rfl,h3 t⟩
 |cell a T=>
  simp only[Xki]at h;split at h
  .rename_i hT hl;split at h
   .rename_i hcond;obtain⟨rfl,rfl⟩:=h;have⟨b,o0,hy,hlen,hcell⟩:=XhS I hl hc (h3 a);obtain⟨v,hv,hrv⟩:=Xb8 hT w M β b o0 _ _ _ hlen hcond.1 hcell (λhf=>by rcases hcond.2 with h|h;(rw[h]at hf;cases hf);exact h);refine⟨v,?_,hrv⟩;unfold Xch;simp only;rw[hy];simp[asAddr,hv]
   cases h
  simp_all
def Xh3{st:St}{f:ResultVar->Sem Value}(hf:∀x c d,Xki st P x=some (c,d)->c->∃v,(f x).run P w=.ok v w/\Rep P M β d v):∀{l:List ResultVar}{c:Prop}{ds:List D},XfD st P l=some (c,ds)->c ->
 ∃vs,(l.mapM f).run P w=.ok vs w/\RepL P M β ds vs
 |[],c,ds,h,hc=>by simp_all[XfD,Ws,Wx,RepL]
 |x::l,c,ds,h,hc=>by
  unfold XfD at h;split at h
  .rename_i he hl;obtain⟨rfl,rfl⟩:=h;have⟨v,h1,h2⟩:=hf _ _ _ he hc.1;have⟨vs,h4,h5⟩:=Xh3 hf hl hc.2;refine⟨v::vs,?_,by exact⟨_,_,rfl,h2,h5⟩⟩;simp only[List.mapM_cons,Sem.run_bind,Result.andThen_ok,Sem.run_pure,h4,h1]
  simp_all
def JL{st:St}(I:UP P C st.s U M β w){tmps:Array Value}(h3:∀x,Rep P M β (st.t x) (tmps.getD x undef)){fn:Func}{l:List ResultVar}(hl:fn.results=⟨l⟩){c:Prop}{ds:List D}(h:XfD st P l=some (c,ds))(hc:c):
 ∃v,(results fn tmps).run P w=.ok v w/\Rep P M β (Xg0 ds) v:=by
 have⟨vs,h1,h2⟩:=Xh3 (f:=Xch tmps) (λx c d hx hc=>Xnj I h3 hx hc) h hc;have e0:(fn.results.mapM (Xch tmps)).run P w=.ok vs.toArray w:=by rw[hl,Array.mapM_eq_mapM_toList];simp only[Sem.run_map,h1,Result.andThen_ok]
 have e:(results fn tmps).run P w=.ok (if h:vs.toArray.size=1 then vs.toArray[0]else .tuple vs.toArray) w:=by show((fn.results.mapM (Xch tmps)) >>= λvs=>pure (if h:vs.size=1 then vs[0]else .tuple vs):Sem Value).run P w=_;simp only[Sem.run_bind,e0,Result.andThen_ok,Sem.run_pure]
 refine⟨_,e,?_⟩;have hlen:=h2.length;match ds,vs,h2,hlen with
 |[d],[v],h2,_=>simp_all[RepL,Xg0]
 |[],[],h2,_=>simp[Xg0,Rep,RepL]
 |d::d'::ds,v::v'::vs,h2,_=>
  have:¬(v::v'::vs).toArray.size=1:=by simp
  simp_all[dif_neg,this,Xg0,Rep]
def XdH{s:Heap}:∀{ids:List Nat}{r},KV s ids=some r->∀id∈ids,∃v E z cs fz,s id=some (v,.arr true E z [cs] fz)
 |[],r,h,id,hid=>by simp_all
 |i::ids,r,h,id,hid=>by
  unfold KV at h;split at h
  .rename_i v E z cs fz hs;split at h
   .rename_i h1 h2;rcases UY.1 hid with rfl|hid
    .exact⟨_,_,_,_,_,hs⟩
    exact XdH h2 id hid
   cases h
  simp_all
def st0(args:List D)(lent:List Ob)(n:Nat):St:=⟨λi=>(args[i]?).getD (.v undef),KU lent,n,1⟩
def XaU{G:Nat->Option (List D)}{lb:List (Nat×Nat)}{lent:List Ob}(hM:MemOK M w)(hG:∀g cs,G g=some cs->RepC P M cs g 0)(hlen:lb.length=lent.length)(hnd:(lb.map (·.1)).Nodup)(hob:∀(k:Nat)ob x,lent[k]? = some ob->lb[k]? = some x->ObRep P M Yu w (some x) ob/\ob.bx=true):UP P ⟨G,M,w,lb.map (·.1),Z3 lb,M,0,none,[]⟩ (KU lent) (·<1) M (Z3 lb) w:=by
 have hsplit:∀id v ob,KU lent id=some (v,ob)->LB<=id/\v=0/\lent[id-LB]? = some ob:=by
  intro id v ob h;unfold KU at h;split at h
  .rename_i hle;simp only[Ue,Wx]at h;obtain⟨o,h1,rfl,rfl⟩:=h;exact⟨hle,rfl,h1⟩
  cases h
 have hloc:∀id v x,Z3 lb id v=some x->v=0/\LB<=id/\∃y,lb[id-LB]? = some y/\x=some y:=by
  intro id v x h;unfold Z3 at h;split at h
  .rename_i hle;simp only[Ue]at h;obtain⟨o,h1,rfl⟩:=h;exact⟨hle.1,hle.2,o,h1,rfl⟩
  cases h
 constructor
 .exact hM
 .intro id v x h;obtain⟨rfl,_⟩:=hloc id v x h;exact Nat.zero_lt_one
 .intro id v ob h;obtain⟨h1,rfl,h2⟩:=hsplit id v ob h;have hlt:id-LB<lb.length:=by
   rw[hlen];rcases Uq (id-LB) lent.length with h'|h'
   .exact h'
   simp[WY h']at h2
  refine⟨some lb[id-LB],?_,?_⟩
  .unfold Z3;rw[Wq ⟨rfl,h1⟩];simp[hlt]
  obtain⟨g1,_⟩:=hob _ ob lb[id-LB] h2 (Wc hlt);exact g1.mono (MLe.refl _) (BLe.zero _) (λ_ _ _=>rfl) (λ_ _ _ _=>rfl)
 .intro id v ob b cb h hb;have⟨h1,rfl,h2⟩:=hsplit id v ob h;have⟨_,_,y,hy,e⟩:=hloc _ _ _ hb;simp at e;subst e;exact .inr ⟨UX.2 ⟨_,Ui hy,rfl⟩,(hob _ ob _ h2 hy).2⟩
 .intro id v ob id' v' ob' b cb cb' h h' hb hb';have⟨h1,rfl,h2⟩:=hsplit id v ob h;have⟨h1',rfl,h2'⟩:=hsplit id' v' ob' h';have⟨_,_,y,hy,e⟩:=hloc _ _ _ hb;have⟨_,_,y',hy',e'⟩:=hloc _ _ _ hb';simp at e e';subst e;subst e';have hn:=UI.1 (List.nodup_iff_pairwise_ne.1 hnd);have hlt:id-LB<lb.length:=by
   rcases Uq (id-LB) lb.length with h'|h'
   .exact h'
   simp[WY h']at hy
  have hlt':id'-LB<lb.length:=by
   rcases Uq (id'-LB) lb.length with h'|h'
   .exact h'
   simp[WY h']at hy'
  have key:∀i j,i<j->∀(hi:i<lb.length)(hj:j<lb.length),∀c c',lb[i]? = some (b,c)->lb[j]? = some (b,c')->False:=by intro i j hij hi hj c c' e e';rw[Wc hi]at e;rw[Wc hj]at e';simp only[Ws]at e e';exact hn i j (by simpa using hi) (by simpa using hj) hij (by simp[e,e'])
  rcases Nat.lt_trichotomy (id-LB) (id'-LB)with h|h|h
  .exact(key _ _ h hlt hlt' _ _ hy hy').elim
  .rw[←Nat.sub_add_cancel h1,←Nat.sub_add_cancel h1',h]
  exact(key _ _ h hlt' hlt _ _ hy' hy).elim
 .exact Kp.refl _ _
 .intro b o _;rfl
 .exact MLe.refl _
 omega
def KM{C:Cx}{fn:Func}{args:List D}{vs:List Value}{nt k:Nat}{s:Heap}{M:Mem}{β:Loc}(hd:C.df=[])(hb:BLe C.b0 β)(hvs:RepL P M β args vs)(hnt:fn.ntmps=nt)(hargs:args.length<=nt)(I:UP P C s (·<k) M β w):
 Rel P C ⟨λi=>(args[i]?).getD (.v undef),s,nt,k⟩ {tmps:=(⟨vs⟩:Array Value)++Array.replicate (fn.ntmps-(⟨vs⟩:Array Value).size) undef,defers:=[]} w:=by
 have hvl:=hvs.length;refine⟨hd.symm,by simp_all,M,β,hb,λi=>?_,I⟩;show Rep P M β ((args[i]?).getD (.v undef)) (((⟨vs⟩:Array Value)++Array.replicate (fn.ntmps-(⟨vs⟩:Array Value).size) undef).getD i undef);rcases Uq i args.length with hi|hi
 .have⟨x,hx,hr⟩:=hvs.get i args[i] (Wc hi);have:((⟨vs⟩:Array Value)++Array.replicate (fn.ntmps-(⟨vs⟩:Array Value).size) undef).getD i undef=x:=by have hlt:i<vs.length:=aa;rw[Wc hlt]at hx;simp only[Ws]at hx;simp[Array.getElem?_append,hlt,hx]
  simp_all
 have:((⟨vs⟩:Array Value)++Array.replicate (fn.ntmps-(⟨vs⟩:Array Value).size) undef).getD i undef=undef:=by have hlt:¬i<vs.length:=aa;simp only[Array.getD_eq_getD_getElem?,Array.getElem?_append];simp only[List.size_toArray,hlt,if_false];rw[Array.getElem?_replicate];split<;>rfl
 simp_all[this,Rep,XaS]
def Xam{C:Cx}{fn:Func}{rs:List ResultVar}{fr:List Nat}{lent:List Ob}{lb:List (Nat×Nat)}{R':D->List Ob->Prop}(hlb:C.lb=lb.map (·.1))(hb0:BLe (Z3 lb) C.b0)(hlen:lb.length=lent.length)(hrs:fn.results=⟨rs⟩):
 ∀a w',ZR P C (Jq P rs fr lent.length R') a w'->∃v,(results fn a.tmps).run P w'=.ok v w'/\Xnf P C.M0 C.w0 lb R' (.returned v) w':=by
 rintro a w' ⟨st,⟨h1,h2,M',β,h0,h3,I⟩,hret⟩;unfold Jq at hret;split at hret
 .rename_i c ds hres;split at hret
  .rename_i c1 r fz1 fh c2 obs fz2 hsh hle;have⟨hc,hc1,hc2,hver,hfh,hdis,hR⟩:=hret;have⟨v,hv,hrv⟩:=JL I h3 hrs hres hc;have⟨M2,I2,hM2,hF⟩:=I.freeze (fz1++fz2);have⟨bl,hfr,hbl⟩:=shut_rep I hM2 I2 hF hdis hsh hc1 (λi hi=>W0 _ hi) hrv;have hL:XeA st.s β (Xal 0 lent.length) lb:=by
    intro j id hj;have hjl:j<lent.length:=by
     rcases Uq j lent.length with h'|h'
     .exact h'
     rw[WY (by rw[Kx];exact h')]at hj;cases hj
    rw[VC _ _ _ hjl]at hj;simp only[Ws,Uy]at hj;subst hj;have hv0:=XfC hver (VC lent.length 0 j hjl);rw[Uy]at hv0;simp only[Ue]at hv0;obtain⟨⟨v',ob⟩,hs,rfl⟩:=hv0;have hβ:β (LB+j) 0=some (some (lb[j]'aa)):=by refine h0 _ _ _ (hb0 _ _ _ ?_);show Z3 lb (LB+j) 0=_;unfold Z3;rw[Wq ⟨rfl,Nat.le_add_right _ _⟩];have:LB+j-LB=j:=Ix ..;rw[this];rw[Wc aa];rfl
    have hbox:∃E z cs fz,ob=.arr true E z [cs] fz:=by have hmem:=XdH hle _ (Ui (VC lent.length 0 j hjl));rw[Uy]at hmem;obtain⟨v,E,z,cs,fz,hs'⟩:=hmem;rw[hs]at hs';simp only[Ws,Wx]at hs';exact⟨E,z,cs,fz,hs'.2⟩
    obtain⟨E,z,cs,fz,rfl⟩:=hbox;exact⟨0,E,z,cs,fz,lb[j]'aa,hs,Wc aa,hβ⟩
   have⟨g1,g2⟩:=XaO I hM2 I2 hF hle hc2 (λx hx=>Ub _ hx) hL (by rw[Kx,hlen]);have⟨r',hrr,hR⟩:=hR;have⟨bl',hfr',hbb⟩:=fitsR_rep hrr hfr;refine⟨v,hv,v,r',obs,M2,bl',rfl,hR,hlb▸I.keep,I2.mem,λb o hb=>?_,?_,g2,hfr',hbb▸hbl.nodup I hfh⟩
   .exact I2.old b o hb
   rw[g1,Kx,hlen]
  exact hret.elim
 simp_all
def Xdt{G:Nat->Option (List D)}{f:FuncId}{fn:Func}{body:Code}{rs:List ResultVar}{args:List D}{lent:List Ob}{R':D->List Ob->Prop}(fr:List Nat)(nt:Nat)(hf:P.funcs[f]? = some fn)(hb:fn.body=some body)(hn:(fn.name== "runtime.NumGoroutine")=false)(hrs:fn.results=⟨rs⟩)(hnt:fn.ntmps=nt)(hargs:args.length<=nt)(h:∀(C:Cx)x,C.G=G->C.lb.length=lent.length->WfL P args->∀a w,Rel P (C.sub 0 x) (st0 args lent nt) a w->sem P (C.sub 0 x) (ZR P (C.sub 0 x) (Jq P rs fr lent.length R')) [.code body] none a w):YM P G f args lent R':=by
 refine⟨⟨fn,hf,by grind,hn⟩,λM w vs lb hM hG hlen hnd hob hvs=>?_⟩;refine calls_of_wp hf hb ?_;have I0:=XaU (G:=G) hM hG hlen hnd hob;have hrel:Rel P ⟨G,M,w,lb.map (·.1),Z3 lb,M,0,none,[]⟩ (st0 args lent nt) _ w:=KM rfl (BLe.refl _) hvs hnt hargs I0;have hrun:=h ⟨G,M,w,lb.map (·.1),Z3 lb,M,0,none,[]⟩ (M,Z3 lb) rfl (by simp_all) hvs.wf _ _ hrel;refine wp_mono ((wpIn_wide (n:=0)).1 hrun) ?_;have fin:∀a w',ZR P ⟨G,M,w,lb.map (·.1),Z3 lb,M,0,none,[]⟩ (Jq P rs fr lent.length R') a w'->a.defers=[]/\∃v,(results fn a.tmps).run P w'=.ok v w'/\Xnf P M w lb R' (.returned v) w':=λa w' h=>⟨by have⟨st,h1,_⟩:=h;exact h1.1,Xam rfl (BLe.refl _) hlen hrs a w' h⟩
 intro e a w' hq;cases e with
 |normal=>exact fin a w' hq
 |ret=>exact fin a w' hq
 |exit id=>assumption
 |_=>exact hq.elim
def Ys{G:Nat->Option (List D)}{f:FuncId}{fn:Func}{body:Code}{rs:List ResultVar}{args:List D}{lent:List Ob}{R':D->List Ob->Prop}(m:Nat)(fr:List Nat)(nt:Nat)(hf:P.funcs[f]? = some fn)(hb:fn.body=some body)(hn:(fn.name== "runtime.NumGoroutine")=false)(hrs:fn.results=⟨rs⟩)(hnt:fn.ntmps=nt)(hargs:args.length<=nt)(h:∀(C:Cx)x,C.G=G->WfL P args->run P (C.sub 0 x) (Jq P rs fr lent.length R') m [.code body] (st0 args lent nt)):YM P G f args lent R':=
 Xdt fr nt hf hb hn hrs hnt hargs λC x hG _ hwf a w hr=>Yp m _ hr (h C x hG hwf)
def stI(args:List D)(s:Heap)(n k:Nat):St:=⟨λi=>(args[i]?).getD (.v undef),s,n,k⟩
def XfE(P:Program)(rs:List ResultVar)(K:D->Heap->Nat->Prop)(st:St):Prop:=match XfD st P rs with
 |some (c,ds)=>c/\K (Xg0 ds) st.s st.k
 |none=>False
def kOf(dst:Option Nat)(st:St)(K:St->Prop):D->Heap->Nat->Prop:=λd s k=>K (nxS st (XO dst st.n) d s st.n k)
def CallX.inl{C:Cx}{f:FuncId}{args:List D}{dst:Option Nat}{st:St}{K:St->Prop}(off:Nat){fn:Func}{rs:List ResultVar}{nt:Nat}(m:Nat)(hk:(P.funcs[f]?,fn.body,fn.name== "runtime.NumGoroutine",fn.results,fn.ntmps,args.length.ble nt)=(some fn,some (fn.body.get!),false,⟨rs⟩,nt,true))(h:∀x,run P (C.sub off x) (XfE P rs (kOf dst st K)) m [.code (fn.body.get!)] (stI args st.s nt st.k))(t:Prf args):CallX P C f args dst st K t:=by
 injection hk with hf hk;injection hk with hb hk;injection hk with hn hk;injection hk with hrs hk;injection hk with hnt hargs;have hargs:=Nat.le_of_ble_eq_true hargs;refine⟨⟨fn,hf,by grind,hn⟩,λM β w vs h0 I hvs=>?_⟩;refine calls_of_wp hf hb ?_;have I0:UP P (C.sub off (M,β)) st.s (·<st.k) M β w:=⟨I.mem,I.used,I.obs,I.own,I.inj,I.keep,I.old,MLe.refl _,λg cs hg=>RepC.mono I.le (I.glob g cs hg)⟩
 have hrel:Rel P (C.sub off (M,β)) (stI args st.s nt st.k) _ w:=KM rfl (BLe.refl _) hvs hnt hargs I0;have hrun:=Yp m _ hrel (h (M,β));refine wp_mono ((wpIn_wide (n:=0)).1 hrun) ?_;have fin:∀a w',ZR P (C.sub off (M,β)) (XfE P rs (kOf dst st K)) a w'->a.defers=[]/\∃v,(results fn a.tmps).run P w'=.ok v w' /\
  (λe w'=>∃v d s' k' M' β',e=Ending.returned v/\UP P C s' (·<k') M' β' w'/\Rep P M' β' d v/\MLe M M'/\BLe β β'/\K (nxS st (XO dst st.n) d s' st.n k')) (.returned v) w':=by
  rintro a w' ⟨st',⟨h1,h2,M',β',h0',h3,I'⟩,hret⟩
  refine⟨h1,?_⟩
  unfold XfE at hret
  split at hret
  .rename_i c ds hres
   have⟨v,hv,hrv⟩:=JL I' h3 hrs hres hret.1
   exact⟨v,hv,v,_,_,_,M',β',rfl,⟨I'.mem,I'.used,I'.obs,I'.own,I'.inj,I'.keep,I'.old,I.le.trans I'.le,I.glob⟩,hrv,I'.le,h0',hret.2⟩
  .grind
 intro e a w' hq;cases e with
 |normal=>exact fin a w' hq
 |ret=>exact fin a w' hq
 |exit id=>assumption
 |_=>exact hq.elim
def YY{G:Nat->Option (List D)}{f:FuncId}{E z:Nat}{args:List D}{lent:List Ob}{R':D->List Ob->Prop}(h:∀a cap,YM P G f (.v (.slice a 0 cap)::args) lent R'):YM P G f (.isl E z []::args) lent R':=by refine⟨(h none 0).1,λM w vs lb h1 h2 h3 h4 h5 h6=>?_⟩;obtain⟨x,xs,rfl,⟨_,_,_,a,cap,rfl,_⟩,h7⟩:=h6;refine(h a cap).2 M w _ lb h1 h2 h3 h4 h5 ?_;exact⟨_,_,rfl,⟨rfl,trivial⟩,h7⟩
end
variable {P:Program}{C:Cx}{R:St->Prop}
section
variable {n:Nat}{k:List It}{st:St}
def Xnk:run P C R (n+1) [] st=R st:=propext Iff.rfl
def Xkj{Q:St->Prop}:run P C R (n+1) (.stop Q::k) st=Q st:=propext Iff.rfl
def Xnl{i:Nat}:run P C R (n+1) (.blk i::k) st=run P C R n k st:=propext Iff.rfl
def Xkk{full:Array Oper}:run P C R (n+1) (.ops full []::k) st=run P C R n k st:=propext Iff.rfl
def XpB{full:Array Oper}{o:Oper}{rest:List Oper}:run P C R (n+1) (.ops full (o::rest)::k) st=XaR full o st
 (λst=>V1 P C o st (run P C R n (.ops full rest::k)))
 (λst=>XfA (XO o.dst st.n) st.n (st.k+1) (λdst m j=>run P C R n (.ops full rest::k) (nx st dst (.v undef) [] m j)) trivial):=propext Iff.rfl
def Xkl:run P C R (n+1) (.code .skip::k) st=run P C R n k st:=propext Iff.rfl
def Xnm{x y:Code}:run P C R (n+1) (.code (.seq x y)::k) st=run P C R n (.code x::.code y::k) st:=propext Iff.rfl
def Xkm{c:Operand}{x y:Code}:run P C R (n+1) (.code (.cond c x y)::k) st=Xbl (ev st.t C.G c) c st (run P C R n (.code x::k)) (run P C R n (.code y::k)) trivial:=propext Iff.rfl
def Xi5{i:Nat}{c:Code}:run P C R (n+1) (.code (.block i c)::k) st=run P C R n (.code c::.blk i::k) st:=propext Iff.rfl
def Xi6{c:Code}:run P C R (n+1) (.code (.scope c)::k) st=run P C R n (.code c::k) st:=propext Iff.rfl
def Xi7{i:Nat}:run P C R (n+1) (.code (.label i)::k) st=run P C R n k st:=propext Iff.rfl
def Xkn{i:Nat}:run P C R (n+1) (.code (.exit i)::k) st=Xh2 (Xbm i k) (λk'=>run P C R n k' st) trivial:=propext Iff.rfl
def Xnn:run P C R (n+1) (.code .ret::k) st=R st:=propext Iff.rfl
def Xko{c:Code}:run P C R (n+1) (.code (.loop c)::k) st=LoopG P C R c k st trivial:=propext Iff.rfl
def Xg1{i:Nat}{ops:List Oper}:run P C R (n+1) (.code (.region i ⟨ops⟩ false)::k) st=run P C R n (.ops ⟨ops⟩ ops::k) st:=propext Iff.rfl
def Xi8{i:Nat}{ops:Array Oper}:run P C R (n+1) (.code (.region i ops true)::k) st=DrawnG P C R i ops k st trivial:=propext Iff.rfl
variable {full:Array Oper}{dst:Option Nat}{op:Op}{ty:Nat}{pos:String}{af:Array Edge}{x y:St->Prop}{K:St->Prop}
def XfF:XaR full ⟨dst,op,ty,pos,af,none⟩ st x y=x st:=propext Iff.rfl
def XfG{g:Nat}{want:Bool}:XaR full ⟨dst,op,ty,pos,af,some (g,want)⟩ st x y=XeC ((full[g]?).bind (·.dst)) want st x y trivial:=propext Iff.rfl
def XfH{r:Nat}{want:Bool}{t':Prf (some r)}:XeC (some r) want st x y t'=ZW (st.t r) r want st x y trivial:=propext Iff.rfl
def Xi9{r:Nat}{t':Prf (D.v (.bool true))}:ZW (.v (.bool true)) r true st x y t'=x st:=by simp[ZW,Vd]
def Xja{r:Nat}{t':Prf (D.v (.bool true))}:ZW (.v (.bool true)) r false st x y t'=y st:=by simp[ZW,Vd]
def Xjb{r:Nat}{t':Prf (D.v (.bool false))}:ZW (.v (.bool false)) r true st x y t'=y st:=by simp[ZW,Vd]
def Xjc{r:Nat}{t':Prf (D.v (.bool false))}:ZW (.v (.bool false)) r false st x y t'=x st:=by simp[ZW,Vd]
def Xkp{r:Nat}{want:Bool}{vs:Array Value}{t':Prf (D.v (.tuple vs))}:ZW (.v (.tuple vs)) r want st x y t'=y st:=rfl
def Xno{c:Operand}{t':Prf (D.v (.bool true))}:Xbl (.v (.bool true)) c st x y t'=x st:=by simp[Xbl,Vd]
def Xnp{c:Operand}{t':Prf (D.v (.bool false))}:Xbl (.v (.bool false)) c st x y t'=y st:=by simp[Xbl,Vd]
def Xg2{f:List It->Prop}{t':Prf (some k)}:Xh2 (some k) f t'=f k:=propext Iff.rfl
def Xkq{m j:Nat}{f:Option Nat->Nat->Nat->Prop}{t':Prf dst}:XfA dst m j f t'=f dst m j:=propext Iff.rfl
def Xjd{o:Oper}:V1 P C o st K=XdF P C (JJ o.op) o st K trivial:=propext Iff.rfl
def Xg3{o:Oper}{t':Prf (none:Option Call)}:XdF P C none o st K t'=Xbk (opF P (Xfz C.off o.dst) st.k (ev st.t C.G) st.s o.op) (XO o.dst st.n) st.n (st.k+1) (λdst d u n k=>K (nx st dst d u n k)) trivial:=propext Iff.rfl
def Xg4{o:Oper}{c:Call}{t':Prf (some c)}:XdF P C (some c) o st K t'=Xcg P C (callee (ev st.t C.G) c) c o.dst st K trivial:=propext Iff.rfl
def XfI{f:Nat}{args:List D}{c:Call}{dst:Option Nat}{t':Prf (some (f,args))}:Xcg P C (some (f,args)) c dst st K t'=CallX P C f args dst st K trivial:=propext Iff.rfl
def XfJ{c:Call}{dst:Option Nat}{t':Prf (none:Option (Nat×List D))}:Xcg P C none c dst st K t'=XeB P C (XbH (ev st.t C.G) c) dst st K trivial:=propext Iff.rfl
def XfK{l:Nat}{args:List D}{dst:Option Nat}{t':Prf (some (l,args))}:XeB P C (some (l,args)) dst st K t'=YieldX P C l args dst st K trivial:=propext Iff.rfl
def Xg5{c:Prop}{d:D}{u:Up}{m j:Nat}{f:Option Nat->D->Up->Nat->Nat->Prop}{t':Prf (some (c,d,u))}:Xbk (some (c,d,u)) dst m j f t'=(c/\f dst d u m j):=propext Iff.rfl
def XfL{G:Nat->Option (List D)}{f:Nat}{cc:Prop}{as:List D}{ids:List Nat}{obs:List Ob}{fz:List Nat}{K:List Nat->List Nat->D->List Ob->Prop}{t':Prf (some (cc,as,ids,obs,fz))}:XgY P G f (some (cc,as,ids,obs,fz)) K t'=(cc/\CallG P G f as obs (K ids fz) trivial):=propext Iff.rfl
def Xnq{d:D}{u:Up}{m j:Nat}{f:Option Nat->D->Up->Nat->Nat->Prop}{t':Prf (d,u)}:XpA (d,u) dst m j f t'=f dst d u m j:=propext Iff.rfl
variable {d:D}{u:Up}{m j i x:Nat}
def XsZ:(nx st dst d u m j).n=m:=rfl
def Xs0:(nx st dst d u m j).k=j:=rfl
def Xs1{i x:Nat}:(nx st (some x) d u m j).t i=if i=x then d else st.t i:=rfl
def Xq2{i:Nat}:(nx st none d u m j).t i=st.t i:=rfl
def Xq3:(nx st dst d [] m j).s=st.s:=rfl
def Xs2{e:Nat×Nat×Ob}:(nx st dst d (e::u) m j).s=app st.s (e::u):=rfl
def Xq4{s:Heap}:(nxS st dst d s m j).n=m:=rfl
def Xq5{s:Heap}:(nxS st dst d s m j).k=j:=rfl
def Xq6{s:Heap}{i x:Nat}:(nxS st (some x) d s m j).t i=if i=x then d else st.t i:=rfl
def XpC{s:Heap}{i:Nat}:(nxS st none d s m j).t i=st.t i:=rfl
def Xq7{s:Heap}:(nxS st dst d s m j).s=s:=rfl
def Xq8{args:List D}{s:Heap}{n k i:Nat}:(stI args s n k).t i=(args[i]?).getD (.v undef):=rfl
def Xq9{args:List D}{s:Heap}{n k:Nat}:(stI args s n k).s=s:=rfl
def Xra{args:List D}{s:Heap}{n k:Nat}:(stI args s n k).n=n:=rfl
def Xrb{args:List D}{s:Heap}{n k:Nat}:(stI args s n k).k=k:=rfl
def XpD{s:Heap}{k:Nat}:kOf dst st K d s k=K (nxS st (XO dst st.n) d s st.n k):=rfl
def Xnr{C:Cx}{n:Nat}{x:Mem×Loc}:(C.sub n x).off=n:=rfl
def Xrc{C:Cx}{n:Nat}{x:Mem×Loc}:(C.sub n x).G=C.G:=rfl
def Xrd{args:List D}{lent:List Ob}{n i:Nat}:(st0 args lent n).t i=(args[i]?).getD (.v undef):=rfl
def Xre{args:List D}{lent:List Ob}{n:Nat}:(st0 args lent n).s=KU lent:=rfl
def Xrf{args:List D}{lent:List Ob}{n:Nat}:(st0 args lent n).n=n:=rfl
def Xrg{args:List D}{lent:List Ob}{n:Nat}:(st0 args lent n).k=1:=rfl
def Zn{s:Heap}:app s []=s:=rfl
def YP{s:Heap}{i v:Nat}{o:Ob}:app s ((i,v,o)::u)=app (upd s i (some (v,o))) u:=rfl
def Kb{s:Heap}{i j:Nat}{x:Option (Nat×Ob)}:upd s i x j=if j=i then x else s j:=rfl
def Xje{i:Nat}:KU [] i=none:=by simp[KU]
def KX{ls:List Ob}{j:Nat}:KU ls (LB+j)=(ls[j]?).map (λo=>(0,o)):=by unfold KU;simp
def XpE:IntKind.min .i8 = -128:=ae
def XpF:IntKind.max .i8=127:=ae
def Xns:IntKind.min .i16 = -32768:=ae
def Xnt:IntKind.max .i16=32767:=ae
def Xnu:IntKind.min .i32 = -2147483648:=ae
def Xnv:IntKind.max .i32=2147483647:=ae
def Xnw:IntKind.min .i64 = -9223372036854775808:=ae
def Xnx:IntKind.max .i64=9223372036854775807:=ae
def XpG:IntKind.min .u8=0:=ae
def XpH:IntKind.max .u8=255:=ae
def Xny:IntKind.min .u16=0:=ae
def Xnz:IntKind.max .u16=65535:=ae
def XnA:IntKind.min .u32=0:=ae
def XnB:IntKind.max .u32=4294967295:=ae
def Xh4:IntKind.min .u64=0:=ae
def Xh5:IntKind.max .u64=18446744073709551615:=ae
def Y7{r:Nat}{d:D}(h:st.t r=d):VP st r d=st:=by
 unfold VP;have:upd st.t r d=st.t:=by
  funext j;unfold upd;split
  .simp_all
  rfl
 rw[this]
def Xs{b:Bool}{r:Nat}{x y:St->Prop}(hr:st.t r=.v (.bool b))(h1:b=true->x (VP st r (.v (.bool true))))(h2:b=false->y (VP st r (.v (.bool false))))(t':Prf (D.v (.bool b))):Xbl (.v (.bool b)) (.tmp r) st x y t':=
 ⟨λe=>by simp_all[Y7,hr],λe=>by simp_all[Y7,hr]⟩
def Xh{b:Bool}{r:Nat}{x y:St->Prop}(hr:st.t r=.v (.bool b))(h1:b=true->x (VP st r (.v (.bool true))))(h2:b=false->y (VP st r (.v (.bool false))))(t':Prf (D.v (.bool b))):ZW (.v (.bool b)) r true st x y t':=
 ⟨λe=>by simp_all[Y7,hr],λe=>by simp_all[Y7,hr]⟩
def Xi{b:Bool}{r:Nat}{x y:St->Prop}(hr:st.t r=.v (.bool b))(h1:b=true->y (VP st r (.v (.bool true))))(h2:b=false->x (VP st r (.v (.bool false))))(t':Prf (D.v (.bool b))):ZW (.v (.bool b)) r false st x y t':=
 ⟨λe=>by simp_all[Y7,hr],λe=>by simp_all[Y7,hr]⟩
def XpI{r i:Nat}{d:D}:(VP st r d).t i=if i=r then d else st.t i:=rfl
def XpJ{r:Nat}{d:D}:(VP st r d).s=st.s:=rfl
def XpK{r:Nat}{d:D}:(VP st r d).n=st.n:=rfl
def XpL{r:Nat}{d:D}:(VP st r d).k=st.k:=rfl
def CallG.of{G:Nat->Option (List D)}{f:FuncId}{args eargs:List D}{obs:List Ob}{R:D->List Ob->Prop}{K:D->List Ob->Prop}(h:YM P G f eargs obs R)(hf:ZK args eargs)(hK:∀r ls,R r ls->K r ls)(t':Prf args):CallG P G f args obs K t':=
 ⟨eargs,R,hf,h,hK⟩
end
variable {P:Program}
structure En where
 i:Nat
 o:Oper
 anc:List Nat
 ws:List Nat
 ms:List Nat
 mi:List Nat
def Z4(ms:List Nat)(t:Nat->D):Nat->D:=λx=>if ms.contains x then .any else t x
def Zh(mi:List Nat)(s:Heap):Heap:=λx=>if mi.contains x then none else s x
inductive Kd where
 |det (c:Prop) (d:D) (u:Up)
 |call (c:Prop) (f:FuncId) (as:List D) (ids:List Nat) (obs:List Ob) (fz:List Nat)
 |ro (f:FuncId) (args:List D)
def kd1(x:Option (Prop×D×Up)):Option Kd:=match x with
 |some (c,d,u)=>some (.det c d u)
 |none=>none
def kd2(f:FuncId)(args:List D)(x:Option (Prop×List D×List Nat×List Ob×List Nat)):Option Kd:=match x with
 |some (cc,as,ids,obs,fz)=>some (.call cc f as ids obs fz)
 |none=>some (.ro f args)
def roK(f:Nat):Nat:=1000000000+f
def XeD(G:Nat->Option (List D))(f:Nat){α:Type}(x:Option α):Option α:=if(G (roK f)).isSome then none else x
def Xjf{G:Nat->Option (List D)}{f:Nat}{α:Type}{x:Option α}{y:α}(h:XeD G f x=some y):x=some y:=by unfold XeD at h;simp_all
def kd3(G:Nat->Option (List D))(s:Heap)(x:Option (FuncId×List D)):Option Kd:=match x with
 |some (f,args)=>kd2 f args (XeD G f (Y0 s args))
 |none=>none
def RoA(P:Program)(C:Cx)(s:Heap)(args eargs:List D):Prop:=∀s' U M β w vs,HLe s s'->UP P C s' U M β w->RepL P M β args vs->∃M1,MLe M M1/\MemOK M1 w/\RepL P M1 Yu eargs vs
def kdO(P:Program)(C:Cx)(ver:Nat)(o:Oper)(t:Nat->D)(s:Heap):Option Kd:=match JJ o.op with
 |some c=>kd3 C.G s (callee (ev t C.G) c)
 |none=>kd1 (opF P (Xfz C.off o.dst) ver (ev t C.G) s o.op)
def kdG(d:D)(_:Nat)(want:Bool)(x:Option Kd):Option Kd:=match d with
 |.v (.bool b)=>bif b==want then x else some (.det True (.v undef) [])
 |.v (.tuple _)=>some (.det True (.v undef) [])
 |_=>none
def kdE(P:Program)(C:Cx)(full:Array Oper)(ver:Nat)(o:Oper)(t:Nat->D)(s:Heap):Option Kd:=match o.guard with
 |none=>kdO P C ver o t s
 |some (g,want)=>match (full[g]?).bind (·.dst)with
  |some r=>kdG (t r) r want (kdO P C ver o t s)
  |none=>none
def Ku(u:Up)(ws:List Nat):Prop:=∀x∈u,x.1∈ws
def doK(P:Program)(C:Cx)(e:En)(ver:Nat)(s:Heap)(x:Option Kd)(F:D->Up->Prop):Prop:=match x with
 |none=>False
 |some (.det c d u)=>c/\Ku u e.ws/\F d u
 |some (.call c f as ids obs fz)=>c/\∃eargs R,ZK as eargs/\YM P C.G f eargs obs R/\(∃r ls,R r ls)/\∀r ls,R r ls ->
  Ku (aft s ids fz r ls ver (64*(C.off+e.o.dst.getD 0))).2 e.ws/\F (aft s ids fz r ls ver (64*(C.off+e.o.dst.getD 0))).1 (aft s ids fz r ls ver (64*(C.off+e.o.dst.getD 0))).2
 |some (.ro f args)=>∃eargs R,RoA P C s args eargs/\YM P C.G f eargs [] R/\(∃r ls,R r ls)/\∀r ls,R r ls->scal r=true/\F r []
def Jr(P:Program)(C:Cx)(full:Array Oper)(k0:Nat)(e:En)(st:St)(F:St->Prop):Prop:=
 doK P C e (k0+e.i) (Zh e.mi st.s) (kdE P C full (k0+e.i) e.o (Z4 e.ms st.t) (Zh e.mi st.s)) λd u=>F (nx st (XO e.o.dst st.n) d u st.n st.k)
def dr(P:Program)(C:Cx)(full:Array Oper)(k0:Nat):List En->St->(St->Prop)->Prop
 |[],st,K=>K st
 |e::es,st,K=>Jr P C full k0 e st λst=>dr P C full k0 es st K
def Xan(o:Oper):Bool:=(JJ o.op).isSome
def inB(x:Option Nat)(l:List Nat):Bool:=match x with
 |some x=>l.contains x
 |none=>true
def Xci(e j:En):Bool:=
 (e.o.dst != j.o.dst||e.o.dst.isNone)&&inB e.o.dst j.ms&&inB j.o.dst e.ms&&e.ws.all (λx=>j.mi.contains x)&&j.ws.all (λx=>e.mi.contains x)&&e.ws.all (λx=>!j.ws.contains x)&&!(Xan e.o&&Xan j.o)
section
variable {C:Cx}{full:Array Oper}{k0:Nat}{st:St}
def Xkr{e:En}{ver:Nat}{s:Heap}{x:Option Kd}{F F':D->Up->Prop}(h:∀d u,F d u->F' d u)(hd:doK P C e ver s x F):doK P C e ver s x F':=by
 unfold doK at hd⊢;split at hd
 .omega
 .simp_all
 .have⟨hc,eargs,R,h1,h2,h3,h4⟩:=hd;exact⟨hc,eargs,R,h1,h2,h3,λr ls hR=>⟨(h4 r ls hR).1,h _ _ (h4 r ls hR).2⟩⟩
 have⟨eargs,R,h1,h2,h3,h4⟩:=hd;exact⟨eargs,R,h1,h2,h3,λr ls hR=>⟨(h4 r ls hR).1,h _ _ (h4 r ls hR).2⟩⟩
def Xg6{e:En}{F F':St->Prop}(h:∀st,F st->F' st)(hd:Jr P C full k0 e st F):Jr P C full k0 e st F':=
 Xkr (λ_ _ hF=>h _ hF) hd
def Xks{ms:List Nat}{dst:Option Nat}{n m k:Nat}{d:D}{u:Up}(h:inB dst ms=true):Z4 ms (nx st (XO dst n) d u m k).t=Z4 ms st.t:=by
 funext x;unfold Z4;split
 .rfl
 rename_i hx;cases dst with
 |none=>rfl
 |some y=>
  simp only[XO];split
  .simp only[nx,upd];split
   .rename_i e;subst e;exact absurd h hx
   rfl
  rfl
def Js{s:Heap}{i:Nat}:∀{u:Up},(∀x∈u,x.1≠i)->app s u i=s i:=by
 intro u;induction u generalizing s with
 |nil=>intro _;rfl
 |cons x u ih=>intro h;have⟨j,v,o⟩:=x;show app (upd s j _) u i=s i;rw[ih λy hy=>h y (Ul _ hy),Yb _ _ _ _ (Ne.symm (h (j,v,o) ab))]
def Xkt{mi ws:List Nat}{dst:Option Nat}{m k:Nat}{d:D}{u:Up}(hu:Ku u ws)(h:∀x∈ws,mi.contains x=true):Zh mi (nx st dst d u m k).s=Zh mi st.s:=by
 funext x;unfold Zh;split
 .rfl
 rename_i hx;exact Js λy hy e=>hx (e▸h _ (hu y hy))
def XdI{s s':Heap}{i:Nat}:∀{u:Up},s i=s' i->app s u i=app s' u i:=by
 intro u;induction u generalizing s s' with
 |nil=>intro h;exact h
 |cons x u ih=>intro h;have⟨j,v,o⟩:=x;refine ih ?_;unfold upd;simp_all
def Xku{s:Heap}{u u':Up}(h:∀x∈u,∀y∈u',x.1≠y.1):app (app s u) u'=app (app s u') u:=by
 funext i;by_cases hi:∃x∈u,x.1=i
 .obtain⟨x,hx,rfl⟩:=hi;rw[Js λy hy e=>h x hx y hy e.symm];exact XdI (Js λy hy e=>h x hx y hy e.symm).symm
 have hn:∀x∈u,x.1≠i:=λx hx e=>hi ⟨x,hx,e⟩;rw[Js (s:=app s u') hn];exact XdI (Js hn)
def Xao{e j:Option Nat}{n k:Nat}{d d':D}{u u':Up}(hne:e≠j\/e=none)(h:∀x∈u,∀y∈u',x.1≠y.1):
 nx (nx st (XO e n) d u n k) (XO j n) d' u' n k=nx (nx st (XO j n) d' u' n k) (XO e n) d u n k:=by
 have ht:(nx (nx st (XO e n) d u n k) (XO j n) d' u' n k).t=(nx (nx st (XO j n) d' u' n k) (XO e n) d u n k).t:=by
  funext x;cases e with
  |none=>rfl
  |some a=>
   cases j with
   |none=>rfl
   |some b=>simp only[XO];split<;>split<;>simp only[nx,upd];grind
 have hs:(nx (nx st (XO e n) d u n k) (XO j n) d' u' n k).s=(nx (nx st (XO j n) d' u' n k) (XO e n) d u n k).s:=Xku h;have:∀(a b:St),a.t=b.t->a.s=b.s->a.n=b.n->a.k=b.k->a=b:=by rintro⟨_,_,_,_⟩ ⟨_,_,_,_⟩ h1 h2 h3 h4;simp only at h1 h2 h3 h4;subst h1;subst h2;subst h3;subst h4;rfl
 exact this _ _ ht hs rfl rfl
def Kd.isDet:Kd->Bool
 |.det _ _ _=>true
 |_=>false
def Jt{ver:Nat}{o:Oper}{t:Nat->D}{s:Heap}{x:Kd}(h:kdE P C full ver o t s=some x)(hx:x.isDet=false):Xan o=true:=by
 have key:kdO P C ver o t s=some x->Xan o=true:=by
  intro h;unfold kdO at h;unfold Xan;split at h
  .simp_all
  unfold kd1 at h;split at h
  .simp at h;subst h;cases hx
  simp_all
 unfold kdE at h;split at h
 .simp_all
 split at h
 .unfold kdG at h;split at h
  .rename_i b _;cases hb:(b==_)with
   |true=>rw[hb]at h;exact key h
   |false=>rw[hb]at h;simp at h;subst h;cases hx
  .simp at h;subst h;cases hx
  cases h
 simp_all
def Xg7{e j:En}{F:St->Prop}(hap:Xci e j=true)(h:Jr P C full k0 e st λst=>Jr P C full k0 j st F):Jr P C full k0 j st λst=>Jr P C full k0 e st F:=by
 unfold Xci at hap;simp only[W6,Ij,bne_iff_ne,ne_eq,Option.isNone_iff_eq_none,Ud,IL]at hap;have⟨⟨⟨⟨⟨⟨hdst,hem⟩,hjm⟩,hew⟩,hjw⟩,hdis⟩,hcc⟩:=hap;have hdis':∀{u u':Up},Ku u e.ws->Ku u' j.ws->∀x∈u,∀y∈u',x.1≠y.1:=by
  intro u u' hu hu' x hx y hy e';have h1:=hdis x.1 (hu x hx);have h2:=hu' y hy;rw[←e']at h2;have:j.ws.contains x.1=true:=by simpa using h2
  rw[h1]at this;cases this
 have vj:∀{d u},Ku u e.ws->Z4 j.ms (nx st (XO e.o.dst st.n) d u st.n st.k).t=Z4 j.ms st.t/\Zh j.mi (nx st (XO e.o.dst st.n) d u st.n st.k).s=Zh j.mi st.s:=
  λhu=>⟨Xks hem,Xkt hu hew⟩
 have ve:∀{d u},Ku u j.ws->Z4 e.ms (nx st (XO j.o.dst st.n) d u st.n st.k).t=Z4 e.ms st.t/\Zh e.mi (nx st (XO j.o.dst st.n) d u st.n st.k).s=Zh e.mi st.s:=
  λhu=>⟨Xks hjm,Xkt hu hjw⟩
 unfold Jr at h⊢;generalize hke:kdE P C full (k0+e.i) e.o (Z4 e.ms st.t) (Zh e.mi st.s)=ke at h;generalize hkj:kdE P C full (k0+j.i) j.o (Z4 j.ms st.t) (Zh j.mi st.s)=kj;cases ke with
 |none=>exact h.elim
 |some ke=>
  cases ke with
  |det c d u=>
   have⟨hc,hu,h⟩:=h;have⟨v1,v2⟩:=vj (d:=d) hu;dsimp only at h;rw[v1,v2,hkj]at h;cases kj with
   |none=>assumption
   |some kj=>
    cases kj with
    |det c' d' u'=>
     have⟨hc',hu',h⟩:=h;refine⟨hc',hu',?_⟩;have⟨v3,v4⟩:=ve (d:=d') hu';try dsimp only
     rw[v3,v4,hke];refine⟨hc,hu,?_⟩;have:=Xao (st:=st) (e:=e.o.dst) (j:=j.o.dst) (n:=st.n) (k:=st.k) (d:=d) (d':=d') hdst (hdis' hu hu');exact(congrArg F this).mp h
    |call c' f as ids obs fz=>
     have⟨hc',eargs,R,h1,h2,h3,h4⟩:=h;refine⟨hc',eargs,R,h1,h2,h3,λr ls hR=>?_⟩;have⟨hu',h⟩:=h4 r ls hR;refine⟨hu',?_⟩;have⟨v3,v4⟩:=ve (d:=(aft (Zh j.mi st.s) ids fz r ls (k0+j.i) (64*(C.off+j.o.dst.getD 0))).1) hu';try dsimp only
     rw[v3,v4,hke];refine⟨hc,hu,?_⟩;have:=Xao (st:=st) (e:=e.o.dst) (j:=j.o.dst) (n:=st.n) (k:=st.k) (d:=d) (d':=(aft (Zh j.mi st.s) ids fz r ls (k0+j.i) (64*(C.off+j.o.dst.getD 0))).1) hdst (hdis' hu hu');exact(congrArg F this).mp h
    |ro f' args'=>
     have⟨eargs,R,h1,h2,h3,h4⟩:=h;refine⟨eargs,R,h1,h2,h3,λr ls hR=>⟨(h4 r ls hR).1,?_⟩⟩;have h:=(h4 r ls hR).2;have hu':Ku [] j.ws:=λx hx=>by grind
     have⟨v3,v4⟩:=ve (d:=r) hu';try dsimp only
     rw[v3,v4,hke];refine⟨hc,hu,?_⟩;have:=Xao (st:=st) (e:=e.o.dst) (j:=j.o.dst) (n:=st.n) (k:=st.k) (d:=d) (d':=r) hdst (hdis' hu hu');exact(congrArg F this).mp h
  |ro f args=>
   have hce:=Jt hke rfl;have⟨eargs,R,h1,h2,⟨r0,ls0,hR0⟩,h4⟩:=h;have hu:Ku [] e.ws:=λx hx=>by grind
   obtain⟨_,h0⟩:=h4 r0 ls0 hR0;obtain⟨v1,v2⟩:=vj (d:=r0) hu;dsimp only at h0;rw[v1,v2,hkj]at h0;cases kj with
   |none=>assumption
   |some kj=>
    cases kj with
    |call c' f' as' ids' obs' fz'=>have hcj:=Jt hkj rfl;simp_all
    |ro f' args'=>have hcj:=Jt hkj rfl;simp_all
    |det c' d' u'=>
     refine⟨h0.1,h0.2.1,?_⟩;obtain⟨v3,v4⟩:=ve (d:=d') h0.2.1;try dsimp only
     rw[v3,v4,hke];refine⟨eargs,R,h1,h2,⟨r0,ls0,hR0⟩,λr ls hR=>⟨(h4 r ls hR).1,?_⟩⟩;have h:=(h4 r ls hR).2;obtain⟨v1,v2⟩:=vj (d:=r) hu;dsimp only at h;rw[v1,v2,hkj]at h;have:=Xao (st:=st) (e:=e.o.dst) (j:=j.o.dst) (n:=st.n) (k:=st.k) (d:=r) (d':=d') hdst (hdis' hu h0.2.1);exact(congrArg F this).mp h.2.2
  |call c f as ids obs fz=>
   have hce:=Jt hke rfl;obtain⟨hc,eargs,R,h1,h2,⟨r0,ls0,hR0⟩,h4⟩:=h;obtain⟨hu0,h0⟩:=h4 r0 ls0 hR0;obtain⟨v1,v2⟩:=vj (d:=(aft (Zh e.mi st.s) ids fz r0 ls0 (k0+e.i) (64*(C.off+e.o.dst.getD 0))).1) hu0;dsimp only at h0;rw[v1,v2,hkj]at h0;cases kj with
   |none=>assumption
   |some kj=>
    cases kj with
    |call c' f' as' ids' obs' fz'=>have hcj:=Jt hkj rfl;simp_all
    |ro f' args'=>have hcj:=Jt hkj rfl;simp_all
    |det c' d' u'=>
     refine⟨h0.1,h0.2.1,?_⟩;obtain⟨v3,v4⟩:=ve (d:=d') h0.2.1;try dsimp only
     rw[v3,v4,hke];refine⟨hc,eargs,R,h1,h2,⟨r0,ls0,hR0⟩,λr ls hR=>?_⟩;obtain⟨hu,h⟩:=h4 r ls hR;obtain⟨v1,v2⟩:=vj (d:=(aft (Zh e.mi st.s) ids fz r ls (k0+e.i) (64*(C.off+e.o.dst.getD 0))).1) hu;dsimp only at h;rw[v1,v2,hkj]at h;refine⟨hu,?_⟩;have:=Xao (st:=st) (e:=e.o.dst) (j:=j.o.dst) (n:=st.n) (k:=st.k) (d:=(aft (Zh e.mi st.s) ids fz r ls (k0+e.i) (64*(C.off+e.o.dst.getD 0))).1) (d':=d') hdst (hdis' hu h0.2.1);exact(congrArg F this).mp h.2.2
def Xbp{K:St->Prop}{j:En}{l2:List En}:∀{l1:List En}{st:St},(∀e∈l1,Xci e j=true)->dr P C full k0 (l1++j::l2) st K->Jr P C full k0 j st λst=>dr P C full k0 (l1++l2) st K
 |[],st,_,h=>h
 |e::l1,st,hap,h=>by
  have h':Jr P C full k0 e st λst=>Jr P C full k0 j st λst=>dr P C full k0 (l1++l2) st K:=
   Xg6 (λst hst=>Xbp (λx hx=>hap x (Ul _ hx)) hst) h
  exact Xg7 (hap e ab) h'
end
variable {P:Program}
section
variable {s s':Heap}
mutual
def lend_le(hs:HLe s s'):∀{d:D}{ls:List Nat}{r},lend s ls d=some r->lend s' ls d=some r
 |.ept id ver z i c,ls,r,h=>by
  unfold lend at h⊢;split at h
  .rename_i he;rw[hs _ _ he];exact h
  simp_all
 |.agg cs,ls,r,h=>by
  unfold lend at h⊢;split at h
  .rename_i he;rw[Ju hs he];exact h
  simp_all
 |.tup cs,ls,r,h=>by
  unfold lend at h⊢;split at h
  .rename_i he;rw[Ju hs he];exact h
  simp_all
 |.ifc t d,ls,r,h=>by
  unfold lend at h⊢;split at h
  .rename_i he;rw[lend_le hs he];exact h
  simp_all
 |.clo fn a b,ls,r,h=>by
  unfold lend at h⊢;split at h
  .rename_i he;rw[Ju hs he];split at h
   .rename_i hf;rw[Ju hs hf];exact h
   cases h
  simp_all
 |.osl id ver z off len,ls,r,h=>by
  unfold lend at h⊢;split at h
  .rename_i he;rw[snap_le hs he];exact h
  simp_all
 |.any,ls,r,h=>by assumption
 |.v _,ls,r,h=>by assumption
 |.nsl,ls,r,h=>by assumption
 |.isl ..,ls,r,h=>by assumption
 |.ipt ..,ls,r,h=>by assumption
 |.fsl ..,ls,r,h=>by assumption
 |.fmp ..,ls,r,h=>by assumption
 |.omp ..,ls,r,h=>by assumption
def Ju(hs:HLe s s'):∀{ds:List D}{ls:List Nat}{r},Zs s ls ds=some r->Zs s' ls ds=some r
 |[],ls,r,h=>by assumption
 |d::ds,ls,r,h=>by
  unfold Zs at h⊢;split at h
  .rename_i he;rw[lend_le hs he];simp only;split at h
   .rename_i hf;rw[Ju hs hf];exact h
   cases h
  simp_all
end
def XbI{l l':List Nat}(h:Has s l)(h':Has s l'):Has s (l++l'):=λi hi=>by
 rcases WG.1 hi with hi|hi
 .exact h i hi
 exact h' i hi
mutual
def lend_has:∀{d:D}{ls:List Nat}{r},lend s ls d=some r->Has s r.2.2.2
 |.ept id ver z i c,ls,r,h=>by
  unfold lend at h;split at h
  .split at h
   .split at h<;>simp only[Ws]at h<;>subst h<;>intro i hi<;>simp at hi
   cases h
  simp_all
 |.agg cs,ls,r,h=>by
  unfold lend at h;split at h
  .rename_i he;simp at h;subst h;exact KN he
  simp_all
 |.tup cs,ls,r,h=>by
  unfold lend at h;split at h
  .rename_i he;simp at h;subst h;exact KN he
  simp_all
 |.ifc t d,ls,r,h=>by
  unfold lend at h;split at h
  .rename_i he;simp at h;subst h;have:=lend_has he;exact this
  simp_all
 |.clo fn a b,ls,r,h=>by
  unfold lend at h;split at h
  .rename_i he;split at h
   .rename_i hf;simp at h;subst h;exact XbI (KN he) (KN hf)
   cases h
  simp_all
 |.osl id ver z off len,ls,r,h=>by
  unfold lend at h;split at h
  .rename_i he;simp at h;subst h;exact snap_has he
  simp_all
 |.any,ls,r,h=>by
  unfold lend at h;split at h
  .rename_i he;simp at h;subst h;exact snap_has he
  simp_all
 |.v _,ls,r,h=>by
  unfold lend at h;split at h
  .rename_i he;simp at h;subst h;exact snap_has he
  simp_all
 |.nsl,ls,r,h=>by
  unfold lend at h;split at h
  .rename_i he;simp at h;subst h;exact snap_has he
  simp_all
 |.isl ..,ls,r,h=>by
  unfold lend at h;split at h
  .rename_i he;simp at h;subst h;exact snap_has he
  simp_all
 |.ipt ..,ls,r,h=>by
  unfold lend at h;split at h
  .rename_i he;simp at h;subst h;exact snap_has he
  simp_all
 |.fsl ..,ls,r,h=>by simp_all[lend,snap]
 |.fmp ..,ls,r,h=>by simp_all[lend,snap]
 |.omp ..,ls,r,h=>by simp_all[lend,snap]
def KN:∀{ds:List D}{ls:List Nat}{r},Zs s ls ds=some r->Has s r.2.2.2
 |[],ls,r,h=>by simp only[Zs,Ws]at h;subst h;intro i hi;simp_all
 |d::ds,ls,r,h=>by
  unfold Zs at h;split at h
  .rename_i he;split at h
   .rename_i hf;simp at h;subst h;exact XbI (lend_has he) (KN hf)
   cases h
  simp_all
end
def XfM(hs:HLe s s'):∀{ids:List Nat}{r},KV s ids=some r->KV s' ids=some r
 |[],r,h=>by assumption
 |id::ids,r,h=>by
  unfold KV at h⊢;split at h
  .rename_i he;rw[hs _ _ he];simp only;split at h
   .rename_i h1 h2;rw[KW hs h1,XfM hs h2];exact h
   cases h
  simp_all
def XdJ:∀{ids:List Nat}{r},KV s ids=some r->Has s r.2.2
 |[],r,h=>by simp only[KV,Ws]at h;subst h;intro i hi;simp_all
 |id::ids,r,h=>by
  unfold KV at h;split at h
  .split at h
   .rename_i h1 h2;simp at h;subst h;exact XbI (KK h1) (XdJ h2)
   cases h
  simp_all
def XfN(hs:HLe s s'){args:List D}{r}(h:Y0 s args=some r):Y0 s' args=some r:=by
 unfold Y0 at h⊢;split at h
 .rename_i h1;rw[Ju hs h1];simp only;split at h
  .rename_i h2;rw[XfM hs h2];exact h
  cases h
 simp_all
def XeE{args:List D}{cc:Prop}{as:List D}{ids:List Nat}{obs:List Ob}{fz:List Nat}(h:Y0 s args=some (cc,as,ids,obs,fz)):Has s ids/\Has s fz:=by
 unfold Y0 at h;split at h
 .rename_i hl;split at h
  .rename_i ho;obtain⟨_,_,rfl,_,rfl⟩:=h;refine⟨λid hid=>?_,XbI (KN hl) (XdJ ho)⟩;have⟨v,E,z,cs,fz,hs⟩:=(YU hl ⟨ab,ab⟩).2 id hid;exact⟨_,hs⟩
  cases h
 simp_all
def XfO(hs:HLe s s'):∀{ids:List Nat}{obs:List Ob},Has s ids->Zy s' ids obs=Zy s ids obs
 |[],obs,_=>by rfl
 |id::ids,[],_=>rfl
 |id::ids,o::obs,h=>by have⟨x,hx⟩:=h id ab;have ih:=XfO hs (ids:=ids) (obs:=obs) λi hi=>h i (Ul _ hi);simp only[Zy,hx,hs _ _ hx,ih]
def XpM(hs:HLe s s'){ids fz:List Nat}(h1:Has s ids)(h2:Has s fz)(r:D)(ls:List Ob)(ver n:Nat):aft s' ids fz r ls ver n=aft s ids fz r ls ver n:=by unfold aft;rw[Xak hs h2,XfO hs h1]
def XnC(mi:List Nat)(s:Heap):HLe (Zh mi s) s:=by intro i x h;unfold Zh at h;simp_all
end
def RelD(P:Program)(C:Cx)(U:Nat->Prop)(st:St)(a:Act)(w:World):Prop:=
 a.defers=C.df/\a.tmps.size=st.n/\∃M β,BLe C.b0 β/\(∀x,Rep P M β (st.t x) (a.tmps.getD x undef))/\UP P C st.s U M β w
section
variable {C:Cx}{st:St}{a:Act}{w:World}{U:Nat->Prop}
def RelD.put{w':World}{u:Up}{U':Nat->Prop}{M':Mem}{β':Loc}{M:Mem}{β:Loc}{d:D}{v:Value}{dst:Option Nat}{k':Nat}(h1:a.defers=C.df)(h2:a.tmps.size=st.n)(h0:BLe C.b0 β)(h3:∀x,Rep P M β (st.t x) (a.tmps.getD x undef))(hM:MLe M M')(hB:BLe β β')(I:UP P C (app st.s u) U' M' β' w')(hv:Rep P M' β' d v):RelD P C U' (nx st (XO dst st.n) d u st.n k') (a.put dst v) w':=by
 cases dst with
 |none=>exact⟨h1,h2,M',β',h0.trans hB,λx=>(h3 x).mono hM hB,I⟩
 |some x=>
  by_cases hx:x<st.n
  .simp only[XO,Wq hx];refine⟨h1,by simp_all[nx,Act.put],M',β',h0.trans hB,λi=>?_,I⟩;simp only[nx,upd,Act.put];by_cases hi:i=x
   .simp_all
   rw[Wn hi];have e:(a.tmps.setIfInBounds x v).getD i undef=a.tmps.getD i undef:=by simp[Ne.symm hi]
   rw[e];exact(h3 i).mono hM hB
  simp only[XO,Wn hx];refine⟨h1,by simp_all[nx,Act.put],M',β',h0.trans hB,λi=>?_,I⟩;have e:a.put (some x) v=a:=by simp only[Act.put];rw[Array.setIfInBounds_eq_of_size_le aa]
  rw[e];exact(h3 i).mono hM hB
def RelD.drew(h:RelD P C U st a w)(k:Nat):RelD P C U st a {w with drawn:=k}:=by
 have⟨h1,h2,M,β,h0,h3,I⟩:=h;refine⟨h1,h2,M,β,h0,h3,?_⟩;constructor
 .exact I.mem
 .exact I.used
 .intro id v ob hs;have⟨x,hx,ho⟩:=I.obs id v ob hs;exact⟨x,hx,ho.mono (MLe.refl _) (BLe.refl _) (λ_ _ _=>rfl) (λ_ _ _ _=>rfl)⟩
 .exact I.own
 .exact I.inj
 .exact⟨I.keep.os,I.keep.tape,I.keep.output,I.keep.size,I.keep.block⟩
 .exact I.old
 .exact I.le
 exact I.glob
def Xkv{full:Array Oper}{k0:Nat}{e:En}{F:St->Prop}{K:AW}{Q:Exit->AW}(hr:RelD P C U st a w)(hv:¬U (k0+e.i))(h:Jr P C full k0 e st F)(hK:∀st' a' w',RelD P C (λx=>U x\/x=k0+e.i) st' a' w'->F st'->K a' w'):if Region.wanted e.o (yielded full a.tmps)=true then e.o.wp P a w K Q else K (a.put e.o.dst undef) w:=by
 have⟨h1,h2,M,β,h0,h3,I⟩:=hr;have h3m:∀x,Rep P M β (Z4 e.ms st.t x) (a.tmps.getD x undef):=λx=>by unfold Z4;grind[Rep]
 have hev:=Xcc I h3m;have hle:=XnC e.mi st.s;have hskip:F (nx st (XO e.o.dst st.n) (.v undef) [] st.n st.k)->K (a.put e.o.dst undef) w:=λhF=>
  hK _ _ _ (RelD.put (u:=[]) h1 h2 h0 h3 (MLe.refl _) (BLe.refl _) (I.mono λ_ h=>.inl h) (by simp[Rep,XaS])) hF
 have hrun:doK P C e (k0+e.i) (Zh e.mi st.s) (kdO P C (k0+e.i) e.o (Z4 e.ms st.t) (Zh e.mi st.s)) (λd u=>F (nx st (XO e.o.dst st.n) d u st.n st.k))->e.o.wp P a w K Q:=by
  intro h;unfold kdO at h;split at h
  .rename_i c hc;have hop:e.o.op=.call c:=by
    unfold JJ at hc;split at hc
    .grind
    grind
   unfold kd3 at h;split at h
   .rename_i f args hcal;unfold kd2 at h;split at h
    .rename_i cc as ids obs fz hca;replace hca:=Xjf hca;have⟨hcc,eargs,R,hfit,hA,_,hKR⟩:=h;unfold callee at hcal;split at hcal
     .rename_i x hx;split at hcal
      .rename_i g first caps hclo
       obtain⟨rfl,rfl⟩:=hcal;have hfx:=hev x;rw[hclo]at hfx;have⟨va,vb,hfx,ha,hb⟩:=hfx;have⟨⟨fn,hf,hb',hn⟩,_⟩:=id hA;unfold Oper.wp;rw[VB hop hx hfx hf hb' hn w];have hargs:RepL P M β (first++(c.args.toList.map (ev (Z4 e.ms st.t) C.G)++caps)) (va++(c.args.toList.map a.eval++vb)):=
        ha.append ((RepL.map hev _).append hb)
       have⟨hh1,hh2⟩:=XeE hca;have hca':=XfN hle hca;refine(XhZ I (ver:=k0+e.i) hv hargs hca' hcc hfit hA (64*(C.off+e.o.dst.getD 0))).mono ?_;rintro e' w' ⟨v,r,ls,M',β',rfl,hR,I',hv',hM,hB⟩;have hbox:∀id∈ids,∃v o,st.s id=some (v,o):=λid hid=>by obtain⟨x,hx⟩:=hh1 id hid;exact⟨x.1,x.2,hle _ _ hx⟩
       have⟨e1,e2⟩:=Xkh st.s ids fz r ls (k0+e.i) (64*(C.off+e.o.dst.getD 0)) hbox;rw[←e1]at hv';rw[←e2]at I';have ea:=XpM hle hh1 hh2 r ls (k0+e.i) (64*(C.off+e.o.dst.getD 0));rw[ea]at hv' I';exact hK _ _ _ (RelD.put h1 h2 h0 h3 hM hB I' hv') (hKR r ls hR).2
      cases hcal
     simp_all
    have⟨eargs,R,hro,hA,_,hKR⟩:=h;unfold callee at hcal;split at hcal
    .rename_i x hx;split at hcal
     .rename_i g first caps hclo
      simp only[Ws,Wx]at hcal;obtain⟨rfl,rfl⟩:=hcal;have hfx:=hev x;rw[hclo]at hfx;simp only[Rep]at hfx;obtain⟨va,vb,hfx,ha,hb⟩:=hfx;obtain⟨⟨fn,hf,hb',hn⟩,_⟩:=id hA;unfold Oper.wp;rw[VB hop hx hfx hf hb' hn w];rw[Oper.upon_enter];have hargs:RepL P M β (first++(c.args.toList.map (ev (Z4 e.ms st.t) C.G)++caps)) (va++(c.args.toList.map a.eval++vb)):=
       ha.append ((RepL.map hev _).append hb)
      obtain⟨M1,hM1,hm1,hargs⟩:=hro st.s U M β w _ hle I hargs;refine(Xng I hM1 hm1 hargs hA (λr ls h=>(hKR r ls h).1)).mono ?_;rintro e' w' ⟨v,r,ls,rfl,hR,I',hv'⟩;exact hK _ _ _ (RelD.put (u:=[]) h1 h2 h0 h3 (MLe.refl _) (BLe.refl _) (I'.mono λ_ h=>.inl h) hv') (hKR r ls hR).2
     cases hcal
    simp_all
   exact h.elim
  unfold kd1 at h;split at h
  .rename_i c d u hop;obtain⟨hc,_,hF⟩:=h;have:=Xkf I (ver:=k0+e.i) hv {e.o with dst:=Xfz C.off e.o.dst} a.eval (ev (Z4 e.ms st.t) C.G) hev (λ_=>rfl) (Xpz hle hop) hc;obtain⟨M',β',w',v,hres,I',hv',hM,hB⟩:=this;rw[XfB]at hres;have hrel:RelD P C (λx=>U x\/x=k0+e.i) (nx st (XO e.o.dst st.n) d u st.n st.k) (a.put e.o.dst v) w':=RelD.put h1 h2 h0 h3 hM hB I' hv';unfold Oper.wp;rcases hres with hres|⟨hres,rfl⟩
   .rw[hres];exact hK _ _ _ hrel hF
   rw[hres];exact hK _ _ _ hrel hF
  exact h.elim
 unfold Jr kdE at h;split at h
 .rename_i hg;have hw:Region.wanted e.o (yielded full a.tmps)=true:=by unfold Region.wanted;rw[hg]
  simp_all
 rename_i g want hg;split at h
 .rename_i r hdst;unfold kdG at h;split at h
  .rename_i b hb;have hval:a.tmps.getD r undef=.bool b:=by have:=h3m r;rw[hb]at this;simp only[Rep]at this;exact this.1
   have hy:yielded full a.tmps g=some b:=by
    unfold yielded;rw[hdst];simp only[IR];by_cases hs:r<a.tmps.size
    .simp_all
    simp_all[hs,undef]
   have hw:Region.wanted e.o (yielded full a.tmps)=(b==want):=by unfold Region.wanted;rw[hg];simp only;rw[hy];rfl
   rw[hw];cases hbw:(b==want)with
   |true=>simp_all
   |false=>rw[hbw]at h;rw[Wn ab];exact hskip h.2.2
  .rename_i vs hb;have hval:a.tmps.getD r undef=.tuple vs:=by have:=h3m r;rw[hb]at this;simp only[Rep]at this;exact this.1
   have hy:yielded full a.tmps g=none:=by
    unfold yielded;rw[hdst];simp only[IR];by_cases hs:r<a.tmps.size
    .simp_all
    simp_all
   have hw:Region.wanted e.o (yielded full a.tmps)=false:=by unfold Region.wanted;rw[hg];simp only;rw[hy];rfl
   rw[hw,Wn ab];exact hskip h.2.2
  exact h.elim
 exact h.elim
end
variable {P:Program}
def Xo7(e:En):Bool:=e.o.after.toList.all λd=>!Region.binds .any d||d.on<e.i
def XpN(es:List En)(e:En):Bool:=e.anc.all λx=>e.o.after.toList.any λd=>Region.binds .any d&&(d.on==x||((es[d.on]?).map (·.anc.contains x)).getD false)
def Xo8(es:List En)(j:En):Bool:=es.all λe=>!(e.i<j.i)||j.anc.contains e.i||Xci e j
def Xkw(es:List En):Bool:=es.all Xo7&&es.all (XpN es)&&es.all (Xo8 es)
def Vg(es:List En)(listed:Array Bool):List En:=es.filter λe=>!listed.getD e.i true
section
variable {C:Cx}{ops:Array Oper}{k0:Nat}{es:List En}{Q:Exit->AW}{K:St->Prop}
def UD(k0:Nat)(listed:Array Bool):Nat->Prop:=λv=>v<k0\/∃i,listed.getD i false=true/\v=k0+i
def Xkx(ho:es.map (·.o)=ops.toList)(hi:es.map (·.i)=List.range es.length){j:Nat}{o:Oper}(h:ops[j]? = some o):∃e,e∈es/\es[j]? = some e/\e.i=j/\e.o=o:=by
 have h1:(es.map (·.o))[j]? = some o:=by rw[ho];simpa using h
 simp at h1;obtain⟨e,he,rfl⟩:=h1;have h2:(es.map (·.i))[j]? = some e.i:=by simp[he]
 grind
def XfP(hi:es.map (·.i)=List.range es.length){e:En}(he:e∈es):e.i<es.length/\es[e.i]? = some e:=by
 obtain⟨j,hj,rfl⟩:=WN he;have h2:(es.map (·.i))[j]? = some es[j].i:=by simp[hj]
 grind
def Xjg(hi:es.map (·.i)=List.range es.length):es.Pairwise λa b=>a.i<b.i:=by have:=List.pairwise_lt_range (n:=es.length);grind
def Xs3(ho:es.map (·.o)=ops.toList)(hi:es.map (·.i)=List.range es.length)(hc:Xkw es=true)(hQ:∀st a w,RelD P C (λv=>v<k0+es.length) st a w->K st->Q .normal a w):
 ∀(fuel:Nat)(listed:Array Bool)(a:Act)(w:World)(st:St),(Vg es listed).length=fuel->listed.size=es.length->RelD P C (UD k0 listed) st a w ->
  (∀e∈es,listed.getD e.i false=true->∀x∈e.anc,listed.getD x false=true)->dr P C ops k0 (Vg es listed) st K->wpAny P .any ops Q fuel listed a w:=by
 unfold Xkw at hc;simp at hc;have⟨⟨hedge,hanc⟩,hpair⟩:=hc;have hsort:=Xjg hi;have getD_flip:∀(listed:Array Bool)(x:Nat),x<listed.size->(listed.getD x true=listed.getD x false):=by intro listed x hx;simp[hx]
 intro fuel;induction fuel with
 |zero=>
  intro listed a w st hfuel hsz hr hcl hd;have hnil:Vg es listed=[]:=WJ hfuel;refine⟨?_,?_⟩
  .cases hrd:Region.ready .any ops listed with
   |nil=>rfl
   |cons j js=>
    have hj:j∈Region.ready .any ops listed:=by rw[hrd];simp
    have⟨hun,o,hoj,_⟩:=mem_ready.1 hj;have⟨e,he,_,hei,_⟩:=Xkx ho hi hoj;have:e∈Vg es listed:=US.2 ⟨he,by rw[hei,hun];rfl⟩;simp_all
  rw[hnil]at hd;refine hQ st a w ?_ hd;have⟨h1,h2,M,β,h0,h3,I⟩:=hr;refine⟨h1,h2,M,β,h0,h3,I.mono λv hv=>?_⟩;rcases hv with hv|⟨i,hl,rfl⟩
  .exact IC hv (Nat.le_add_right _ _)
  grind
 |succ fuel ih=>
  intro listed a w st hfuel hsz hr hcl hd;refine⟨λhnil=>?_,λj hj=>?_⟩
  ·
   cases hrem:Vg es listed with
   |nil=>simp_all
   |cons e l=>
    have hmem:e∈Vg es listed:=by rw[hrem];simp
    have⟨he,hun⟩:=US.1 hmem;have hsr:(Vg es listed).Pairwise λa b=>a.i<b.i:=hsort.filter _;rw[hrem,ID]at hsr;have⟨hlt,hget⟩:=XfP hi he;have hoe:ops[e.i]? = some e.o:=by
     have:(es.map (·.o))[e.i]? = some e.o:=by simp[hget]
     rw[ho]at this;simpa using this
    have:e.i∈Region.ready .any ops listed:=by
     refine mem_ready.2 ⟨by simpa using hun,e.o,hoe,λd hd hb=>?_⟩;have h1:=hedge e he;unfold Xo7 at h1;simp only[Ud]at h1;have h2:=h1 d (by simpa using hd);simp only[hb,Wo,U9,decide_eq_true_eq]at h2;have hdl:d.on<es.length:=aa;cases hv:listed.getD d.on false with
     |true=>rfl
     |false=>
      have hmem2:es[d.on]∈Vg es listed:=by
       refine US.2 ⟨WO _,?_⟩;have e1:es[d.on].i=d.on:=by
        have h2:(es.map (·.i))[d.on]? = some es[d.on].i:=by simp[hdl]
        rw[hi,List.getElem?_range hdl]at h2;simpa using h2.symm
       rw[e1,getD_flip _ _ aa,hv];rfl
      have e1:es[d.on].i=d.on:=by
       have h2:(es.map (·.i))[d.on]? = some es[d.on].i:=by simp[hdl]
       rw[hi,List.getElem?_range hdl]at h2;simpa using h2.symm
      rw[hrem]at hmem2;rcases UY.1 hmem2 with h|h
      .rw[h]at e1;omega
      have:=hsr.1 _ h;omega
    simp_all
  have⟨hun,o,hoj,hall⟩:=mem_ready.1 hj;obtain⟨e,he,hget,hei,rfl⟩:=Xkx ho hi hoj;have hmem:e∈Vg es listed:=US.2 ⟨he,by rw[hei,hun];rfl⟩;have⟨l1,l2,hsplit⟩:=List.append_of_mem hmem;have hsr:(Vg es listed).Pairwise λa b=>a.i<b.i:=hsort.filter _;rw[hsplit]at hsr;have⟨hs1,hs2,hs3⟩:=IN.1 hsr;rw[ID]at hs2;have hjsz:j<listed.size:=by
   rcases Uq j listed.size with h'|h'
   .exact h'
   simp[Array.getElem?_eq_none h']at hun
  have hap:∀x∈l1,Xci x e=true:=by
   intro x hx;have hxl:x∈Vg es listed:=by rw[hsplit];exact W0 _ hx
   obtain⟨hxe,hxun⟩:=US.1 hxl;have hlt:x.i<e.i:=hs3 x hx e ab;have h1:=hpair e he;unfold Xo8 at h1;simp only[Ud]at h1;have h2:=h1 x hxe;simp only[hlt,decide_true,Wo,U9,Ij]at h2;rcases h2 with h2|h2
   .have h3:=hanc e he;unfold XpN at h3;simp only[Ud]at h3;have h4:=h3 x.i (by simpa using h2);simp only[List.any_eq_true,W6,Ij,beq_iff_eq]at h4;have⟨d,hd,hb,hor⟩:=h4;have hl:listed.getD d.on false=true:=hall d (by simpa using hd) hb;have hxl:listed.getD x.i false=true:=by
     rcases hor with hor|hor
     .rw[←hor];exact hl
     cases hg:es[d.on]? with
     |none=>rw[hg]at hor;simp at hor
     |some y=>
      rw[hg]at hor;have hy:=Ui hg;have hyi:y.i=d.on:=by
       have hdl:d.on<es.length:=by
        rcases Uq d.on es.length with h'|h'
        .exact h'
        rw[WY h']at hg;cases hg
       have h2:(es.map (·.i))[d.on]? = some y.i:=by simp[hg]
       rw[hi,List.getElem?_range hdl]at h2;simpa using h2.symm
      exact hcl y hy (by rw[hyi];exact hl) x.i (by simpa using hor)
    have:x.i<listed.size:=by rw[hsz];exact(XfP hi hxe).1
    rw[getD_flip _ _ this,hxl]at hxun;cases hxun
   exact h2
  rw[hsplit]at hd;have hst:=Xbp hap hd;have hrem':Vg es (listed.setIfInBounds j true)=l1++l2:=by
   have h1:Vg es (listed.setIfInBounds j true)=(Vg es listed).filter λx=>x.i != j:=by
    unfold Vg;rw[List.filter_filter];refine List.filter_congr λx hx=>?_;by_cases hxj:x.i=j
    .rw[hxj];simp[hjsz]
    rw[getD_set_ne true (Ne.symm hxj)];simp[hxj]
   rw[h1,hsplit,List.filter_append,List.filter_cons];have h2:(e.i != j)=false:=by simp[hei]
   rw[h2];have h3:l1.filter (λx=>x.i != j)=l1:=Iu.2 λx hx=>by have:=hs3 x hx e ab;simp;omega
   have h4:l2.filter (λx=>x.i != j)=l2:=Iu.2 λx hx=>by have:=hs2.1 x hx;simp;omega
   rw[h3,h4];simp
  have hnotU:¬UD k0 listed (k0+e.i):=by
   rintro(h|⟨i,hl,h⟩)
   .omega
   have:i=j:=aa;subst this;rw[getD_flip _ _ hjsz,hl]at hun;cases hun
  have hone:=Xkv (Q:=Q) (K:=wpAny P .any ops Q fuel (listed.setIfInBounds j true)) hr hnotU hst λst' a' w' hr' hF=>by
   refine ih (listed.setIfInBounds j true) a' w' st' ?_ (by simpa using hsz) ?_ ?_ (by rw[hrem'];exact hF)
   .rw[hrem'];rw[hsplit]at hfuel;simp at hfuel⊢;omega
   .have⟨h1,h2,M,β,h0,h3,I⟩:=hr';refine⟨h1,h2,M,β,h0,h3,I.mono λv hv=>?_⟩;rcases hv with(hv|⟨i,hl,rfl⟩)|rfl
    .exact .inl hv
    .exact .inr ⟨i,getD_set_true hl,rfl⟩
    exact .inr ⟨j,by simp[hjsz],by rw[hei]⟩
   intro y hy hl x hx;by_cases hyj:y.i=j
   .have hye:y=e:=by have h1:=(XfP hi hy).2;rw[hyj,hget]at h1;simpa using h1.symm
    subst hye;refine getD_set_true ?_;have h3:=hanc y hy;unfold XpN at h3;simp only[Ud]at h3;have h4:=h3 x hx;simp only[List.any_eq_true,W6,Ij,beq_iff_eq]at h4;have⟨d,hd,hb,hor⟩:=h4;have hl:listed.getD d.on false=true:=hall d (by simpa using hd) hb;rcases hor with rfl|hor
    .exact hl
    cases hg:es[d.on]? with
    |none=>rw[hg]at hor;simp at hor
    |some z=>
     rw[hg]at hor;have hz:=Ui hg;have hzi:z.i=d.on:=by
      have hdl:d.on<es.length:=by
       rcases Uq d.on es.length with h'|h'
       .exact h'
       rw[WY h']at hg;cases hg
      have h2:(es.map (·.i))[d.on]? = some z.i:=by simp[hg]
      rw[hi,List.getElem?_range hdl]at h2;simpa using h2.symm
     exact hcl z hz (by rw[hzi];exact hl) x (by simpa using hor)
   have e1:(listed.setIfInBounds j true).getD y.i false=listed.getD y.i false:=by simp[Array.getElem?_setIfInBounds_ne (Ne.symm hyj)]
   rw[e1]at hl;exact getD_set_true (hcl y hy hl x hx)
  unfold wpOp;grind
def DrawnG.of{R:St->Prop}{id:Nat}{k:List It}{st:St}{l:List Oper}(hm:P.follows .mixedOrders=true)(es:List En)(n:Nat)(ho:es.map (·.o)=l)(hi:es.map (·.i)=List.range es.length)(hc:Xkw es=true)(h:dr P C ⟨l⟩ st.k es st λst'=>run P C R n k ⟨st'.t,st'.s,st'.n,st.k+es.length⟩)(t:Prf (⟨l⟩:Array Oper))(hrd:C.rd=none:=by rfl):DrawnG P C R id ⟨l⟩ k st t:=by
 intro a w hr;rw[show fz C.rd=Fence.wide by rw[hrd];rfl];refine wpIn_wide.2 (wp_region_any hm ?_);have hlen:es.length=l.length:=by rw[←ho];simp
 have hrd:RelD P C (UD st.k (Array.replicate (⟨l⟩:Array Oper).size false)) st a {w with drawn:=w.drawn+1}:=by refine RelD.drew ?_ _;obtain⟨h1,h2,M,β,h0,h3,I⟩:=hr;exact⟨h1,h2,M,β,h0,h3,I.mono λv hv=>.inl hv⟩
 have hall:Vg es (Array.replicate (⟨l⟩:Array Oper).size false)=es:=by unfold Vg;refine Iu.2 λe he=>?_;have:=(XfP hi he).1;simp[Array.getElem?_replicate,hlen▸this]
 refine Xs3 (es:=es) (k0:=st.k) ho hi hc ?_ _ _ a _ st (by simp_all) (by simp_all) hrd (λe he hl=>?_) (by rw[hall];exact h)
 .rintro st' a' w' ⟨h1,h2,M,β,h0,h3,I⟩ hK;exact Yp n k (st:=⟨st'.t,st'.s,st'.n,st.k+es.length⟩) ⟨h1,h2,M,β,h0,h3,I⟩ hK
 have:=(XfP hi he).1;simp_all
end
variable {P:Program}
def Xrh:Nat->List Oper->List (List Nat×List Nat×List Nat×List Nat)->List En
 |i,o::l,(a,w,m,k)::x=>⟨i,o,a,w,m,k⟩::Xrh (i+1) l x
 |_,_,_=>[]
def CallD(P:Program)(G:Nat->Option (List D))(f:FuncId)(args:List D)(obs:List Ob)(K:D->List Ob->Prop)[Tag (G,K)](_:Prf args):Prop:=
 ∃eargs R,ZK args eargs/\YM P G f eargs obs R/\(∃r ls,R r ls)/\∀r ls,R r ls->K r ls
def doT(P:Program)(C:Cx)(e:En)(ver:Nat)(s:Heap)(x:Option Kd)(st:St)(F:St->Prop)[Tag (C,e,s,st,F)](_:Prf x):Prop:=
 doK P C e ver s x λd u=>F (nx st (XO e.o.dst st.n) d u st.n st.k)
def Xo9(P:Program)(C:Cx)(s:Heap)(f:FuncId)(args:List D)(K:D->Prop)[Tag (C,s,K)](_:Prf args):Prop:=
 ∃eargs R,RoA P C s args eargs/\YM P C.G f eargs [] R/\(∃r ls,R r ls)/\∀r ls,R r ls->scal r=true/\K r
section
variable {C:Cx}{full:Array Oper}{k0:Nat}{st:St}{K F:St->Prop}{e:En}{es:List En}{ver:Nat}{s:Heap}
def XpO:dr P C full k0 [] st K=K st:=propext Iff.rfl
def XnD:dr P C full k0 (e::es) st K=doT P C e (k0+e.i) (Zh e.mi st.s) (kdE P C full (k0+e.i) e.o (Z4 e.ms st.t) (Zh e.mi st.s)) st (λst=>dr P C full k0 es st K) trivial:=propext Iff.rfl
def XnE{c:Prop}{d:D}{u:Up}{t':Prf (some (Kd.det c d u))}:doT P C e ver s (some (.det c d u)) st F t'=(c/\Ku u e.ws/\XfA (XO e.o.dst st.n) st.n st.k (λdst n k=>F (nx st dst d u n k)) trivial):=propext Iff.rfl
def Xky{c:Prop}{f:FuncId}{as:List D}{ids:List Nat}{obs:List Ob}{fz:List Nat}{t':Prf (some (Kd.call c f as ids obs fz))}:doT P C e ver s (some (.call c f as ids obs fz)) st F t'=(c/\CallD P C.G f as obs (λr ls=>
 XpA (aft s ids fz r ls ver (64*(C.off+e.o.dst.getD 0))) (XO e.o.dst st.n) st.n st.k (λdst d u n k=>Ku u e.ws/\F (nx st dst d u n k)) trivial) trivial):=propext Iff.rfl
def XpP{f:FuncId}{args:List D}{t':Prf (some (Kd.ro f args))}:doT P C e ver s (some (.ro f args)) st F t'=Xo9 P C s f args (λr=>XfA (XO e.o.dst st.n) st.n st.k (λdst n k=>F (nx st dst r [] n k)) trivial) trivial:=propext Iff.rfl
def XpQ{r:Nat}{x:Option Kd}:kdG (.v (.bool true)) r true x=x:=rfl
def XpR{r:Nat}{x:Option Kd}:kdG (.v (.bool false)) r false x=x:=rfl
def XpS{r:Nat}{x:Option Kd}:kdG (.v (.bool true)) r false x=some (.det True (.v undef) []):=rfl
def XpT{r:Nat}{x:Option Kd}:kdG (.v (.bool false)) r true x=some (.det True (.v undef) []):=rfl
def Xri{r:Nat}{want:Bool}{x:Option Kd}{vs:Array Value}:kdG (.v (.tuple vs)) r want x=some (.det True (.v undef) []):=rfl
def Xkz{dst:Option Nat}{op:Op}{ty:Nat}{pos:String}{af:Array Edge}{t:Nat->D}:kdE P C full ver ⟨dst,op,ty,pos,af,none⟩ t s=kdO P C ver ⟨dst,op,ty,pos,af,none⟩ t s:=rfl
def kdF(r:Option Nat)(t:Nat->D)(want:Bool)(x:Option Kd):Option Kd:=match r with
 |some r=>kdG (t r) r want x
 |none=>none
def XkA{r:Nat}{t:Nat->D}{want:Bool}{x:Option Kd}:kdF (some r) t want x=kdG (t r) r want x:=rfl
def XkB{dst:Option Nat}{op:Op}{ty:Nat}{pos:String}{af:Array Edge}{t:Nat->D}{g:Nat}{want:Bool}:kdE P C full ver ⟨dst,op,ty,pos,af,some (g,want)⟩ t s=kdF ((full[g]?).bind (·.dst)) t want (kdO P C ver ⟨dst,op,ty,pos,af,some (g,want)⟩ t s):=by rfl
def kdI(P:Program)(C:Cx)(x:Option Call)(ver:Nat)(o:Oper)(t:Nat->D)(s:Heap):Option Kd:=match x with
 |some c=>kd3 C.G s (callee (ev t C.G) c)
 |none=>kd1 (opF P (Xfz C.off o.dst) ver (ev t C.G) s o.op)
def XpU{o:Oper}{t:Nat->D}:kdO P C ver o t s=kdI P C (JJ o.op) ver o t s:=by rfl
def XkC{o:Oper}{t:Nat->D}:kdI P C none ver o t s=kd1 (opF P (Xfz C.off o.dst) ver (ev t C.G) s o.op):=rfl
def XkD{o:Oper}{t:Nat->D}{c:Call}:kdI P C (some c) ver o t s=kd3 C.G s (callee (ev t C.G) c):=rfl
def XkE{c:Prop}{d:D}{u:Up}:kd1 (some (c,d,u))=some (.det c d u):=rfl
def XkF{f:Nat}{args:List D}{cc:Prop}{as:List D}{ids:List Nat}{obs:List Ob}{fz:List Nat}:kd2 f args (some (cc,as,ids,obs,fz))=some (.call cc f as ids obs fz):=rfl
def XkG{f:Nat}{args:List D}:kd2 f args none=some (.ro f args):=rfl
def XkH{G:Nat->Option (List D)}{f:Nat}{args:List D}:kd3 G s (some (f,args))=kd2 f args (XeD G f (Y0 s args)):=rfl
def XpV{G:Nat->Option (List D)}{f:Nat}{α:Type}{x:Option α}(h:G (roK f)=none):XeD G f x=x:=by unfold XeD;simp_all
def XpW{G:Nat->Option (List D)}{f:Nat}{α:Type}{x:Option α}{y:List D}(h:G (roK f)=some y):XeD G f x=none:=by unfold XeD;simp_all
def Xjh{ws:List Nat}:Ku [] ws=True:=by simp[Ku]
def Xg8{i v:Nat}{o:Ob}{u:Up}{ws:List Nat}:Ku ((i,v,o)::u) ws=(i∈ws/\Ku u ws):=by simp[Ku]
def XkI{ms:List Nat}{t:Nat->D}{x:Nat}:Z4 ms t x=if ms.contains x then .any else t x:=rfl
def XkJ{ms:List Nat}{x:Nat}:Zh ms s x=if ms.contains x then none else s x:=rfl
def Xq{b:Bool}{r:Nat}{x:Option Kd}(hr:st.t r=.v (.bool b))(h1:b=true->doT P C e ver s x (VP st r (.v (.bool true))) F trivial)(h2:b=false->doT P C e ver s (some (.det True (.v undef) [])) (VP st r (.v (.bool false))) F trivial)(t':Prf (kdG (.v (.bool b)) r true x)):doT P C e ver s (kdG (.v (.bool b)) r true x) st F t':=by
 cases b
 .have:=h2 rfl;rw[Y7 hr]at this;exact this
 have:=h1 rfl;rw[Y7 hr]at this;exact this
def Xr{b:Bool}{r:Nat}{x:Option Kd}(hr:st.t r=.v (.bool b))(h1:b=true->doT P C e ver s (some (.det True (.v undef) [])) (VP st r (.v (.bool true))) F trivial)(h2:b=false->doT P C e ver s x (VP st r (.v (.bool false))) F trivial)(t':Prf (kdG (.v (.bool b)) r false x)):doT P C e ver s (kdG (.v (.bool b)) r false x) st F t':=by
 cases b
 .have:=h2 rfl;rw[Y7 hr]at this;exact this
 have:=h1 rfl;rw[Y7 hr]at this;exact this
def CallD.of{G:Nat->Option (List D)}{f:FuncId}{args eargs:List D}{obs:List Ob}{R:D->List Ob->Prop}{K:D->List Ob->Prop}(h:YM P G f eargs obs R)(hf:ZK args eargs)(hne:∃r ls,R r ls)(hK:∀r ls,R r ls->K r ls)(t':Prf args):CallD P G f args obs K t':=
 ⟨eargs,R,hf,h,hne,hK⟩
end
def XnF{ls:List Ob}:KU ls 1000000=(ls[0]?).map (λo=>(0,o)):=KX (j:=0)
def XnG{ls:List Ob}:KU ls 1000001=(ls[1]?).map (λo=>(0,o)):=KX (j:=1)
def XnH{ls:List Ob}:KU ls 1000002=(ls[2]?).map (λo=>(0,o)):=KX (j:=2)
def XnI{ls:List Ob}:KU ls 1000003=(ls[3]?).map (λo=>(0,o)):=KX (j:=3)
def XnJ{ls:List Ob}:KU ls 1000004=(ls[4]?).map (λo=>(0,o)):=KX (j:=4)
def XnK{ls:List Ob}:KU ls 1000005=(ls[5]?).map (λo=>(0,o)):=KX (j:=5)
attribute [go_sem] LB XnF XnG XnH XnI XnJ XnK
attribute [go_sem ↓] XpO XnD Xkz XkB XpU
attribute [go_sem] XnE Xky XpP XkG XpQ XpR XpS XpT Xri XkA XkC XkD XkE XkF XkH Xjh Xg8 XkI XkJ Xrh List.contains_cons List.contains_nil Bool.or_false Bool.or_true U9 Bool.true_or
attribute [go_sem ↓] Xnk Xkj Xnl Xkk XpB Xkl Xnm Xkm Xi5 Xkn Xi6 Xi7 Xnn Xko Xg1 Xi8 XfF XfG Xjd
attribute [go_sem] XfH Xi9 Xja Xjb Xjc Xkp Xno Xnp Xg2 Xkq Xg3 Xg4 Xg5 XfI XfJ XfK XbH XfL Xq4 Xq5 Xq6 XpC Xq7 Xq8 Xq9 Xra Xrb XpD Xnr Xrc XfE Xfz Xnq XsZ Xs0 Xs1 Xq2 Xq3 Xs2 Xrd Xre Xrf Xrg Zn YP Kb Xje KX XpI XpJ XpK XpL
attribute [go_sem] Xb2 XgO Xep Xdo Xb3 Xb4 XgP Option.isSome_some Option.isSome_none Option.isNone_some Option.isNone_none
attribute [go_sem] undef JJ callee opF ev ofV Xj1 okV XO Xbm Xj2 ivD ivO Xen Jm elems KS Xb0 Xb1 Z7 D.cells D.one Value.oneCell' I8.isAgg I8.isIface Kw Xdn Xeq snap Zx J6 Xaf Xdm Y0 Zs lend KV pos Zy aft scal Jo Vb imp J0 Jq XfD Xki Xg0 shut Xbo Xal Xni Ye Xeo Xp
attribute [go_sem] Uo IE Ug Uz List.getElem?_cons_zero List.getElem?_cons_succ List.getElem?_nil U5 Option.getD_none IR IF Option.map_none UW true_and and_true ne_eq false_implies Un Uy W4 WQ WU WR Int.toNat_natCast Wb Wa Wo Uf if_true if_false ite_true ite_false U4 List.isEmpty_nil List.isEmpty_cons Bool.and_true Bool.and_false W3 Ut U1 Uh List.cons_append List.getD_cons_zero List.getD_cons_succ WX List.drop_succ_cons List.take_succ_cons List.take_zero List.head?_cons List.headD_cons List.all_cons List.all_nil Ic List.set_cons_succ UY List.not_mem_nil or_false or_true false_or not_false_eq_true not_true_eq_false List.nodup_nil List.nodup_cons implies_true forall_const decide_true decide_false and_self XpE XpF Xns Xnt Xnu Xnv Xnw Xnx XpG XpH Xny Xnz XnA XnB Xh4 Xh5 List.replicate_succ List.replicate_zero
variable {P:Program}
def XnL(n:Int):IntKind.wrap .i64 n=wI n:=rfl
def XnM(n:Int):IntKind.wrap .u64 n=wU n:=rfl
def XnN(n:Int):IntKind.wrap .u32 n=wW n:=rfl
section
variable {k k':IntKind}{a b:Int}{T:Nat}{p q:Bool}{xs ys:List D}
def XkK:YL P .add T (.v (.int k a)) (.v (.int k b))=some (True,.v (.int k (k.wrap (a+b)))):=by simp[YL,JZ]
def XkL:YL P .sub T (.v (.int k a)) (.v (.int k b))=some (True,.v (.int k (k.wrap (a-b)))):=by simp[YL,JZ]
def XkM:YL P .mul T (.v (.int k a)) (.v (.int k b))=some (True,.v (.int k (k.wrap (a*b)))):=by simp[YL,JZ]
def XkN:YL P .quo T (.v (.int k a)) (.v (.int k b))=some (b≠0,.v (.int k (k.wrap (a.tdiv b)))):=by simp[YL,JZ]
def XkO:YL P .rem T (.v (.int k a)) (.v (.int k b))=some (b≠0,.v (.int k (a.tmod b))):=by simp[YL,JZ]
def XkP:YL P .and T (.v (.int k a)) (.v (.int k b))=some (True,.v (.int k (Zc k a b))):=by simp[YL,JZ,Zc]
def XnO:YL P .or T (.v (.int k a)) (.v (.int k b))=some (True,.v (.int k (bOr k a b))):=by simp[YL,JZ,bOr]
def XkQ:YL P .xor T (.v (.int k a)) (.v (.int k b))=some (True,.v (.int k (Xm0 k a b))):=by simp[YL,JZ,Xm0]
def XfQ:YL P .andNot T (.v (.int k a)) (.v (.int k b))=some (True,.v (.int k (XbF k a b))):=by simp[YL,JZ,XbF]
def XkR:YL P .eql T (.v (.int k a)) (.v (.int k b))=some (True,.v (.bool (a==b))):=by simp[YL,JZ]
def XkS:YL P .neq T (.v (.int k a)) (.v (.int k b))=some (True,.v (.bool (a != b))):=by simp[YL,JZ]
def XkT:YL P .lss T (.v (.int k a)) (.v (.int k b))=some (True,.v (.bool (a<b))):=by simp[YL,JZ]
def XkU:YL P .leq T (.v (.int k a)) (.v (.int k b))=some (True,.v (.bool (a<=b))):=by simp[YL,JZ]
def XkV:YL P .gtr T (.v (.int k a)) (.v (.int k b))=some (True,.v (.bool (a>b))):=by simp[YL,JZ]
def XkW:YL P .geq T (.v (.int k a)) (.v (.int k b))=some (True,.v (.bool (a>=b))):=by simp[YL,JZ]
def XkX:YL P .shl T (.v (.int k a)) (.v (.int k' b))=some (0<=b,.v (.int k (ZQ k a b))):=by rfl
def XkY:YL P .shr T (.v (.int k a)) (.v (.int k' b))=some (0<=b,.v (.int k (YA k a b))):=by rfl
def isB:Option I8->Option (Prop×D)->Option (Prop×D)
 |some ⟨_,_,_,.bool⟩,x=>x
 |_,_=>none
def Xrj{x y:Nat}{z:Value}{r:Option (Prop×D)}:isB (some ⟨x,y,z,.bool⟩) r=r:=rfl
def XkZ:YL P .eql T (.v (.bool p)) (.v (.bool q))=isB (Xo P T) (some (True,.v (.bool (p==q)))):=by simp only[YL];unfold isB;grind
def Xk0:YL P .neq T (.v (.bool p)) (.v (.bool q))=isB (Xo P T) (some (True,.v (.bool (!(p==q))))):=by simp only[YL];unfold isB;grind
def eqA(neg:Bool):Option (List (Option IntKind))->List D->List D->Option (Prop×D)
 |some ks,xs,ys=>(Ye ks xs ys).map λb=>(True,.v (.bool (bif neg then !b else b)))
 |none,_,_=>none
def Xk1{neg:Bool}{ks:List (Option IntKind)}:eqA neg (some ks) xs ys=(Ye ks xs ys).map λb=>(True,.v (.bool (bif neg then !b else b))):=rfl
def Xk2:YL P .eql T (.agg xs) (.agg ys)=eqA false (Yc P T) xs ys:=by
 simp only[YL];cases Yc P T with
 |none=>rfl
 |some ks=>simp only[eqA];cases Ye ks xs ys<;>rfl
def Xk3:YL P .neq T (.agg xs) (.agg ys)=eqA true (Yc P T) xs ys:=by
 simp only[YL];cases Yc P T with
 |none=>rfl
 |some ks=>simp only[eqA];cases Ye ks xs ys<;>rfl
end
def Xji{c:Prop}[Decidable c]{x y:Option (Prop×D×Up)}{dst:Option Nat}{m j:Nat}{f:Option Nat->D->Up->Nat->Nat->Prop}{t':Prf (if c then x else y)}:Xbk (if c then x else y) dst m j f t'=(if c then Xbk x dst m j f trivial else Xbk y dst m j f trivial):=by grind
def XnP{c:Prop}[Decidable c]{x y:Option (Prop×D×Up)}:kd1 (if c then x else y)=(if c then kd1 x else kd1 y):=by grind
def XnQ{C:Cx}{e:En}{ver:Nat}{s:Heap}{c:Prop}[Decidable c]{x y:Option Kd}{st:St}{F:St->Prop}{t':Prf (if c then x else y)}:doT P C e ver s (if c then x else y) st F t'=(if c then doT P C e ver s x st F trivial else doT P C e ver s y st F trivial):=by grind
def Xpa{c a b:Prop}[Decidable c](h1:c->a)(h2:¬c->b):if c then a else b:=by simp_all
def Eqs(e:D)(ls:List Ob)(d:D)(os:List Ob):Prop:=d=e/\os=ls
def XpX{e:D}{ls:List Ob}:∃d os,Eqs e ls d os:=⟨_,_,rfl,rfl⟩
def Xt{a b:Prop}(h:a)(h':b):a/\b:=⟨h,h'⟩
def Xk4{α:Type}{l:List α}{n:Nat}(h:l.length<=n):l.take n=l:=Uj h
def Xk5{C:Cx}{R:St->Prop}{c:Code}{k:List It}{st:St}{α β:Type}{o:Option α}{f:α->Option β}{r:β}{I:(α->Prop)->Nat->St->Prop}(hr:bnd o f=some r)(m n:Nat)(h0:∀ex,o=some ex->f ex=some r->I (λy=>f y=some r) n st)(round:∀n st,I (λy=>f y=some r) n st->run P C R m (.code c::.stop (λst'=>∃n',n'<n/\I (λy=>f y=some r) n' st')::k) st)(t':Prf c):LoopG P C R c k st t':=
 Xae hr λex h1 h2=>LoopG.of (I (λy=>f y=some r)) m n (h0 ex h1 h2) round t'
def XeF{α:Type}{x:α}{l:List α}{n:Nat}:List.take (1+n) (x::l)=x::List.take n l:=by grind
def CallG.ofE{G:Nat->Option (List D)}{f:FuncId}{args eargs:List D}{obs ls:List Ob}{e:D}{K:D->List Ob->Prop}(h:YM P G f eargs obs (Eqs e ls))(hf:ZK args eargs)(hK:K e ls)(t':Prf args):CallG P G f args obs K t':=
 CallG.of h hf (λ_ _ ⟨h1,h2⟩=>h1▸h2▸hK) t'
def CallD.ofE{G:Nat->Option (List D)}{f:FuncId}{args eargs:List D}{obs ls:List Ob}{e:D}{K:D->List Ob->Prop}(h:YM P G f eargs obs (Eqs e ls))(hf:ZK args eargs)(hK:K e ls)(t':Prf args):CallD P G f args obs K t':=
 CallD.of h hf XpX (λ_ _ ⟨h1,h2⟩=>h1▸h2▸hK) t'
def XP{d e:D}{obs ls:List Ob}(h:fitsR d e/\obs=ls):RetG d obs (Eqs e ls):=⟨_,h.1,rfl,h.2⟩
def XpY{a c:Nat}{b d:Ob}:(some (a,b)=some (c,d))=(a=c/\b=d):=by simp
def Xrk{a b:D}{l m:List D}:(a::l=b::m)=(a=b/\l=m):=by simp
def XpZ{a b:List D}{l m:List (List D)}:(a::l=b::m)=(a=b/\l=m):=by simp
def Xp0{a b:Ob}{l m:List Ob}:(a::l=b::m)=(a=b/\l=m):=by simp
attribute [go_sem] fits ZK fitsR JK Xrk XpZ Xp0 XpY D.osl.injEq D.ept.injEq Ob.arr.injEq exists_eq_left' exists_eq_left exists_eq exists_eq' exists_and_left exists_const or_self true_or or_true false_or or_false false_and and_false eq_self
attribute [go_sem] Xji XnP XnQ XeF Nat.sub_zero Xk4 XnL XnM XnN XkK XkL XkM XkN XkO XkP XnO XkQ XfQ XkR XkS XkT XkU XkV XkW XkX XkY XkZ Xk0 Xrj Xk1 Xk2 Xk3 List.map_append List.map_set List.map_take List.map_drop List.map_replicate
end Go.Sx
