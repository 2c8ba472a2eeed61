import Derived.LoopNIn
import Derived.OrdersIn
import Derived.TacticsIn
import Derived.Scope
import Derived.Test.YtokkmapiallffaaGreatDoorKA
set_option linter.all false
namespace Go.Sx
variable {P:Program}
section
variable {C:Cx}{s:Heap}{U:Nat->Prop}{ver:Nat}{M:Mem}{β:Loc}{w:World}
def XaU{fd:Field}(e:P.cellsOf fd.type≠0)(b o:Nat):(fieldPlace ⟨b,o,none⟩ fd).run P w=.ok ⟨b,o+fd.offset,none⟩ w:=by have:=Jj (P:=P) (t:=fd.type) rfl e w;simp[fieldPlace,this,e,U1]
def Xa3{fields:Array Field}{f off sz ft:Nat}(h:(fields.toList.map λf=>(f.offset,P.cellsOf f.type,f.type))[f]? = some (off,sz,ft)):∃fd,fields[f]? = some fd/\fd.offset=off/\P.cellsOf fd.type=sz/\fd.type=ft:=by simp_all
def XiJ(fields:Array Field)(e:∀fd∈fields.toList,((P.info? fd.type).map (·.size)).isSome=true)(w:World):
 (fields.mapM λf=>do pure (f.offset,←sizeOf f.type):Sem (Array (Nat×Nat))).run P w=.ok (fields.map λf=>(f.offset,P.cellsOf f.type)) w:=by
 rw[Array.mapM_eq_mapM_toList];have:∀l:List Field,(∀fd∈l,((P.info? fd.type).map (·.size)).isSome=true)->(l.mapM λf=>do pure (f.offset,←sizeOf f.type):Sem (List (Nat×Nat))).run P w=.ok (l.map λf=>(f.offset,P.cellsOf f.type)) w:=by
  intro l;induction l with
  |nil=>simp
  |cons f l k=>
   intro h;have o:=h f ac;have g:=k λfd p=>h fd (by simp[p]);cases j:P.info? f.type with
   |none=>simp[j]at o
   |some i=>
    have:(sizeOf f.type).run P w=.ok (P.cellsOf f.type) w:=by simp[sizeOf,typeInfo,j,Program.cellsOf]
    simp only[List.mapM_cons,Sem.run_bind,this,Result.andThen_ok,Sem.run_pure,g,UA]
 have h:=this fields.toList e;simp only[Sem.run_map,h,Result.andThen_ok];congr 1;grind
def XpE(I:U7 P C s U M β w)(_hv:¬U ver){dst:Option Tmp}{type:TypeId}{pos:String}{after:Array Edge}{guard:Option (Nat×Bool)}(ρ:Operand->Value)(t:Operand->D)(hρ:∀x,Rep P M β (t x) (ρ x)){c:Prop}{d:D}{u:Up}(x:Operand)(h:opF P dst ver t s (.move x)=some (c,d,u))(e:c):OpOK P C s u U ver M β ((execOp ρ ⟨dst,(.move x),type,pos,after,guard⟩).run P w) d:=by unfold execOp;obtain⟨rfl,rfl,rfl⟩:=h;exact .val I rfl (hρ x)
def Xla(I:U7 P C s U M β w)(_hv:¬U ver){dst:Option Tmp}{type:TypeId}{pos:String}{after:Array Edge}{guard:Option (Nat×Bool)}(ρ:Operand->Value)(t:Operand->D)(hρ:∀x,Rep P M β (t x) (ρ x)){c:Prop}{d:D}{u:Up}(x:Operand)(h:opF P dst ver t s (.assign x)=some (c,d,u))(e:c):OpOK P C s u U ver M β ((execOp ρ ⟨dst,(.assign x),type,pos,after,guard⟩).run P w) d:=by unfold execOp;obtain⟨rfl,rfl,rfl⟩:=h;exact .val I rfl (hρ x)
def XpF(I:U7 P C s U M β w)(_hv:¬U ver){dst:Option Tmp}{type:TypeId}{pos:String}{after:Array Edge}{guard:Option (Nat×Bool)}(ρ:Operand->Value)(t:Operand->D)(hρ:∀x,Rep P M β (t x) (ρ x)){c:Prop}{d:D}{u:Up}(g:Operand)(a:Operand)(b:Operand)(h:opF P dst ver t s (.pick g a b)=some (c,d,u))(y:c):OpOK P C s u U ver M β ((execOp ρ ⟨dst,(.pick g a b),type,pos,after,guard⟩).run P w) d:=by
 unfold execOp;simp only[opF]at h;split at h
 .rename_i f k;obtain⟨rfl,rfl,rfl⟩:=h;have e:=hρ g;rw[k]at e;refine .val I (v:=if f then ρ a else ρ b) (by simp[e.1,asBool]) ?_;have j:=hρ a;have hb:=hρ b;unfold Xmo;split
  .rename_i p q o r;rw[o]at j;rw[r]at hb;cases f
   .simp[Rep,hb.1,wfV]
   simp[Rep,j.1,wfV]
  cases f
  .exact hb
  exact j
 simp_all
def Xmu(I:U7 P C s U M β w)(k:¬U ver){dst:Option Tmp}{type:TypeId}{pos:String}{after:Array Edge}{guard:Option (Nat×Bool)}(ρ:Operand->Value)(t:Operand->D)(_hρ:∀x,Rep P M β (t x) (ρ x)){c:Prop}{d:D}{u:Up}(T:TypeId)(h:opF P dst ver t s (.alloc T)=some (c,d,u))(q:c):OpOK P C s u U ver M β ((execOp ρ ⟨dst,(.alloc T),type,pos,after,guard⟩).run P w) d:=by
 unfold execOp;simp only[opF]at h;split at h
 .rename_i ty j;split at h
  .rename_i r g;split at h
   .rename_i f;obtain⟨rfl,rfl,rfl⟩:=h;have⟨o,p⟩:=Zk (P:=P) (M:=M) (β:=β) g;have e:(Instr.alloc T true (.tuple #[])).run P w=((do pure (Value.pointer (some (←newVar T ty.zero))):Sem Value)).run P w:=by simp[Instr.alloc,KB j]
    exact VOK.op (sem:=Instr.alloc T true (.tuple #[])) (by rw[e];exact Xmq I k j o p f.1 f.2 (KS dst))
   cases h
  cases h
 simp_all
def Xr1(I:U7 P C s U M β w)(g:¬U ver){dst:Option Tmp}{type:TypeId}{pos:String}{after:Array Edge}{guard:Option (Nat×Bool)}(ρ:Operand->Value)(t:Operand->D)(hρ:∀x,Rep P M β (t x) (ρ x)){c:Prop}{d:D}{u:Up}(T:TypeId)(x:Operand)(h:opF P dst ver t s (.box T x)=some (c,d,u))(j:c):OpOK P C s u U ver M β ((execOp ρ ⟨dst,(.box T x),type,pos,after,guard⟩).run P w) d:=by
 unfold execOp;simp only[opF]at h;split at h
 .rename_i ty q k e;split at h
  .rename_i f;obtain⟨rfl,rfl,rfl⟩:=h;have⟨o,p⟩:=K4 e (hρ x);exact VOK.op (Xmq I g k o p j f (KS dst))
  cases h
 simp_all
def Xmv(I:U7 P C s U M β w)(_hv:¬U ver){dst:Option Tmp}{type:TypeId}{pos:String}{after:Array Edge}{guard:Option (Nat×Bool)}(ρ:Operand->Value)(t:Operand->D)(hρ:∀x,Rep P M β (t x) (ρ x)){c:Prop}{d:D}{u:Up}(T:TypeId)(parts:Array (Nat×Operand))(h:opF P dst ver t s (.build T parts)=some (c,d,u))(V:c):OpOK P C s u U ver M β ((execOp ρ ⟨dst,(.build T parts),type,pos,after,guard⟩).run P w) d:=by
 unfold execOp;simp only[opF]at h;split at h
 .rename_i ty p;have⟨W,N⟩:=XeU hρ parts.toList;split at h
  .rename_i z Y g A;simp only[Uo,Wx]at h;obtain⟨r,B,rfl,rfl,rfl⟩:=h;have⟨E,R⟩:=Zk (P:=P) (M:=M) (β:=β) g;have⟨G,H,J,k0⟩:=ty;subst A;obtain⟨fields,K,rfl,k⟩:=Vi p;have⟨o,k1,k2⟩:=Xdk _ (λi=>(fields.map λf=>(f.offset,P.cellsOf f.type))[i]?) (λi x q=>by
    simp only[Uo,US,U2]at q
    obtain⟨y,⟨fd,S,rfl⟩,rfl⟩:=q
    simp[S]) _ (parts.map λx=>(x.1,ρ x.2)).toList z J.cells r B E ac (by simpa using N)
   refine .val I (v:=.agg o) ?_ ?_
   .simp only[Instr.build,Sem.run_bind,KB p,Result.andThen_ok,run_underlying K,XiJ fields k,k1,Sem.run_pure]
   exact⟨o.toList,ac,k2⟩
  .rename_i z n e sz g A;split at h
   .rename_i Z O;simp only[Uo,Wx]at h;obtain⟨r,B,rfl,rfl,rfl⟩:=h;have⟨E,R⟩:=Zk (P:=P) (M:=M) (β:=β) g;have⟨G,H,J,k0⟩:=ty;subst A;have⟨K,L⟩:=K3 p;have j:∀w:World,(sizeOf e).run P w=.ok sz w:=λw=>by rw[YD O,L,Xa1 O]
    have⟨o,k1,k2⟩:=Xdk _ (λi=>some (i*sz,sz)) (λi x q=>q) _ (parts.map λx=>(x.1,ρ x.2)).toList z J.cells r B E ac (by simpa using N);refine .val I (v:=.agg o) ?_ ?_
    .simp only[Instr.build,Sem.run_bind,KB p,Result.andThen_ok,run_underlying K,j,k1,Sem.run_pure]
    exact⟨o.toList,ac,k2⟩
   cases h
  cases h
 simp_all
def XeK(I:U7 P C s U M β w)(o:¬U ver){dst:Option Tmp}{type:TypeId}{pos:String}{after:Array Edge}{guard:Option (Nat×Bool)}(ρ:Operand->Value)(t:Operand->D)(hρ:∀x,Rep P M β (t x) (ρ x)){c:Prop}{d:D}{u:Up}(T:TypeId)(n:Nat)(parts:Array (Nat×Operand))(h:opF P dst ver t s (.buildSlice T n parts)=some (c,d,u))(p:c):OpOK P C s u U ver M β ((execOp ρ ⟨dst,(.buildSlice T n parts),type,pos,after,guard⟩).run P w) d:=by
 unfold execOp;simp only[opF]at h;split at h
 .rename_i a b zz E z q;split at h
  .rename_i V r;split at h
   .rename_i W f;split at h
    .rename_i e;have⟨v,y,A,B,G⟩:=e;split at h
     .rename_i Y ps l g;simp only[Uo,Wx]at h;obtain⟨Z,j,rfl,rfl,rfl⟩:=h;have⟨H,J⟩:=XeU hρ parts.toList;have⟨M',I',k,K⟩:=I.freeze l;have⟨L,N⟩:=XeV I k g p K J;have O:ps.map (·.1)=(parts.map λx=>(x.1,ρ x.2)).toList.map (·.1):=by rw[N,H,Array.toList_map]
      have R:RepL P M' Yz (ps.map (·.2)) ((parts.map λx=>(x.1,ρ x.2)).toList.map (·.2)):=by rw[Array.toList_map];exact L
      have⟨M2,β2,w2,S,g1,g2,g3,g4,g5⟩:=VOK.op (XeJ I' o q r f v y A B G j O R (KS dst));refine⟨M2,β2,w2,S,g1,?_,g3,k.trans g4,g5⟩;rw[Za,VR];exact g2
     cases h
    cases h
   cases h
  cases h
 simp_all
def XpG(I:U7 P C s U M β w)(_hv:¬U ver){dst:Option Tmp}{type:TypeId}{pos:String}{after:Array Edge}{guard:Option (Nat×Bool)}(ρ:Operand->Value)(t:Operand->D)(hρ:∀x,Rep P M β (t x) (ρ x)){c:Prop}{d:D}{u:Up}(T:TypeId)(a:Operand)(h:opF P dst ver t s (.load T a)=some (c,d,u))(f:c):OpOK P C s u U ver M β ((execOp ρ ⟨dst,(.load T a),type,pos,after,guard⟩).run P w) d:=by
 unfold execOp;simp only[opF]at h;split at h
 .rename_i ty k p o z g j;split at h
  .rename_i e;obtain⟨rfl,rfl,rfl⟩:=h;exact VOK.op (XpA I g j f e.1 e.2 (hρ a))
  cases h
 simp_all
def Xmw(I:U7 P C s U M β w)(_hv:¬U ver){dst:Option Tmp}{type:TypeId}{pos:String}{after:Array Edge}{guard:Option (Nat×Bool)}(ρ:Operand->Value)(t:Operand->D)(hρ:∀x,Rep P M β (t x) (ρ x)){c:Prop}{d:D}{u:Up}(T:TypeId)(a:Operand)(x:Operand)(h:opF P dst ver t s (.store T a x)=some (c,d,u))(g:c):OpOK P C s u U ver M β ((execOp ρ ⟨dst,(.store T a x),type,pos,after,guard⟩).run P w) d:=by
 unfold execOp;simp only[opF]at h;split at h
 .rename_i ty id v z i W J L;have hp:=hρ a;rw[L]at hp;split at h
  .rename_i N E O K fz j;split at h
   .rename_i R k;split at h
    .rename_i e;have⟨rfl,rfl,f⟩:=e;obtain⟨rfl,rfl,rfl⟩:=h;exact XgU I J j hp k (hρ x) g.1 g.2.1 g.2.2 f
    cases h
   cases h
  .rename_i N E O K fz j;split at h
   .rename_i c1 Y l o;split at h
    .rename_i R k;split at h
     .rename_i e;have⟨rfl,rfl,f,p⟩:=e;obtain⟨rfl,rfl,rfl⟩:=h;have⟨q,r,y,A⟩:=g;have⟨M',I',B,S⟩:=I.freeze l;have G:=snap_rep I B o q S (hρ x);have H:frz s l id=some (v,.arr false E z K fz):=by unfold frz;rw[Wj p];exact j
      have⟨M2,β2,w2,V,g1,g2,g3,g4,g5⟩:=XgU (ver:=ver) I' J H (hp.mono B (BLe.refl _)) k G r y A f;refine⟨M2,β2,w2,V,g1,?_,g3,B.trans g4,g5⟩;rw[Za,VR];exact g2
     cases h
    cases h
   cases h
  cases h
 simp_all
def XgY(I:U7 P C s U M β w)(_hv:¬U ver){dst:Option Tmp}{type:TypeId}{pos:String}{after:Array Edge}{guard:Option (Nat×Bool)}(ρ:Operand->Value)(t:Operand->D)(hρ:∀x,Rep P M β (t x) (ρ x)){c:Prop}{d:D}{u:Up}(x:Operand)(h:opF P dst ver t s (.nilCheck x)=some (c,d,u))(p:c):OpOK P C s u U ver M β ((execOp ρ ⟨dst,(.nilCheck x),type,pos,after,guard⟩).run P w) d:=by
 unfold execOp;simp only;simp only[opF]at h;split at h
 .rename_i id v z i k g;obtain⟨rfl,rfl,rfl⟩:=h;have e:=hρ x;rw[g]at e;have f:=e;have⟨b,q,_,j⟩:=f;refine .val I (v:=ρ x) ?_ e;rw[j];rfl
 .rename_i z r k g;obtain⟨rfl,rfl,rfl⟩:=h;have e:=hρ x;rw[g]at e;have f:=e;have⟨_,b,o,j,_⟩:=f;refine .val I (v:=ρ x) ?_ e;rw[j];rfl
 simp_all
def Xlb(I:U7 P C s U M β w){op:BinOp}{T:TypeId}{x:D}{ρ:Operand->Value}{e:Operand}{c:Prop}{d:D}(h:XfG P op T x=some (c,d))(p:c){vx:Value}(q:Rep P M β x vx){r:Operand}(g:Xdd e=true)(H:∀v,e=.const v->ρ e=v):VOK P C s [] U ver M β ((do eqGuard op T r e vx (ρ e);binOp op T vx (ρ e):Sem Value).run P w) d:=by
 have j:∃l c,ρ e=.slice none l c:=by
  cases e with
  |const v=>
   simp only[Xdd]at g;unfold XiF at g;split at g
   .cases g
   .cases g
   .rename_i l c;exact⟨l,c,H _ rfl⟩
   cases g
  |_=>simp[Xdd]at g
 have⟨u,cy,j⟩:=j;rw[j];have key:∀(a:Option Addr) (l cp:Nat) {y A:Nat} {B:Value} {E z:Nat},Xm P T=some ⟨y,A,B,.slice E z⟩->(Op.equal T (.slice a l cp) (.slice none u cy)).run P w=.ok a.isNone w:=by intro a l cp y A B E z f;unfold Op.equal Op.maxDepth Op.equalIn;cases a<;>simp[run_underlying (XX f).1]
 have k:∀(op:BinOp) (a:Option Addr) (l cp:Nat),(eqGuard op T r e (.slice a l cp) (.slice none u cy)).run P w=.ok () w:=by intro op a l cp;unfold eqGuard;cases op<;>simp
 unfold XfG at h;split at h
 .obtain⟨_,_,_,a,cap,rfl,_,G⟩:=q;split at h
  .rename_i f;obtain⟨rfl,rfl⟩:=h;obtain⟨b,o,rfl,_⟩:=G.resolve_left p;refine .same I (v:=.bool false) ?_ (Zt _);simp[k,binOp,key _ _ _ f]
  .rename_i f;obtain⟨rfl,rfl⟩:=h;obtain⟨b,o,rfl,_⟩:=G.resolve_left p;refine .same I (v:=.bool true) ?_ (Zt _);simp[k,binOp,key _ _ _ f]
  cases h
 .rename_i a l cp;obtain⟨rfl,_⟩:=q;split at h
  .rename_i f;obtain⟨rfl,rfl⟩:=h;refine .same I (v:=.bool a.isNone) ?_ (Zt _);simp[k,binOp,key _ _ _ f]
  .rename_i f;simp only[Wo,Wx]at h;obtain⟨rfl,rfl⟩:=h;refine .same I (v:=.bool (!a.isNone)) ?_ (Zt _);simp[k,binOp,key _ _ _ f]
  cases h
 simp_all
def Xmx(I:U7 P C s U M β w)(_hv:¬U ver){dst:Option Tmp}{type:TypeId}{pos:String}{after:Array Edge}{guard:Option (Nat×Bool)}(ρ:Operand->Value)(t:Operand->D)(hρ:∀x,Rep P M β (t x) (ρ x)){c:Prop}{d:D}{u:Up}(op:BinOp)(T:TypeId)(x:Operand)(y:Operand)(e:TypeId)(g:∀v,y=.const v->ρ y=v)(h:opF P dst ver t s (.binOp op T x y e)=some (c,d,u))(f:c):OpOK P C s u U ver M β ((execOp ρ ⟨dst,(.binOp op T x y e),type,pos,after,guard⟩).run P w) d:=by
 unfold execOp;simp only[opF,Uo,Wx]at h;obtain⟨⟨k,o⟩,hb,rfl,rfl,rfl⟩:=h;split at hb
 .rename_i j;exact VOK.op (Xlb I hb f (hρ x) j g)
 exact VOK.op (Xpz I hb f (hρ x) (hρ y) x y)
def XpH(I:U7 P C s U M β w)(_hv:¬U ver){dst:Option Tmp}{type:TypeId}{pos:String}{after:Array Edge}{guard:Option (Nat×Bool)}(ρ:Operand->Value)(t:Operand->D)(hρ:∀x,Rep P M β (t x) (ρ x)){c:Prop}{d:D}{u:Up}(op:UnOp)(T:TypeId)(x:Operand)(h:opF P dst ver t s (.unOp op T x)=some (c,d,u))(g:c):OpOK P C s u U ver M β ((execOp ρ ⟨dst,(.unOp op T x),type,pos,after,guard⟩).run P w) d:=by
 unfold execOp;simp only;simp only[opF]at h;have e:=hρ x;split at h
 .rename_i b f;obtain⟨rfl,rfl,rfl⟩:=h;rw[f]at e;refine .val I (v:=.bool (!b)) ?_ (Zt _);rw[e.1];simp[Op.unary]
 .rename_i k n f;obtain⟨rfl,rfl,rfl⟩:=h;rw[f]at e;refine .val I (v:=.int k (k.wrap (0-n))) ?_ (YZ _ _ (Z3 _ _));rw[e.1];simp[Op.unary,Op.intArith]
 simp_all
def XiK(I:U7 P C s U M β w)(_hv:¬U ver){dst:Option Tmp}{type:TypeId}{pos:String}{after:Array Edge}{guard:Option (Nat×Bool)}(ρ:Operand->Value)(t:Operand->D)(hρ:∀x,Rep P M β (t x) (ρ x)){c:Prop}{d:D}{u:Up}(S:TypeId)(T:TypeId)(x:Operand)(h:opF P dst ver t s (.convert S T x)=some (c,d,u))(p:c):OpOK P C s u U ver M β ((execOp ρ ⟨dst,(.convert S T x),type,pos,after,guard⟩).run P w) d:=by
 unfold execOp;simp only;simp only[opF]at h;split at h
 .rename_i tS a b zz k q n f g j;obtain⟨rfl,rfl,rfl⟩:=h;have e:=hρ x;rw[j]at e;have⟨i,r,_,o,_⟩:=Yc f;refine .val I (v:=.int k (k.wrap n)) ?_ (YZ _ _ (Z3 _ _));rw[e.1];simp[convert,run_underlying o,run_underlying (XfH g),Conv.intToInt]
 simp_all
def XgZ(I:U7 P C s U M β w)(_hv:¬U ver){dst:Option Tmp}{type:TypeId}{pos:String}{after:Array Edge}{guard:Option (Nat×Bool)}(ρ:Operand->Value)(t:Operand->D)(hρ:∀x,Rep P M β (t x) (ρ x)){c:Prop}{d:D}{u:Up}(fn:Fn)(first:Array Operand)(captured:Array Operand)(h:opF P dst ver t s (.makeFunc fn first captured)=some (c,d,u))(f:c):OpOK P C s u U ver M β ((execOp ρ ⟨dst,(.makeFunc fn first captured),type,pos,after,guard⟩).run P w) d:=by
 unfold execOp;obtain⟨rfl,rfl,rfl⟩:=h;refine .val I (v:=.func fn (first.map ρ) (captured.map ρ)) (by simp[Instr.makeFunc]) ?_;refine⟨first.toList.map ρ,captured.toList.map ρ,?_,XfL hρ _,XfL hρ _⟩;have e:∀l:Array Operand,l.map ρ=⟨l.toList.map ρ⟩:=λl=>by apply Array.ext';simp
 simp_all
def XfO(I:U7 P C s U M β w)(o:¬U ver){dst:Option Tmp}{type:TypeId}{pos:String}{after:Array Edge}{guard:Option (Nat×Bool)}(ρ:Operand->Value)(t:Operand->D)(hρ:∀x,Rep P M β (t x) (ρ x)){c:Prop}{d:D}{u:Up}(T:TypeId)(l:Operand)(f:Operand)(h:opF P dst ver t s (.makeSlice T l f)=some (c,d,u))(p:c):OpOK P C s u U ver M β ((execOp ρ ⟨dst,(.makeSlice T l f),type,pos,after,guard⟩).run P w) d:=by
 unfold execOp;simp only;simp only[opF]at h;split at h
 .rename_i a b zz E z n m q r v;split at h
  .rename_i J y;split at h
   .rename_i K g;split at h
    .rename_i e;obtain⟨rfl,rfl,rfl⟩:=h;have⟨A,rfl,B,G⟩:=p;have⟨k,H,_⟩:=Vk r (hρ l);have⟨L,j,_⟩:=Vk v (hρ f);rw[H,j];exact VOK.op (XpD I o q y g e.1 e.2 A B G (KS dst))
    cases h
   cases h
  cases h
 simp_all
def Xmy(I:U7 P C s U M β w)(_hv:¬U ver){dst:Option Tmp}{type:TypeId}{pos:String}{after:Array Edge}{guard:Option (Nat×Bool)}(ρ:Operand->Value)(t:Operand->D)(hρ:∀x,Rep P M β (t x) (ρ x)){c:Prop}{d:D}{u:Up}(T:TypeId)(x:Operand)(r:Option Operand)(v:Option Operand)(mx:Option Operand)(h:opF P dst ver t s (.slice T x r v mx)=some (c,d,u))(A:c):OpOK P C s u U ver M β ((execOp ρ ⟨dst,(.slice T x r v mx),type,pos,after,guard⟩).run P w) d:=by
 unfold execOp;simp only[opF]at h;split at h
 .rename_i a b zz E sz l S m g j e k;split at h
  .rename_i B o;simp only[Uo,Wx]at h;obtain⟨⟨V,W⟩,G,rfl,rfl,rfl⟩:=h;have⟨k1,p⟩:=Vl hρ j;have⟨k2,q⟩:=Vl hρ e;have⟨H,e3⟩:=Vl hρ k;simp only[p,q,e3];exact VOK.op (Xk6 I g o G A (hρ x))
  cases h
 .rename_i a b zz n E J g j e k;split at h
  .rename_i B z Y o K;split at h
   .rename_i f;have⟨L,rfl,N,O,R⟩:=f;obtain⟨rfl,rfl,rfl⟩:=h;have⟨k1,p⟩:=Vl hρ j;have⟨k2,q⟩:=Vl hρ e;have⟨H,e3⟩:=Vl hρ k;simp only[p,q,e3];have y:=hρ x;rw[K]at y;exact VOK.op (Xk7 I g o L N O R y)
   cases h
  cases h
 simp_all
def XfP(I:U7 P C s U M β w)(_hv:¬U ver){dst:Option Tmp}{type:TypeId}{pos:String}{after:Array Edge}{guard:Option (Nat×Bool)}(ρ:Operand->Value)(t:Operand->D)(hρ:∀x,Rep P M β (t x) (ρ x)){c:Prop}{d:D}{u:Up}(T:TypeId)(x:Operand)(f:Nat)(h:opF P dst ver t s (.fieldAddr T x f)=some (c,d,u))(K:c):OpOK P C s u U ver M β ((execOp ρ ⟨dst,(.fieldAddr T x f),type,pos,after,guard⟩).run P w) d:=by
 unfold execOp;simp only;simp only[opF]at h;have k:=hρ x;split at h
 .rename_i a b zz E id v z i j p q;split at h
  .rename_i off sz G r;split at h
   .cases h
   rename_i e;obtain⟨rfl,rfl,rfl⟩:=h;rw[q]at k;have⟨g,H,hb,y⟩:=k;obtain⟨fields,A,rfl,_⟩:=Vi p;have⟨fd,g1,g2,g3,g4⟩:=Xa3 r;have hp:=XaU (P:=P) (w:=w) (fd:=fd) (by rw[g3];exact e) g (i*z+j);refine .val I (v:=.pointer (some ⟨g,i*z+j+off,none⟩)) ?_ ?_
   .rw[y];simp[Instr.fieldAt,run_underlying A,g1,Instr.sureAddr,hp,g2]
   exact⟨g,H,hb,by rw[Nat.add_assoc]⟩
  cases h
 .rename_i a b zz E z L j p q;split at h
  .rename_i off sz G r;split at h
   .cases h
   rename_i e;obtain⟨rfl,rfl,rfl⟩:=h;rw[q]at k;obtain⟨J,g,o,y,B⟩:=k;obtain⟨fields,A,rfl,_⟩:=Vi p;obtain⟨fd,g1,g2,g3,g4⟩:=Xa3 r;have hp:=XaU (P:=P) (w:=w) (fd:=fd) (by rw[g3];exact e) g (o+j);refine .val I (v:=.pointer (some ⟨g,o+j+off,none⟩)) ?_ ?_
   .rw[y];simp[Instr.fieldAt,run_underlying A,g1,Instr.sureAddr,hp,g2]
   simp only[Rep];exact⟨J,g,o,by rw[Nat.add_assoc],B⟩
  cases h
 simp_all
def Xmz(I:U7 P C s U M β w)(_hv:¬U ver){dst:Option Tmp}{type:TypeId}{pos:String}{after:Array Edge}{guard:Option (Nat×Bool)}(ρ:Operand->Value)(t:Operand->D)(hρ:∀x,Rep P M β (t x) (ρ x)){c:Prop}{d:D}{u:Up}(T:TypeId)(x:Operand)(f:Nat)(h:opF P dst ver t s (.field T x f)=some (c,d,u))(E:c):OpOK P C s u U ver M β ((execOp ρ ⟨dst,(.field T x f),type,pos,after,guard⟩).run P w) d:=by
 unfold execOp;simp only;simp only[opF]at h;have y:=hρ x;split at h
 .rename_i a b zz O k G H;split at h
  .rename_i off sz R J;split at h
   .rename_i ty g;split at h
    .rename_i o;obtain⟨rfl,rfl,rfl⟩:=h;have⟨z,p⟩:=E;rw[H]at y;have⟨A,K,j⟩:=y;obtain⟨fields,B,rfl,_⟩:=Vi G;have⟨fd,g1,g2,g3,g4⟩:=Xa3 J;subst g4;rw[K];cases e:ty.isAgg with
     |true=>
      refine .val I (v:=.agg ((A.toArray).extract off (off+sz))) ?_ ?_
      .simp[Instr.field,run_underlying B,g1,part,asAgg,K2 g,e,YD g,o,g2]
      refine⟨(A.drop off).take sz,?_,(j.drop off).take sz⟩;congr 1;simp[List.extract_eq_take_drop]
     |false=>
      have L:sz=1:=by rcases p with h|h;(rw[e]at h;cases h);exact h
      subst L;have⟨N,q,r⟩:=j.get off (k[off]'ab) ac;refine .val I (v:=N) ?_ ?_
      .simp[Instr.field,run_underlying B,g1,part,asAgg,K2 g,e,g2,q]
      simp only[Ji,Ir,if_false];have:((k.drop off).take 1).headD .any=k[off]'ab:=by rw[List.take_one];simp[List.head?_drop,show off<k.length by omega]
      rw[this];exact r
    cases h
   cases h
  cases h
 simp_all
def XfQ(I:U7 P C s U M β w)(_hv:¬U ver){dst:Option Tmp}{type:TypeId}{pos:String}{after:Array Edge}{guard:Option (Nat×Bool)}(ρ:Operand->Value)(t:Operand->D)(hρ:∀x,Rep P M β (t x) (ρ x)){c:Prop}{d:D}{u:Up}(T:TypeId)(x:Operand)(ix:Operand)(h:opF P dst ver t s (.indexAddr T x ix)=some (c,d,u))(r:c):OpOK P C s u U ver M β ((execOp ρ ⟨dst,(.indexAddr T x ix),type,pos,after,guard⟩).run P w) d:=by
 unfold execOp;simp only;simp only[opF]at h;have f:=hρ x;split at h
 .rename_i a b zz E sz E' z V i y A B;split at h
  .rename_i G;have⟨rfl,g⟩:=G;obtain⟨rfl,rfl,rfl⟩:=h;have⟨k,H,_⟩:=Vk B (hρ ix);have⟨J,p⟩:=XX y;rw[A]at f;have⟨q1,q2,q3,base,cap,K,R,f⟩:=f;have L:i.toNat<V.length:=ab;rcases f with rfl|⟨q,o,rfl,f⟩
   .simp at L
   have e:∀{n:Nat},sz=n->n≠0->(sizeOf E).run P w=.ok n w:=λ{n} h1 h2=>Jj (p.symm.trans h1) h2 w;have N:=f.get q1 i.toNat V[i.toNat] (by simp[L]);have W:V.getD i.toNat []=V[i.toNat]:=by rw[Wk,Wb L];rfl
   rcases Um sz with S|S
   .exact absurd S g
   refine .val I (v:=.pointer (some ⟨q,o+i.toNat*sz,none⟩)) ?_ ?_
   .rw[K,H];simp[Instr.indexAt,run_underlying J,asIntOf,r.1,r.2,e rfl ab,U1]
   rw[W];exact⟨q1 _ (Wt _),q,o+i.toNat*sz,ac,N⟩
  cases h
 .rename_i a b zz E sz id v z off len i y A B;split at h
  .rename_i G;have⟨rfl,g⟩:=G;obtain⟨rfl,rfl,rfl⟩:=h;obtain⟨k,H,_⟩:=Vk B (hρ ix);obtain⟨J,p⟩:=XX y;rw[A]at f;simp only[Rep]at f;rcases f with⟨_,_,rfl,_,_⟩|⟨q,Y,o,cap,O,K,R,hcb,ho⟩
   .omega
   have Z:o=off*sz:=by rcases ho with h|h;exact h;omega
   subst Z;refine .val I (v:=.pointer (some ⟨q,off*sz+i.toNat*sz,none⟩)) ?_ ?_
   .rw[K,H];have e:=Jj p.symm g w;simp[Instr.indexAt,run_underlying J,asIntOf,r.1,r.2,e,U1]
   simp only[Rep];exact⟨q,Y,O,by rw[Uz];simp⟩
  cases h
 .rename_i a b zz n E sz z cs cc i y A B;split at h
  .cases h
  rename_i g;simp only[Wo,Wx]at h;obtain⟨rfl,rfl,rfl⟩:=h;obtain⟨k,H,_⟩:=Vk B (hρ ix);obtain⟨J,p⟩:=K3 y;have e:=Jj p.symm g w;rw[A]at f;simp only[Rep]at f;obtain⟨hz,q,o,K,N⟩:=f;refine .val I (v:=.pointer (some ⟨q,o+cc+i.toNat*sz,none⟩)) ?_ ?_
  .rw[K,H];simp[Instr.indexAt,run_underlying J,asIntOf,Instr.sureAddr,r.1,r.2,e,U1]
  simp only[Rep];exact⟨hz,q,o,by rw[Nat.add_assoc],N⟩
 .rename_i a b zz n E sz id v z j cc i y A B;split at h
  .cases h
  rename_i g;simp only[Wo,Wx]at h;obtain⟨rfl,rfl,rfl⟩:=h;obtain⟨k,H,_⟩:=Vk B (hρ ix);obtain⟨J,p⟩:=K3 y;have e:=Jj p.symm g w;rw[A]at f;simp only[Rep]at f;obtain⟨q,Y,O,K⟩:=f;refine .val I (v:=.pointer (some ⟨q,j*z+cc+i.toNat*sz,none⟩)) ?_ ?_
  .rw[K,H];simp[Instr.indexAt,run_underlying J,asIntOf,Instr.sureAddr,r.1,r.2,e,U1]
  simp only[Rep];exact⟨q,Y,O,by rw[Nat.add_assoc]⟩
 simp_all
def XmA(I:U7 P C s U M β w)(_hv:¬U ver){dst:Option Tmp}{type:TypeId}{pos:String}{after:Array Edge}{guard:Option (Nat×Bool)}(ρ:Operand->Value)(t:Operand->D)(hρ:∀x,Rep P M β (t x) (ρ x)){c:Prop}{d:D}{u:Up}(T:TypeId)(x:Operand)(ix:Operand)(h:opF P dst ver t s (.index T x ix)=some (c,d,u))(J:c):OpOK P C s u U ver M β ((execOp ρ ⟨dst,(.index T x ix),type,pos,after,guard⟩).run P w) d:=by
 unfold execOp;simp only;simp only[opF]at h;have A:=hρ x;split at h
 .rename_i a b zz n e sz p i K L N;split at h
  .rename_i ty g;split at h
   .rename_i j;obtain⟨rfl,rfl,rfl⟩:=h;have⟨B,E,G,q⟩:=J;have⟨k,O,_⟩:=Vk N (hρ ix);have⟨H,R⟩:=K3 K;rw[L]at A;have⟨r,S,o⟩:=A;rw[S,O];cases f:ty.isAgg with
    |true=>
     refine .val I (v:=.agg ((r.toArray).extract (i.toNat*sz) (i.toNat*sz+sz))) ?_ ?_
     .simp[Instr.index,run_underlying H,asIntOf,B,E,part,asAgg,K2 g,f,YD g,j]
     refine⟨(r.drop (i.toNat*sz)).take sz,?_,(o.drop (i.toNat*sz)).take sz⟩;congr 1;simp[List.extract_eq_take_drop]
    |false=>
     have V:sz=1:=by rcases q with h|h;(rw[f]at h;cases h);exact h
     subst V;have⟨x0,y,z⟩:=o.get (i.toNat*1) (p[i.toNat*1]'ab) ac;refine .val I (v:=x0) ?_ ?_
     .simp[Instr.index,run_underlying H,asIntOf,B,E,part,asAgg,K2 g,f,YD g,j];have:r[i.toNat]? = some x0:=by rw[←y,Nat.mul_one]
      simp[this]
     simp only[Ji,Ir,if_false];have:((p.drop (i.toNat*1)).take 1).headD .any=p[i.toNat*1]'ab:=by rw[List.take_one];have W:i.toNat<p.length:=ab;simp[List.head?_drop,W]
     rw[this];exact z
   cases h
  cases h
 simp_all
def XiL(I:U7 P C s U M β w)(_hv:¬U ver){dst:Option Tmp}{type:TypeId}{pos:String}{after:Array Edge}{guard:Option (Nat×Bool)}(ρ:Operand->Value)(t:Operand->D)(hρ:∀x,Rep P M β (t x) (ρ x)){c:Prop}{d:D}{u:Up}(x:Operand)(i:Nat)(h:opF P dst ver t s (.extract x i)=some (c,d,u))(r:c):OpOK P C s u U ver M β ((execOp ρ ⟨dst,(.extract x i),type,pos,after,guard⟩).run P w) d:=by
 unfold execOp;simp only;simp only[opF]at h;have j:=hρ x;split at h
 .rename_i o p;split at h
  .rename_i k;obtain⟨rfl,rfl,rfl⟩:=h;rw[p]at j;have⟨y,q,e⟩:=j;have⟨v,f,g⟩:=e.get i o[i] (by simp[k]);refine .val I (v:=v) ?_ ?_
   .rw[q];simp[Instr.extract,f]
   rw[Wk,Wb k];exact g
  cases h
 simp_all
def Xbn{t:Operand->D}{ρ:Operand->Value}(hρ:∀x,Rep P M β (t x) (ρ x)){args:Array Operand}{d:D}(h:args.toList.map t=[d]):∃v,args.map ρ=#[v]/\Rep P M β d v:=by
 have⟨l⟩:=args;match l,h with
 |[x],h=>grind
def VS{t:Operand->D}{ρ:Operand->Value}(hρ:∀x,Rep P M β (t x) (ρ x)){args:Array Operand}{d e:D}(h:args.toList.map t=[d,e]):∃v u,args.map ρ=#[v,u]/\Rep P M β d v/\Rep P M β e u:=by
 have⟨l⟩:=args;match l,h with
 |[x,y],h=>grind
def XbS{types:Array TypeId}{T:TypeId}(h:types.toList=[T]):types=#[T]:=by grind
def Xlc{types:Array TypeId}{T T2:TypeId}(h:types.toList=[T,T2]):types=#[T,T2]:=by grind
def Xax{n:Nat}(h:n<=Xs):wfV (.int .i64 n):=by simp only[wfV,IntKind.min,IntKind.max,IntKind.signed,IntKind.bits,if_true];grind[Xs]
def Xr2(I:U7 P C s U M β w){dst:Option Tmp}{type:TypeId}{pos:String}{after:Array Edge}{guard:Option (Nat×Bool)}(ρ:Operand->Value)(t:Operand->D)(hρ:∀x,Rep P M β (t x) (ρ x)){c:Prop}{d:D}{u:Up}(args:Array Operand)(types:Array TypeId)(h:opF P dst ver t s (.call ⟨.builtin .len,args,types⟩)=some (c,d,u))(L:c):OpOK P C s u U ver M β ((execOp ρ ⟨dst,.call ⟨.builtin .len,args,types⟩,type,pos,after,guard⟩).run P w) d:=by
 simp only[opF]at h;split at h
 .rename_i d0 T N ht;have⟨v,O,g⟩:=Xbn hρ N;have q:=XbS ht;subst q;have start:∀r:Int,(Builtin.len_ #[T] type #[v]).run P w=.ok (.int .i64 r) w->(execOp ρ ⟨dst,.call ⟨.builtin .len,args,#[T]⟩,type,pos,after,guard⟩).run P w=.ok (.value (.int .i64 r)) w:=by intro r j;simp[execOp,resolve,invoke,builtin,O,j]
  split at h
  .rename_i a b zz E sz e;obtain⟨rfl,rfl,rfl⟩:=h;obtain⟨H,rfl⟩:=g;exact .val I (v:=.int .i64 0) (start 0 (by simp[Builtin.len_,run_underlying (XX e).1,goInt])) (YZ _ _ (Xax (n:=0) ag))
  .rename_i a b zz E sz E' z p e;obtain⟨rfl,rfl,rfl⟩:=h;obtain⟨_,J,_,H,cap,rfl,_⟩:=g;exact .val I (v:=.int .i64 p.length) (start _ (by simp[Builtin.len_,run_underlying (XX e).1,goInt])) (YZ _ _ (Xax J))
  .rename_i a b zz E sz id R z off len e;obtain⟨rfl,rfl,rfl⟩:=h;have y:∃a cap,v=.slice a len cap:=by
    simp only[Rep]at g;rcases g with⟨_,_,rfl,a,rfl⟩|⟨_,_,_,cap,_,rfl,_⟩
    .exact⟨_,_,rfl⟩
    exact⟨_,_,rfl⟩
   obtain⟨H,cap,rfl⟩:=y;exact .val I (v:=.int .i64 len) (start _ (by simp[Builtin.len_,run_underlying (XX e).1,goInt])) (YZ _ _ (Xax L))
  .rename_i a b zz n E sz e;split at h
   .rename_i S;simp only[Wo,Wx]at h;obtain⟨rfl,rfl,rfl⟩:=h;exact .val I (v:=.int .i64 n) (start _ (by simp[Builtin.len_,run_underlying (K3 e).1,goInt])) (YZ _ _ (Xax S))
   cases h
  .rename_i id V _;split at h
   .rename_i k E R k2 p e W;split at h
    .rename_i f;obtain⟨rfl,rfl⟩:=f;simp only[Wo,Wx]at h;obtain⟨rfl,rfl,rfl⟩:=h;obtain⟨K,A,Y⟩:=Ko e;simp only[Rep]at g;obtain⟨b,Z,hb,rfl⟩:=g;obtain⟨x0,o,B⟩:=I.obs id V _ W;rw[hb]at o;obtain rfl:some (b,Z)=x0:=by simpa using o
     obtain⟨rfl,h1,J,ents,clock,h3,h4,h5,h6⟩:=B;have hl:=h4.length;have G:ents.size=p.length:=by simpa using hl
     exact .val I (v:=.int .i64 p.length) (start _ (by simp[Builtin.len_,run_underlying A,goInt,Go.MapKept.run_getObj_map h3,G])) (YZ _ _ (Xax h1))
    cases h
   cases h
  cases h
 simp_all
def Xld(I:U7 P C s U M β w){dst:Option Tmp}{type:TypeId}{pos:String}{after:Array Edge}{guard:Option (Nat×Bool)}(ρ:Operand->Value)(t:Operand->D)(hρ:∀x,Rep P M β (t x) (ρ x)){c:Prop}{d:D}{u:Up}(args:Array Operand)(types:Array TypeId)(h:opF P dst ver t s (.call ⟨.builtin .delete,args,types⟩)=some (c,d,u))(_hc:c):OpOK P C s u U ver M β ((execOp ρ ⟨dst,.call ⟨.builtin .delete,args,types⟩,type,pos,after,guard⟩).run P w) d:=by
 simp only[opF]at h;split at h
 .rename_i id v k' n T O p ht;have⟨v1,v2,B,G,H⟩:=VS hρ p;have⟨tl⟩:=types;subst ht;split at h
  .rename_i k E v' k2 W Y J;split at h
   .rename_i g;have⟨rfl,rfl,rfl⟩:=g;obtain⟨rfl,rfl,rfl⟩:=h;have⟨K,r,f⟩:=Ko Y;obtain⟨b,Z,hb,rfl⟩:=G;obtain⟨rfl,_⟩:=H;have⟨x0,z,L⟩:=I.obs id v _ J;rw[hb]at z;obtain rfl:some (b,Z)=x0:=by simpa using z
    obtain⟨rfl,h1,h2,ents,clock,q,R,S,V⟩:=L;have start:∀a,Instr.findNow (.int k) (.int k n) ents.toList 0=some a->(Builtin.delete_ ⟨T::O⟩ type #[.map (some b),.int k n]).run P w =
     .ok (.tuple #[]) {w with heap:=w.heap.setIfInBounds b (.map (match a with|some (i,_)=>ents.eraseIdxIfInBounds i|none=>ents) clock)}:=by
     intro a p
     unfold Builtin.delete_
     cases a with
     |none=>simp[run_underlying r,Go.MapKept.run_getObj_map q,Go.MapKept.run_checkKey f (Xaw k n),Go.MapKept.run_findKey f p,Go.MapKept.run_setObj_map _ q]
     |some y=>simp[run_underlying r,Go.MapKept.run_getObj_map q,Go.MapKept.run_checkKey f (Xaw k n),Go.MapKept.run_findKey f p,Go.MapKept.run_setObj_map _ q]
    have start2:∀a,Instr.findNow (.int k) (.int k n) ents.toList 0=some a->(execOp ρ ⟨dst,.call ⟨.builtin .delete,args,⟨T::O⟩⟩,type,pos,after,guard⟩).run P w =
     .ok (.value (.tuple #[])) {w with heap:=w.heap.setIfInBounds b (.map (match a with|some (i,_)=>ents.eraseIdxIfInBounds i|none=>ents) clock)}:=by
     intro a p
     simp[execOp,resolve,invoke,builtin,B,start a p]
    rcases Xbm n ents.toList W 0 R with⟨g1,g2,g3,g4⟩|⟨j,e,d0,g1,g2,g3,g4,g5,g6,g7,g8,g9⟩
    .refine⟨M,β,_,.tuple #[],.inl (start2 _ g4),?_,by simp[Rep,RepL],MLe.refl _,BLe.refl _⟩;rw[g2];exact(I.setMap J hb q h1 R S V).mono λ_ h=>.inl h
    have o:(ents.eraseIdxIfInBounds (0+j)).toList=ents.toList.eraseIdx j:=by
     have hj:j<ents.size:=by
      rcases Ux j ents.size with N|N
      .exact N
      rw[WN (by exact N)]at g3;cases g3
     rw[UE];simp[Array.eraseIdxIfInBounds,hj]
    refine⟨M,β,_,.tuple #[],.inl (start2 _ g2),?_,by simp[Rep,RepL],MLe.refl _,BLe.refl _⟩;refine(I.setMap J hb q ab (by rw[o];exact g7) ?_ ?_).mono λ_ h=>.inl h
    .rw[o];exact S.sublist ((List.eraseIdx_sublist _ _).map _)
    intro e' A;rw[o]at A;exact V e' (List.mem_of_mem_eraseIdx A)
   cases h
  cases h
 simp_all
def Xr3(I:U7 P C s U M β w){dst:Option Tmp}{type:TypeId}{pos:String}{after:Array Edge}{guard:Option (Nat×Bool)}(ρ:Operand->Value)(t:Operand->D)(hρ:∀x,Rep P M β (t x) (ρ x)){c:Prop}{d:D}{u:Up}(args:Array Operand)(types:Array TypeId)(h:opF P dst ver t s (.call ⟨.builtin .cap,args,types⟩)=some (c,d,u))(_hc:c):OpOK P C s u U ver M β ((execOp ρ ⟨dst,.call ⟨.builtin .cap,args,types⟩,type,pos,after,guard⟩).run P w) d:=by
 simp only[opF]at h;split at h
 .rename_i o T f ht;have⟨v,g,j⟩:=Xbn hρ f;have e:=XbS ht;subst e;split at h
  .rename_i a b zz E sz k;obtain⟨rfl,rfl,rfl⟩:=h;obtain⟨p,rfl⟩:=j;exact .val I (v:=.int .i64 0) (by simp[execOp,resolve,invoke,builtin,g,Builtin.cap_,run_underlying (XX k).1,goInt]) (YZ _ _ (Xax (n:=0) ag))
  cases h
 simp_all
def Xr4(I:U7 P C s U M β w){dst:Option Tmp}{type:TypeId}{pos:String}{after:Array Edge}{guard:Option (Nat×Bool)}(ρ:Operand->Value)(t:Operand->D)(hρ:∀x,Rep P M β (t x) (ρ x)){c:Prop}{d:D}{u:Up}(args:Array Operand)(types:Array TypeId)(h:opF P dst ver t s (.call ⟨.builtin .min,args,types⟩)=some (c,d,u))(_hc:c):OpOK P C s u U ver M β ((execOp ρ ⟨dst,.call ⟨.builtin .min,args,types⟩,type,pos,after,guard⟩).run P w) d:=by
 simp only[opF]at h;split at h
 .rename_i j a k b g;split at h
  .rename_i o;subst o;have⟨q,r,p,e,f⟩:=VS hρ g;obtain⟨rfl,rfl,rfl⟩:=h;obtain⟨rfl,w1⟩:=e;obtain⟨rfl,w2⟩:=f;refine .val I (v:=.int j (if b<a then b else a)) (by simp[execOp,resolve,invoke,builtin,p,Builtin.min_,Builtin.min2]) (YZ _ _ ?_);split<;>assumption
  cases h
 simp_all
def Xr5(I:U7 P C s U M β w){dst:Option Tmp}{type:TypeId}{pos:String}{after:Array Edge}{guard:Option (Nat×Bool)}(ρ:Operand->Value)(t:Operand->D)(hρ:∀x,Rep P M β (t x) (ρ x)){c:Prop}{d:D}{u:Up}(args:Array Operand)(types:Array TypeId)(h:opF P dst ver t s (.call ⟨.builtin .max,args,types⟩)=some (c,d,u))(_hc:c):OpOK P C s u U ver M β ((execOp ρ ⟨dst,.call ⟨.builtin .max,args,types⟩,type,pos,after,guard⟩).run P w) d:=by
 simp only[opF]at h;split at h
 .rename_i j a k b g;split at h
  .rename_i o;subst o;have⟨q,r,p,e,f⟩:=VS hρ g;obtain⟨rfl,rfl,rfl⟩:=h;obtain⟨rfl,w1⟩:=e;obtain⟨rfl,w2⟩:=f;refine .val I (v:=.int j (if a<b then b else a)) (by simp[execOp,resolve,invoke,builtin,p,Builtin.max_,Builtin.max2]) (YZ _ _ ?_);split<;>assumption
  cases h
 simp_all
def Xle(I:U7 P C s U M β w)(G:¬U ver){dst:Option Tmp}{type:TypeId}{pos:String}{after:Array Edge}{guard:Option (Nat×Bool)}(ρ:Operand->Value)(t:Operand->D)(hρ:∀x,Rep P M β (t x) (ρ x)){c:Prop}{d:D}{u:Up}(args:Array Operand)(types:Array TypeId)(h:opF P dst ver t s (.call ⟨.builtin .append,args,types⟩)=some (c,d,u))(f:c):OpOK P C s u U ver M β ((execOp ρ ⟨dst,.call ⟨.builtin .append,args,types⟩,type,pos,after,guard⟩).run P w) d:=by
 simp only[opF]at h;split at h
 .rename_i d0 x0 T T2 ha ht;have⟨J,K,L,y,A⟩:=VS hρ ha;have N:=Xlc ht;subst N;have start:∀{d u},VOK P C s u U ver M β ((Builtin.append_ #[T,T2] type #[J,K]).run P w) d->OpOK P C s u U ver M β ((execOp ρ ⟨dst,.call ⟨.builtin .append,args,#[T,T2]⟩,type,pos,after,guard⟩).run P w) d:=by
   intro d u hk;have:=VOK.op (sem:=Builtin.append_ #[T,T2] type #[J,K]) hk;have e:(execOp ρ ⟨dst,.call ⟨.builtin .append,args,#[T,T2]⟩,type,pos,after,guard⟩).run P w=((do pure (Next.value (←Builtin.append_ #[T,T2] type #[J,K])):Sem Next)).run P w:=by simp[execOp,resolve,invoke,builtin,L]
   rw[e];exact this
  split at h
  .rename_i a b zz E z Z;split at h
   .rename_i j H;split at h
    .rename_i zc g;split at h
     .rename_i o;have⟨O,p⟩:=o;have⟨z1,z2⟩:=Zk (P:=P) (M:=M) (β:=β) g;have B:j.zero.cells.size=j.size:=by have:=z1.length;simp at this;omega
      split at h
      .rename_i a2 b2 S E2 sz2 q;split at h
       .rename_i c0 src V;have r:c0:=by
         unfold XeG at h;split at h
         .simp at h;rw[←h.1]at f;exact f.1
         .split at h
          .split at h
           .split at h
            .simp at h;rw[←h.1]at f;exact f.1
            simp at h;rw[←h.1]at f;exact f.1
           cases h
          cases h
         cases h
        obtain⟨base,cap,vals,rfl,e1,e2,e3,e4,e5,e6⟩:=XgV I V r A;have R:=XfK (w:=w) (o':=type) (XX Z).1 (XX q).1 H (xb:=base) (m:=src.length) (xc:=cap) (vals:=vals) (by rw[O];exact e2) e3 e4 e6;exact start (XjN I G H O g p e1 e5 e6 R h f y)
       cases h
      .rename_i a2 b2 S k2 q;split at h
       .rename_i n hn;have r:(0<=n/\n<=Xs/\n.toNat*j.bytes<=Xs):=by
         unfold XeG at h;split at h
         .simp only[Wo,Wx]at h;rw[←h.1]at f;exact f.1
         .split at h
          .split at h
           .split at h
            .simp only[Wo,Wx]at h;rw[←h.1]at f;exact f.1
            simp only[Wo,Wx]at h;rw[←h.1]at f;exact f.1
           cases h
          cases h
         cases h
        have⟨g0,g1,g2⟩:=r;have⟨k',W,_⟩:=Vk hn A;subst W;have Y:(if n.toNat*j.size=0 then([]:List Value)else(Builtin.zeroCells j.zero.cells n.toNat).toList)=(Builtin.zeroCells j.zero.cells n.toNat).toList:=by
         split
         .rename_i h0;refine(WG ?_).symm;rw[Ib,Yi,B];exact h0
         rfl
        have k:∀v∈(Builtin.zeroCells j.zero.cells n.toNat).toList,v.oneCell'=true:=λv G=>Zl z2 n.toNat v (by simpa using G);have R:=XgW (w:=w) (o':=type) (k':=k') (XX Z).1 (XfH q) H g0 g1 g2 (vals:=(Builtin.zeroCells j.zero.cells n.toNat).toList) Y.symm k B;exact start (XjN I G H O g p (Y1 _ _ _ p) (Xau g n.toNat) k (by rw[W9];exact R) h f y)
       cases h
      cases h
     cases h
    cases h
   cases h
  cases h
 simp_all
def XmB(I:U7 P C s U M β w){dst:Option Tmp}{type:TypeId}{pos:String}{after:Array Edge}{guard:Option (Nat×Bool)}(ρ:Operand->Value)(t:Operand->D)(hρ:∀x,Rep P M β (t x) (ρ x)){c:Prop}{d:D}{u:Up}(args:Array Operand)(types:Array TypeId)(h:opF P dst ver t s (.call ⟨.builtin .clear,args,types⟩)=some (c,d,u))(hc:c):OpOK P C s u U ver M β ((execOp ρ ⟨dst,.call ⟨.builtin .clear,args,types⟩,type,pos,after,guard⟩).run P w) d:=by
 simp only[opF]at h;split at h
 .rename_i id v z off len T W ht;have⟨Y,r,j⟩:=Xbn hρ W;have Z:=XbS ht;subst Z;split at h
  .rename_i a b zz E sz hT;split at h
   .rename_i O hE;split at h
    .rename_i R v' E' z' B fz G A;split at h
     .rename_i f;have⟨rfl,rfl,rfl,hz,hzl⟩:=f;obtain⟨rfl,rfl,rfl⟩:=h;have⟨H,hfz⟩:=hc;have⟨hu,hcz⟩:=XX hT;have start:∀{w'},(Builtin.clear_ #[T] type #[Y]).run P w=.ok (.tuple #[]) w'->(execOp ρ ⟨dst,.call ⟨.builtin .clear,args,#[T]⟩,type,pos,after,guard⟩).run P w=.ok (.value (.tuple #[])) w':=by intro w' hk;simp[execOp,resolve,invoke,builtin,r,hk]
      have same:len=0->upd s id (some (v,.arr false E' z (B.take off++List.replicate len R++B.drop (off+len)) fz))=s:=by
       rintro rfl;funext i;unfold upd;split
       .rename_i e;subst e;rw[A];simp
       rfl
      have nil:∀{a cap},len=0->Y=.slice a 0 cap->OpOK P C s [(id,v,.arr false E' z (B.take off++List.replicate len R++B.drop (off+len)) fz)] U ver M β ((execOp ρ ⟨dst,.call ⟨.builtin .clear,args,#[T]⟩,type,pos,after,guard⟩).run P w) (.tup []):=by
       intro a cap S h1;subst h1;refine⟨M,β,w,.tuple #[],.inl (start ?_),?_,by simp[Rep,RepL],MLe.refl _,BLe.refl _⟩
       .unfold Builtin.clear_;cases a<;>simp[run_underlying hu]
       rw[Xk5,same S];exact I.mono λ_ h=>.inl h
      have⟨x0,g,y⟩:=I.obs id v _ A;rcases j with⟨hn,h1,h2,a,rfl⟩|⟨bb,V,o,cap,J,rfl,hcap,hcb,ho⟩
      .exact nil h2 rfl
      rw[J]at g;obtain rfl:some (bb,V)=x0:=by simpa using g
      have⟨cs,T0,k1,k2,k3,k4,k5,k6,k7,k8,k9,k10⟩:=y;by_cases S:len=0
      .subst S;exact nil rfl rfl
      have ho':o=off*z:=by rcases ho with h|h;exact h;omega
      subst ho';have⟨z1,z2⟩:=Zk (P:=P) (M:=M) (β:=Yz) G;have hzs:O.zero.cells.size=z:=by have:=z1.length;simp at this;omega
      have L:(Builtin.zeroCells O.zero.cells len).toList.length=(List.replicate len R).length*z:=by rw[Ib,Yi,W9,hzs]
      have q:∀x∈(Builtin.zeroCells O.zero.cells len).toList,x.oneCell'=true:=λx hx=>Zl z2 len x (by simpa using hx);have N:(off+len)*z<=V*z:=Ua _ ab;rw[Uz]at N;have hst:=run_storeCells_at P bb (off*z) T0 (Builtin.zeroCells O.zero.cells len).toList 0 cs w k1 (by rw[L,W9];omega) q;have I':=I.seg (p:=off) (src:=List.replicate len R) A J k1 k2 k3 k4 k8 (by exact k10) (λe he=>by rw[(II.1 he).2];exact hzl) L (Xau G len) q (by rw[W9];exact H) hfz;rw[W9]at I';refine⟨M,β,_,.tuple #[],.inl (start ?_),(by rw[Xk5];exact I'.mono λ_ h=>.inl h),by simp[Rep,RepL],MLe.refl _,BLe.refl _⟩;unfold Builtin.clear_;cases len with
      |zero=>exact absurd rfl S
      |succ len=>simp[run_underlying hu,KB hE,hst]
     cases h
    cases h
   cases h
  cases h
 .rename_i id v T ts W ht;have⟨Y,r,j⟩:=Xbn hρ W;have⟨tl⟩:=types;subst ht;split at h
  .rename_i k E v' k2 B hT A;split at h
   .rename_i f;have⟨rfl,rfl⟩:=f;simp only[Wo,Wx]at h;obtain⟨rfl,rfl,rfl⟩:=h;obtain⟨K,hT1,hT2⟩:=Ko hT;simp only[Rep]at j;obtain⟨b,V,hb,rfl⟩:=j;obtain⟨x0,g,y⟩:=I.obs id v _ A;rw[hb]at g;obtain rfl:some (b,V)=x0:=by simpa using g
    obtain⟨rfl,h1,h2,ents,clock,h3,h4,h5,h6⟩:=y;have start:(execOp ρ ⟨dst,.call ⟨.builtin .clear,args,⟨T::ts⟩⟩,type,pos,after,guard⟩).run P w=.ok (.value (.tuple #[])) {w with heap:=w.heap.setIfInBounds b (.map #[] clock)}:=by
     have:(Builtin.clear_ ⟨T::ts⟩ type #[.map (some b)]).run P w=.ok (.tuple #[]) {w with heap:=w.heap.setIfInBounds b (.map #[] clock)}:=by unfold Builtin.clear_;simp[run_underlying hT1,Go.MapKept.run_getObj_map h3,Go.MapKept.run_setObj_map _ h3]
     simp[execOp,resolve,invoke,builtin,r,this]
    refine⟨M,β,_,.tuple #[],.inl start,?_,by simp[Rep,RepL],MLe.refl _,BLe.refl _⟩;exact(I.setMap (es':=[]) (ents':=#[]) A hb h3 (IS _) rfl ac ac).mono λ_ h=>.inl h
   cases h
  cases h
 simp_all
def XpI(I:U7 P C s U M β w){dst:Option Tmp}{type:TypeId}{pos:String}{after:Array Edge}{guard:Option (Nat×Bool)}(ρ:Operand->Value)(t:Operand->D)(hρ:∀x,Rep P M β (t x) (ρ x)){c:Prop}{d:D}{u:Up}(args:Array Operand)(types:Array TypeId)(h:opF P dst ver t s (.call ⟨.builtin .copy,args,types⟩)=some (c,d,u))(hc:c):OpOK P C s u U ver M β ((execOp ρ ⟨dst,.call ⟨.builtin .copy,args,types⟩,type,pos,after,guard⟩).run P w) d:=by
 simp only[opF]at h;split at h
 .rename_i id v z off len x T L ha ht;have⟨v1,v2,N,O,R⟩:=VS hρ ha;have⟨types⟩:=types;subst ht;split at h
  .rename_i a b zz E sz hT;split at h
   .rename_i te v' E' z' H fz c0 src hE J S;split at h
    .rename_i k;have⟨rfl,rfl,rfl,hz⟩:=k;obtain⟨rfl,rfl,rfl⟩:=h;have⟨V,q,r,W⟩:=hc;have⟨hu,hcz⟩:=XX hT;obtain⟨base,cap2,vals,rfl,e1,y,e3,e4,e5,e6⟩:=XgV I S V R;have Y:(Builtin.firstCells te.size src.length (.slice base src.length cap2)).run P w=.ok vals.toArray w:=by
      cases base with
      |none=>have hm:=e3 rfl;have:vals=[]:=WG (by rw[y,hm,Nat.zero_mul]);subst this;simp[Builtin.firstCells]
      |some a=>exact run_firstCells_some (P:=P) w te.size src.length a src.length cap2 vals (by rw[hz];exact y) (λj v hj=>e4 a rfl j v hj)
     have start:∀{w' Z},(Builtin.copy_ ⟨T::L⟩ type #[v1,.slice base src.length cap2]).run P w=.ok Z w'->(execOp ρ ⟨dst,.call ⟨.builtin .copy,args,⟨T::L⟩⟩,type,pos,after,guard⟩).run P w=.ok (.value Z) w':=by intro w' Z hk;simp[execOp,resolve,invoke,builtin,N,hk]
     have hl47:src.length<=140737488355328:=by
      have:=(I.obs id v _ J)
      obtain⟨x0,_,f⟩:=this;cases x0 with
      |none=>obtain⟨_,h2,_⟩:=f;subst h2;simp at r;omega
      |some bc=>obtain⟨_,_,_,_,_,_,h5,_⟩:=f;simp only[Xs]at h5;omega
     have g:Rep P M β (.v (.int .i64 (src.length:Int))) (goInt src.length):=YZ _ _ ⟨by show(-9223372036854775808:Int)<=_;omega,by show _<=(9223372036854775807:Int);omega⟩;have hn:Nat.min src.length len=src.length:=Oa q;have nil:∀{a cap},src=[]->v1=.slice a len cap->OpOK P C s [(id,v,.arr false E' z (H.take off++src++H.drop (off+src.length)) fz)] U ver M β ((execOp ρ ⟨dst,.call ⟨.builtin .copy,args,⟨T::L⟩⟩,type,pos,after,guard⟩).run P w) (.v (.int .i64 (src.length:Int))):=by
      intro a cap K h1;subst h1;have hv0:vals=[]:=WG (by rw[y,K];simp);have same:upd s id (some (v,.arr false E' z (H.take off++src++H.drop (off+src.length)) fz))=s:=by
       funext i;unfold upd;split
       .rename_i e;subst e;rw[J,K];simp
       rfl
      refine⟨M,β,w,goInt src.length,.inl (start ?_),?_,g,MLe.refl _,BLe.refl _⟩
      .unfold Builtin.copy_;rw[hv0]at Y;cases a<;>simp[run_underlying hu,Builtin.lenOf,hn,YD hE,Y,storeCells]
      rw[Xk5,same];exact I.mono λ_ h=>.inl h
     have⟨x0,A,f⟩:=I.obs id v _ J;rcases O with⟨hn0,h1,h2,a,rfl⟩|⟨bb,cb,o,cap,B,rfl,hcap,hcb,ho⟩
     .subst h2;exact nil (WG ab) rfl
     rw[B]at A;obtain rfl:some (bb,cb)=x0:=by simpa using A
     have⟨cs,T0,k1,k2,k3,k4,k5,k6,k7,k8,k9,k10⟩:=f;by_cases K:src.length=0
     .exact nil (WG K) rfl
     have ho':o=off*z:=by rcases ho with h|h;exact h;omega
     subst ho';have G:(off+src.length)*z<=cb*z:=Ua _ ab;rw[Uz]at G;have hst:=run_storeCells_at P bb (off*z) T0 vals 0 cs w k1 (by rw[y];omega) e6;have I':=I.seg (p:=off) (src:=src) J B k1 k2 k3 k4 k8 (by exact k10) e1 y e5 e6 ab W;refine⟨M,β,_,goInt src.length,.inl (start ?_),(by rw[Xk5];exact I'.mono λ_ h=>.inl h),g,MLe.refl _,BLe.refl _⟩;unfold Builtin.copy_;simp[run_underlying hu,Builtin.lenOf,hn,YD hE,Y,hst]
    cases h
   cases h
  cases h
 simp_all
def Vm{t:TypeId}{ty:OF}(h:Xm P t=some ty)(f:¬ty.isIface=true):∃d,P.underlying t=some d/\∀m,d≠.interface m:=by have⟨i,d,_,g,_,_,_,j⟩:=Yc h;refine⟨d,g,λm e=>f ?_⟩;subst e;unfold OF.isIface;rw[←j];rfl
def XbT(I:U7 P C s U M β w)(_hv:¬U ver){dst:Option Tmp}{type:TypeId}{pos:String}{after:Array Edge}{guard:Option (Nat×Bool)}(ρ:Operand->Value)(t:Operand->D)(hρ:∀x,Rep P M β (t x) (ρ x)){c:Prop}{d:D}{u:Up}(T:TypeId)(x:Operand)(h:opF P dst ver t s (.makeInterface T x)=some (c,d,u))(o:c):OpOK P C s u U ver M β ((execOp ρ ⟨dst,(.makeInterface T x),type,pos,after,guard⟩).run P w) d:=by
 unfold execOp;simp only[opF]at h;split at h
 .rename_i ty f;split at h
  .cases h
  rename_i g;obtain⟨rfl,rfl,rfl⟩:=h;have⟨j,k,e⟩:=Vm f g;refine .val I (v:=.iface T (ρ x)) ?_ ?_
  .cases j<;>first|exact absurd rfl (e _)|simp[Instr.makeInterface,run_underlying k]
  exact⟨_,rfl,hρ x⟩
 simp_all
def XeL(I:U7 P C s U M β w)(_hv:¬U ver){dst:Option Tmp}{type:TypeId}{pos:String}{after:Array Edge}{guard:Option (Nat×Bool)}(ρ:Operand->Value)(t:Operand->D)(hρ:∀x,Rep P M β (t x) (ρ x)){c:Prop}{d:D}{u:Up}(x:Operand)(xT A:TypeId)(ok:Bool)(h:opF P dst ver t s (.typeAssert x xT A ok)=some (c,d,u))(E:c):OpOK P C s u U ver M β ((execOp ρ ⟨dst,(.typeAssert x xT A ok),type,pos,after,guard⟩).run P w) d:=by
 unfold execOp;simp only;simp only[opF]at h;have j:=hρ x;split at h
 .rename_i p T G g q;rw[q]at j;split at h
  .cases h
  rename_i r;have⟨k,o,f⟩:=Vm g r;have⟨y,z,B⟩:=j;split at h
  .rename_i e;obtain⟨rfl,rfl,rfl⟩:=h;refine .val I (v:=.tuple #[y,.bool true]) ?_ ?_
   .rw[z];cases k<;>first|exact absurd rfl (f _)|simp[Instr.typeAssert,run_underlying o,e]
   exact⟨_,rfl,_,_,rfl,B,_,_,rfl,⟨rfl,trivial⟩,rfl⟩
  rename_i e;obtain⟨rfl,rfl,rfl⟩:=h;refine .val I (v:=.tuple #[p.zero,.bool false]) ?_ ?_
  .rw[z];cases k<;>first|exact absurd rfl (f _)|simp[Instr.typeAssert,run_underlying o,e,KB g]
  exact⟨_,rfl,_,_,rfl,Xat _,_,_,rfl,⟨rfl,trivial⟩,rfl⟩
 .rename_i p g q;rw[q]at j;split at h
  .cases h
  rename_i r;have⟨k,o,f⟩:=Vm g r;simp only[Wo,Wx]at h;obtain⟨rfl,rfl,rfl⟩:=h;refine .val I (v:=.tuple #[p.zero,.bool false]) ?_ ?_
  .rw[j.1];cases k<;>first|exact absurd rfl (f _)|simp[Instr.typeAssert,run_underlying o,KB g]
  simp only[Rep,RepL];exact⟨_,rfl,_,_,rfl,Xat _,_,_,rfl,⟨rfl,trivial⟩,rfl⟩
 simp_all
def XmC(I:U7 P C s U M β w)(p:¬U ver)(o:Oper)(ρ:Operand->Value)(t:Operand->D)(hρ:∀x,Rep P M β (t x) (ρ x))(q:∀v,ρ (.const v)=v){c:Prop}{d:D}{u:Up}(h:opF P o.dst ver t s o.op=some (c,d,u))(j:c):OpOK P C s u U ver M β ((execOp ρ o).run P w) d:=by
 have⟨dst,op,type,pos,after,guard⟩:=o;cases op with
 |move x=>exact XpE I p ρ t hρ x h j
 |assign x=>exact Xla I p ρ t hρ x h j
 |pick g a b=>exact XpF I p ρ t hρ g a b h j
 |alloc T=>exact Xmu I p ρ t hρ T h j
 |box T x=>exact Xr1 I p ρ t hρ T x h j
 |build T parts=>exact Xmv I p ρ t hρ T parts h j
 |buildSlice T n parts=>exact XeK I p ρ t hρ T n parts h j
 |load T a=>exact XpG I p ρ t hρ T a h j
 |store T a x=>exact Xmw I p ρ t hρ T a x h j
 |nilCheck x=>exact XgY I p ρ t hρ x h j
 |binOp op T x y z=>exact Xmx I p ρ t hρ op T x y z (λv e=>by simp_all) h j
 |unOp op T x=>exact XpH I p ρ t hρ op T x h j
 |convert S T x=>exact XiK I p ρ t hρ S T x h j
 |makeFunc fn first captured=>exact XgZ I p ρ t hρ fn first captured h j
 |makeSlice T l B=>exact XfO I p ρ t hρ T l B h j
 |slice T x E G mx=>exact Xmy I p ρ t hρ T x E G mx h j
 |fieldAddr T x f=>exact XfP I p ρ t hρ T x f h j
 |field T x f=>exact Xmz I p ρ t hρ T x f h j
 |indexAddr T x ix=>exact XfQ I p ρ t hρ T x ix h j
 |index T x ix=>exact XmA I p ρ t hρ T x ix h j
 |makeMap T r=>exact XiI I p ρ t hρ T r h j
 |mapUpdate T m k x=>exact XfN I p ρ t hρ T m k x h j
 |insert T m k x=>exact Xk8 I p ρ t hρ T m k x h j
 |lookup T m k ok=>exact Xk9 I p ρ t hρ T m k ok h j
 |extract x i=>exact XiL I p ρ t hρ x i h j
 |makeInterface T x=>exact XbT I p ρ t hρ T x h j
 |typeAssert x xT A ok=>exact XeL I p ρ t hρ x xT A ok h j
 |call cl=>
  have⟨callee,args,types⟩:=cl;cases callee with
  |value f=>simp_all[opF]
  |invoke r m=>simp_all[opF]
  |builtin b=>
   cases b with
   |len=>exact Xr2 I ρ t hρ args types h j
   |delete=>exact Xld I ρ t hρ args types h j
   |clear=>exact XmB I ρ t hρ args types h j
   |copy=>exact XpI I ρ t hρ args types h j
   |cap=>exact Xr3 I ρ t hρ args types h j
   |min=>exact Xr4 I ρ t hρ args types h j
   |max=>exact Xr5 I ρ t hρ args types h j
   |append=>exact Xle I p ρ t hρ args types h j
   |_=>simp[opF]at h
 |_=>simp[opF]at h
end
variable {P:Program}
structure St where
 t:Nat->D
 s:Heap
 n:Nat
 k:Nat
def Rel(P:Program)(C:Cx)(st:St)(a:Act)(w:World):Prop:=
 a.defers=C.df/\a.tmps.size=st.n/\∃M β,BLe C.b0 β/\(∀x,Rep P M β (st.t x) (a.tmps.getD x undef))/\U7 P C st.s (·<st.k) M β w
def XbU{C:Cx}{s:Heap}{U:Nat->Prop}{M:Mem}{β:Loc}{w:World}(I:U7 P C s U M β w){t:Nat->D}{a:Act}(h:∀x,Rep P M β (t x) (a.tmps.getD x undef))(x:Operand):
 Rep P M β (ev t C.G x) (a.eval x):=by
 cases x with
 |tmp i=>exact h i
 |const v=>exact Xat v
 |global g=>
  simp only[ev,Act.eval];split
  .rename_i j e;simp only[Rep];exact⟨trivial,g,0,rfl,RepC.mono I.le (I.glob g j e)⟩
  simp[Rep]
 |func f=>simp[ev,Act.eval,Rep,RepL]
def LB:Nat:=1000000
def Kf(lb:List (Nat×Nat)):Loc:=λid v=>if v=0/\LB<=id then(lb[id-LB]?).map some else none
def Jk(ls:List Ob):Heap:=λid=>if LB<=id then(ls[id-LB]?).map (λo=>(0,o))else none
mutual
def FrRep(P:Program)(M:Mem)(w:World)(B:Nat):D->Value->List (Option (Nat×Nat))->Prop
 |.fsl E z f,y,l=>(l=[none]/\f=[]/\∃a,y=.slice a 0 0) \/
  ∃b h o,l=[some (b,h)]/\B<=b/\y=.slice (some ⟨b,o,none⟩) f.length h/\(o=0\/h=0)/\ObRep P M Yz w (some (b,h)) (.arr false E z f 0)
 |.fmp k j e,y,l=>∃b,l=[some (b,0)]/\B<=b/\y=.map (some b)/\j.length=e.length/\ObRep P M Yz w (some (b,0)) (.mp k (j.zip e))
 |.agg g,y,l=>∃e,y=.agg ⟨e⟩/\FrRepL P M w B g e l
 |.tup g,y,l=>∃e,y=.tuple ⟨e⟩/\FrRepL P M w B g e l
 |.ifc t d,y,l=>∃x,y=.iface t x/\FrRep P M w B d x l
 |.clo fn a b,y,l=>∃p vb,y=.func fn ⟨p⟩ ⟨vb⟩/\∃q r,l=q++r/\FrRepL P M w B a p q/\FrRepL P M w B b vb r
 |.any,_,l=>l=[]
 |.v x,y,l=>l=[]/\Rep P M Yz (.v x) y
 |.nsl,y,l=>l=[]/\Rep P M Yz .nsl y
 |.isl E z f,y,l=>l=[]/\Rep P M Yz (.isl E z f) y
 |.ipt z g c,y,l=>l=[]/\Rep P M Yz (.ipt z g c) y
 |_,_,_=>False
def FrRepL(P:Program)(M:Mem)(w:World)(B:Nat):List D->List Value->List (Option (Nat×Nat))->Prop
 |[],e,l=>e=[]/\l=[]
 |d::j,e,l=>∃x f g h,e=x::f/\l=g++h/\FrRep P M w B d x g/\FrRepL P M w B j f h
end
def XN(l:List (Option (Nat×Nat))):List Nat:=l.filterMap (·.map (·.1))
def XpJ(P:Program)(M:Mem)(w:World)(lb:List (Nat×Nat))(R:D->List Ob->Prop)(e:Ending)(w':World):Prop:=
 ∃v r ls M' l,e=.returned v/\R r ls/\Kp w (lb.map (·.1)) w'/\MemOK M' w'/\(∀b o,b<w.heap.size->M' b o=M b o)/\ls.length=lb.length /\
  (∀(k:Nat)ob x,ls[k]? = some ob->lb[k]? = some x->ObRep P M' Yz w' (some x) ob/\ob.bx=true)/\FrRep P M' w' w.heap.size r v l/\(XN l).Nodup
def YV(P:Program)(G:Nat->Option (List D))(f:FuncId)(args:List D)(lent:List Ob)(R:D->List Ob->Prop):Prop:=
 (∃fn,P.funcs[f]? = some fn/\fn.body.isNone=false/\(fn.name== "runtime.NumGoroutine")=false) /\
 ∀M w e lb,MemOK M w->(∀g h,G g=some h->RepC P M h g 0)->lb.length=lent.length->(lb.map (·.1)).Nodup ->
  (∀(k:Nat)ob x,lent[k]? = some ob->lb[k]? = some x->ObRep P M Yz w (some x) ob/\ob.bx=true)->RepL P M (Kf lb) args e->Calls P f ⟨e⟩ w (XpJ P M w lb R)
mutual
def imp(ver:Nat):Nat->D->D×Nat×Up
 |n,.fsl E z f=>(.osl n ver z 0 f.length,n+1,[(n,ver,.arr false E z f 0)])
 |n,.fmp k g h=>(.omp n ver,n+1,[(n,ver,.mp k (g.zip h))])
 |n,.agg e=>let r:=VK ver n e;(.agg r.1,r.2.1,r.2.2)
 |n,.tup e=>let r:=VK ver n e;(.tup r.1,r.2.1,r.2.2)
 |n,.ifc t d=>let r:=imp ver n d;(.ifc t r.1,r.2.1,r.2.2)
 |n,.clo fn a b=>let r:=VK ver n a;let q:=VK ver r.2.1 b;(.clo fn r.1 q.1,q.2.1,r.2.2++q.2.2)
 |n,d=>(d,n,[])
def VK(ver:Nat):Nat->List D->List D×Nat×Up
 |n,[]=>([],n,[])
 |n,d::e=>let r:=imp ver n d;let q:=VK ver r.2.1 e;(r.1::q.1,q.2.1,r.2.2++q.2.2)
end
section
variable {C:Cx}{U:Nat->Prop}{M:Mem}{w:World}{ver:Nat}
def XiM(s:Heap)(β:Loc)(l:List Nat):Prop:=∀b∈l,∀id v ob e,s id=some (v,ob)->β id v≠some (some (b,e))
structure OW(P:Program)(C:Cx)(s:Heap)(U:Nat->Prop)(M:Mem)(β:Loc)(w:World)(ver n n':Nat)(u:Up)(l:List (Option (Nat×Nat)))(β':Loc):Prop where
 inv:U7 P C (app s u) (λv=>U v\/v=ver) M β' w
 le:BLe β β'
 next:n<=n'
 high:∀i,n'<=i->β' i ver=none
 free:∀l',XiM s β l'->(∀b∈l',b∉XN l)->XiM (app s u) β' l'
def OW.nil{s:Heap}{β:Loc}(I:U7 P C s U M β w){n:Nat}(e:∀i,n<=i->β i ver=none):OW P C s U M β w ver n n [] [] β:=
 ⟨I.mono λ_ h=>.inl h,BLe.refl _,Uh _,e,λ_ h _=>h⟩
def ObRep.row{b e:Nat}{ob:Ob}(h:ObRep P M Yz w (some (b,e)) ob)(hb:ob.bx=false)(β:Loc):ObRep P M β w (some (b,e)) ob:=by
 cases ob with
 |mp kk f=>exact h
 |raw o=>exact h
 |arr bx E z f fz=>have:bx=false:=hb;subst this;exact h
def X3(e l2:List (Option (Nat×Nat))):XN (e++l2)=XN e++XN l2:=by simp[XN]
mutual
def imp_ok{B:Nat}(Z:C.w0.heap.size<=B):∀(d:D) (y:Value) (l:List (Option (Nat×Nat))) (n:Nat) {s:Heap} {U:Nat->Prop} {β:Loc},U7 P C s U M β w->(∀i,n<=i->β i ver=none)->FrRep P M w B d y l->(XN l).Nodup->XiM s β (XN l) ->
 ∃β',OW P C s U M β w ver n (imp ver n d).2.1 (imp ver n d).2.2 l β'/\Rep P M β' (imp ver n d).1 y
 |.fsl E z es,y,l,n,s,U,β,I,p,f,e,r=>by
  simp only[imp];have G:β n ver=none:=p n (Uh _);rcases f with⟨rfl,rfl,a,rfl⟩|⟨b,S,o,rfl,hb,rfl,ho,N⟩
  .refine⟨Zs β n ver none,⟨I.setNil n ver E z (Y9 G) (XF ..) Zj,Y9 G,ab,λi h=>?_,λl' h _=>?_⟩,?_⟩
   .unfold Zs;grind
   .intro b hb id v ob S K j;by_cases L:id=n
    .subst L;have A:some (ver,Ob.arr false E z [] 0)=some (v,ob):=by rw[←K];show _=upd s id _ id;rw[YC]
     simp_all[XF]
    have A:s id=some (v,ob):=by rw[←K];show _=upd s n _ id;rw[Yb _ _ _ _ L]
    have u:β id v=some (some (b,S)):=by unfold Zs at j;rw[Wj (λh=>L h.1)]at j;exact j
    exact h b hb id v ob S A u
   exact .inl ⟨XF ..,ac⟩
  have H:∀q O J g,q≠n->s q=some (O,J)->β q O≠some (some (b,g)):=λq O J g _ K=>r b (by simp[XN]) q O J g K;have hob':=N;have⟨cs,T,k1,k2,k3,k4,k5,k6,k7,k8,k9,k10⟩:=hob';have I':=I.set (M':=M) (β':=Zs β n ver (some (b,S))) (w':=w) n ver (.arr false E z es 0) b S (MLe.refl _) (Y9 G) (λ_ _=>rfl) (λ_ _ _=>rfl) (λo x j=>I.mem b o x j) (XF ..) (N.row rfl _) H (.inl ab) (λ_ _=>rfl) rfl rfl rfl (Uh _) Zj;refine⟨Zs β n ver (some (b,S)),⟨I',Y9 G,ab,λi h=>?_,λl' h hl=>?_⟩,?_⟩
  .unfold Zs;grind
  .intro b' V id v ob g K j;by_cases L:id=n
   .subst L;have A:some (ver,Ob.arr false E z es 0)=some (v,ob):=by rw[←K];show _=upd s id _ id;rw[YC]
    grind[XF,XN]
   have A:s id=some (v,ob):=by rw[←K];show _=upd s n _ id;rw[Yb _ _ _ _ L]
   have u:β id v=some (some (b',g)):=by unfold Zs at j;rw[Wj (λh=>L h.1)]at j;exact j
   exact h b' V id v ob g A u
  exact .inr ⟨b,S,o,S,XF ..,rfl,k4,ac,ab⟩
 |.fmp k ks W,y,l,n,s,U,β,I,p,f,e,r=>by
  simp only[imp];have G:β n ver=none:=p n (Uh _);obtain⟨b,rfl,hb,rfl,hlen,N⟩:=f;have H:∀q O J g,q≠n->s q=some (O,J)->β q O≠some (some (b,g)):=λq O J g _ K=>r b (by simp[XN]) q O J g K;have I':=I.set (M':=M) (β':=Zs β n ver (some (b,0))) (w':=w) n ver (.mp k (ks.zip W)) b 0 (MLe.refl _) (Y9 G) (λ_ _=>rfl) (λ_ _ _=>rfl) (λo x j=>I.mem b o x j) (XF ..) (N.row rfl _) H (.inl ab) (λ_ _=>rfl) rfl rfl rfl (Uh _) Zj;refine⟨Zs β n ver (some (b,0)),⟨I',Y9 G,ab,λi h=>?_,λl' h hl=>?_⟩,?_⟩
  .unfold Zs;grind
  .intro b' V id v ob g K j;by_cases L:id=n
   .subst L;have A:some (ver,Ob.mp k (ks.zip W))=some (v,ob):=by rw[←K];show _=upd s id _ id;rw[YC]
    grind[XF,XN]
   have A:s id=some (v,ob):=by rw[←K];show _=upd s n _ id;rw[Yb _ _ _ _ L]
   have u:β id v=some (some (b',g)):=by unfold Zs at j;rw[Wj (λh=>L h.1)]at j;exact j
   exact h b' V id v ob g A u
  exact⟨b,0,XF ..,rfl⟩
 |.agg cs,y,l,n,s,U,β,I,p,f,e,r=>by obtain⟨W,rfl,f⟩:=f;have⟨β',R,h2⟩:=Xbo Z cs W l n I p f e r;grind[imp,Rep]
 |.tup cs,y,l,n,s,U,β,I,p,f,e,r=>by obtain⟨W,rfl,f⟩:=f;have⟨β',R,h2⟩:=Xbo Z cs W l n I p f e r;grind[imp,Rep]
 |.ifc t d,y,l,n,s,U,β,I,p,f,e,r=>by obtain⟨x,rfl,f⟩:=f;have⟨β',R,h2⟩:=imp_ok Z d x l n I p f e r;grind[imp,Rep]
 |.clo fn a b,y,l,n,s,U,β,I,p,f,e,r=>by
  obtain⟨va,vb,rfl,l1,l2,rfl,hr1,hr2⟩:=f;rw[X3,UT]at e;rw[X3]at r;have⟨β1,R,h2⟩:=Xbo Z a va l1 n I p hr1 e.1 (λx j=>r x (WU _ j));have hf2:XiM (app s (VK ver n a).2.2) β1 (XN l2):=R.free _ (λx j=>r x (Ui _ j)) (λx j u=>e.2.2 x u x j rfl);have⟨β2,Y,h4⟩:=Xbo Z b vb l2 (VK ver n a).2.1 R.inv R.high hr2 e.2.1 hf2;refine⟨β2,⟨?_,R.le.trans Y.le,UL R.next Y.next,Y.high,λl' hl' hb=>?_⟩,?_⟩
  .simp only[imp];rw[Za];exact Y.inv.mono λv hv=>by simp_all
  .simp only[imp];rw[Za];refine Y.free _ (R.free _ hl' λx j u=>hb x j ?_) λx j u=>hb x j ?_
   .rw[X3];exact WU _ u
   simp_all[X3]
  exact⟨va,vb,rfl,h2.mono (MLe.refl _) Y.le,h4⟩
 |.any,y,l,n,s,U,β,I,p,f,e,r=>by subst f;exact⟨β,.nil I p,by simp[imp,Rep]⟩
 |.v x,y,l,n,s,U,β,I,p,f,e,r=>by obtain⟨rfl,f⟩:=f;exact⟨β,.nil I p,f.mono (MLe.refl _) (BLe.zero _)⟩
 |.nsl,y,l,n,s,U,β,I,p,f,e,r=>by obtain⟨rfl,f⟩:=f;exact⟨β,.nil I p,f.mono (MLe.refl _) (BLe.zero _)⟩
 |.isl E z es,y,l,n,s,U,β,I,p,f,e,r=>by obtain⟨rfl,f⟩:=f;exact⟨β,.nil I p,f.mono (MLe.refl _) (BLe.zero _)⟩
 |.ipt z cs c,y,l,n,s,U,β,I,p,f,e,r=>by obtain⟨rfl,f⟩:=f;exact⟨β,.nil I p,f.mono (MLe.refl _) (BLe.zero _)⟩
 |.osl ..,y,l,n,s,U,β,I,p,f,e,r=>by simp_all[FrRep]
 |.ept ..,y,l,n,s,U,β,I,p,f,e,r=>by simp_all[FrRep]
 |.omp ..,y,l,n,s,U,β,I,p,f,e,r=>by simp_all[FrRep]
def Xbo{B:Nat}(E:C.w0.heap.size<=B):∀(h:List D) (o:List Value) (l:List (Option (Nat×Nat))) (n:Nat) {s:Heap} {U:Nat->Prop} {β:Loc},U7 P C s U M β w->(∀i,n<=i->β i ver=none)->FrRepL P M w B h o l->(XN l).Nodup->XiM s β (XN l) ->
 ∃β',OW P C s U M β w ver n (VK ver n h).2.1 (VK ver n h).2.2 l β'/\RepL P M β' (VK ver n h).1 o
 |[],o,l,n,s,U,β,I,q,r,e,p=>by obtain⟨rfl,rfl⟩:=r;exact⟨β,.nil I q,by rfl⟩
 |d::h,o,l,n,s,U,β,I,q,r,e,p=>by
  obtain⟨x,G,J,H,rfl,rfl,u,y⟩:=r;rw[X3,UT]at e;rw[X3]at p;have⟨β1,j,K⟩:=imp_ok E d x J n I q u e.1 (λx f=>p x (WU _ f));have z:XiM (app s (imp ver n d).2.2) β1 (XN H):=j.free _ (λx f=>p x (Ui _ f)) (λx f g=>e.2.2 x g x f rfl);have⟨β2,k,L⟩:=Xbo E h G H (imp ver n d).2.1 j.inv j.high y e.2.1 z;refine⟨β2,⟨?_,j.le.trans k.le,UL j.next k.next,k.high,λN A hb=>?_⟩,?_⟩
  .simp only[VK];rw[Za];exact k.inv.mono λv O=>by simp_all
  .simp only[VK];rw[Za];refine k.free _ (j.free _ A λx f g=>hb x f ?_) λx f g=>hb x f ?_
   .rw[X3];exact WU _ g
   simp_all[X3]
  exact⟨x,G,rfl,K.mono (MLe.refl _) k.le,L⟩
end
end
variable {P:Program}
def pos:List Nat->Nat->Option Nat
 |[],_=>none
 |x::l,i=>if x=i then some 0 else(pos l i).map (·+1)
def XjP:∀{l:List Nat} {i j:Nat},pos l i=some j->l[j]? = some i
 |[],i,j,h=>by simp_all[pos]
 |x::l,i,j,h=>by
  unfold pos at h;split at h
  .grind
  simp at h;obtain⟨k,e,rfl⟩:=h;simpa using XjP e
def Xg0:∀{l:List Nat} {i:Nat},pos l i=none->i∉l
 |[],i,_=>by simp
 |x::l,i,h=>by
  unfold pos at h;split at h
  .grind
  rename_i f;simp at h;simp;exact⟨λe=>f e.symm,Xg0 h⟩
mutual
def lend(s:Heap):List Nat->D->Option (Prop×D×List Nat×List Nat)
 |ls,.ept id ver z i c=>match s id with
  |some (g,.arr true _ p [_] _)=>if ver=g/\z=p/\i=0 then
   match pos ls id with
   |some j=>some (True,.ept (LB+j) 0 z 0 c,ls,[])
   |none=>some (True,.ept (LB+ls.length) 0 z 0 c,ls++[id],[])
   else none
  |_=>none
 |ls,.agg k=>match ZI s ls k with
  |some (c,o,f,l)=>some (c,.agg o,f,l)
  |none=>none
 |ls,.tup k=>match ZI s ls k with
  |some (c,o,f,l)=>some (c,.tup o,f,l)
  |none=>none
 |ls,.clo fn a b=>match ZI s ls a with
  |some (c,q,f,l)=>match ZI s f b with
   |some (r,u,h,v)=>some (c/\r,.clo fn q u,h,l++v)
   |none=>none
  |none=>none
 |ls,.ifc t d=>match lend s ls d with
  |some (c,e,f,l)=>some (c,.ifc t e,f,l)
  |none=>none
 |ls,d=>match snap s d with
  |some (c,e,l)=>some (c,e,ls,l)
  |none=>none
def ZI(s:Heap):List Nat->List D->Option (Prop×List D×List Nat×List Nat)
 |ls,[]=>some (True,[],ls,[])
 |ls,d::h=>match lend s ls d with
  |some (c,e,g,l)=>match ZI s g h with
   |some (j,k,f,o)=>some (c/\j,e::k,f,l++o)
   |none=>none
  |none=>none
end
mutual
def lend_prefix{s:Heap}:∀{d f:D} {ls e:List Nat} {c:Prop} {l:List Nat},lend s ls d=some (c,f,e,l)->ls <+:e
 |.ept id ver z i k,f,ls,e,c,l,h=>by unfold lend at h;grind
 |.agg j,f,ls,e,c,l,h=>by
  unfold lend at h;split at h
  .rename_i g;obtain⟨_,_,rfl,_⟩:=h;exact Zb g
  simp_all
 |.tup j,f,ls,e,c,l,h=>by
  unfold lend at h;split at h
  .rename_i g;obtain⟨_,_,rfl,_⟩:=h;exact Zb g
  simp_all
 |.clo fn a b,f,ls,e,c,l,h=>by
  unfold lend at h;split at h
  .rename_i o;split at h
   .rename_i p;obtain⟨_,_,rfl,_⟩:=h;exact(Zb o).trans (Zb p)
   cases h
  simp_all
 |.ifc t d,f,ls,e,c,l,h=>by
  unfold lend at h;split at h
  .rename_i g;obtain⟨_,_,rfl,_⟩:=h;exact lend_prefix g
  simp_all
 |.osl id ver z off len,f,ls,e,c,l,h=>by unfold lend at h;grind
 |.any,f,ls,e,c,l,h=>by unfold lend at h;grind
 |.v x,f,ls,e,c,l,h=>by unfold lend at h;grind
 |.nsl,f,ls,e,c,l,h=>by unfold lend at h;grind
 |.isl E z q,f,ls,e,c,l,h=>by unfold lend at h;grind
 |.ipt z j k,f,ls,e,c,l,h=>by unfold lend at h;grind
 |.fsl E z q,f,ls,e,c,l,h=>by unfold lend at h;grind
 |.fmp k r u,f,ls,e,c,l,h=>by unfold lend at h;grind
 |.omp id ver,f,ls,e,c,l,h=>by unfold lend at h;grind
def Zb{s:Heap}:∀{g f:List D} {ls e:List Nat} {c:Prop} {l:List Nat},ZI s ls g=some (c,f,e,l)->ls <+:e
 |[],f,ls,e,c,l,h=>by simp_all[ZI,Wo,Wx]
 |d::g,f,ls,e,c,l,h=>by
  unfold ZI at h;split at h
  .rename_i j;split at h
   .rename_i k;obtain⟨_,_,rfl,_⟩:=h;exact(lend_prefix j).trans (Zb k)
   cases h
  simp_all
end
def Xdm(s:Heap)(ls:List Nat):Prop:=ls.Nodup/\∀id∈ls,∃v E z e fz,s id=some (v,.arr true E z [e] fz)
mutual
def lend_boxes{s:Heap}:∀{d f:D} {ls e:List Nat} {c:Prop} {l:List Nat},lend s ls d=some (c,f,e,l)->Xdm s ls->Xdm s e
 |.ept id ver z i k,f,ls,e,c,l,h=>by
  intro hb;unfold lend at h;split at h
  .rename_i q;split at h
   .split at h
    .obtain⟨_,_,rfl,_⟩:=h;exact hb
    rename_i hp;obtain⟨_,_,rfl,_⟩:=h;refine⟨UT.2 ⟨hb.1,ac,λx g y o=>?_⟩,λx g=>?_⟩
    .simp at o;subst o;rintro rfl;exact Xg0 hp g
    simp at g;rcases g with g|rfl
    .exact hb.2 x g
    exact⟨_,_,_,_,_,q⟩
   cases h
  simp_all
 |.agg p,f,ls,e,c,l,h=>by
  unfold lend at h;split at h
  .rename_i j;obtain⟨_,_,rfl,_⟩:=h;exact Y7 j
  simp_all
 |.tup p,f,ls,e,c,l,h=>by
  unfold lend at h;split at h
  .rename_i j;simp only[Wo,Wx]at h;obtain⟨_,_,rfl,_⟩:=h;exact Y7 j
  simp_all
 |.clo fn a b,f,ls,e,c,l,h=>by
  unfold lend at h;split at h
  .rename_i r;split at h
   .rename_i u;simp only[Wo,Wx]at h;obtain⟨_,_,rfl,_⟩:=h;exactλhb=>Y7 u (Y7 r hb)
   cases h
  simp_all
 |.ifc t d,f,ls,e,c,l,h=>by
  unfold lend at h;split at h
  .rename_i j;simp only[Wo,Wx]at h;obtain⟨_,_,rfl,_⟩:=h;exact lend_boxes j
  simp_all
 |.osl id ver z off len,f,ls,e,c,l,h=>by unfold lend at h;grind
 |.any,f,ls,e,c,l,h=>by unfold lend at h;grind
 |.v x,f,ls,e,c,l,h=>by unfold lend at h;grind
 |.nsl,f,ls,e,c,l,h=>by unfold lend at h;grind
 |.isl E z A,f,ls,e,c,l,h=>by unfold lend at h;grind
 |.ipt z p k,f,ls,e,c,l,h=>by unfold lend at h;grind
 |.fsl E z A,f,ls,e,c,l,h=>by unfold lend at h;grind
 |.fmp k B G,f,ls,e,c,l,h=>by unfold lend at h;grind
 |.omp id ver,f,ls,e,c,l,h=>by unfold lend at h;grind
def Y7{s:Heap}:∀{g f:List D} {ls e:List Nat} {c:Prop} {l:List Nat},ZI s ls g=some (c,f,e,l)->Xdm s ls->Xdm s e
 |[],f,ls,e,c,l,h=>by simp_all[ZI,Wo,Wx]
 |d::g,f,ls,e,c,l,h=>by
  unfold ZI at h;split at h
  .rename_i j;split at h
   .rename_i k;obtain⟨_,_,rfl,_⟩:=h;exactλhb=>Y7 k (lend_boxes j hb)
   cases h
  simp_all
end
section
variable {C:Cx}{s:Heap}{U:Nat->Prop}{M M':Mem}{β:Loc}{w:World}
def XfR(s:Heap)(β:Loc)(ls:List Nat)(lb:List (Nat×Nat)):Prop:=
 ∀(j:Nat)id,ls[j]? = some id->∃v E z e fz x,s id=some (v,.arr true E z [e] fz)/\lb[j]? = some x/\β id v=some (some x)
mutual
def lend_rep(I:U7 P C s U M β w)(u:MLe M M'){lsF:List Nat}{lbF:List (Nat×Nat)}(J:XfR s β lsF lbF):∀{d r:D} {ls g:List Nat} {c:Prop} {l:List Nat},lend s ls d=some (c,r,g,l)->c->Frz s M' β w l->g <+:lsF ->
 ∀{y:Value},Rep P M β d y->Rep P M' (Kf lbF) r y
 |.ept id ver z i k,r,ls,g,c,l,h,o,p,hp,y,f=>by
  have key:∀j,lsF[j]? = some id->i=0->(∃E K fz,s id=some (ver,.arr true E z [K] fz))->Rep P M' (Kf lbF) (.ept (LB+j) 0 z 0 k) y:=by
   rintro j T rfl ⟨E,K,fz,R⟩;obtain⟨v',E',z',cs',fz',x,N,hx,hb⟩:=J j id T;rw[R]at N;obtain⟨rfl,_⟩:ver=v'/\_:=by simpa using N
   simp only[Rep]at f⊢;obtain⟨b,Y,O,rfl⟩:=f;rw[hb]at O;obtain rfl:x=(b,Y):=by simpa using O
   exact⟨b,Y,by simp[Kf,hx],rfl⟩
  unfold lend at h;split at h
  .rename_i Z E z' K fz R;split at h
   .rename_i G;have⟨rfl,rfl,L⟩:=G;split at h
    .rename_i j T;obtain⟨rfl,rfl,rfl,rfl⟩:=h;refine key j ?_ L ⟨_,_,_,R⟩;have:=XjP T;obtain⟨t,rfl⟩:=hp;rw[Uk]
     .exact this
     rcases Ux j ls.length with h|h
     .exact h
     rw[WN h]at this;cases this
    obtain⟨rfl,rfl,rfl,rfl⟩:=h;refine key ls.length ?_ L ⟨_,_,_,R⟩;obtain⟨t,rfl⟩:=hp;simp
   cases h
  simp_all
 |.agg K,r,ls,g,c,l,h,o,p,hp,y,f=>by
  unfold lend at h;split at h
  .rename_i A ds H B q;obtain⟨rfl,rfl,rfl,rfl⟩:=h;simp only[Rep]at f⊢;obtain⟨S,e,f⟩:=f;exact⟨S,e,K5 I u J q o p hp f⟩
  simp_all
 |.tup K,r,ls,g,c,l,h,o,p,hp,y,f=>by
  unfold lend at h;split at h
  .rename_i A ds H B q;simp only[Wo,Wx]at h;obtain⟨rfl,rfl,rfl,rfl⟩:=h;simp only[Rep]at f⊢;obtain⟨S,e,f⟩:=f;exact⟨S,e,K5 I u J q o p hp f⟩
  simp_all
 |.clo fn a b,r,ls,g,c,l,h,o,p,hp,y,f=>by
  unfold lend at h;split at h
  .rename_i c1 a' ls1 l1 h1;split at h
   .rename_i c2 b' H l2 h2;simp only[Wo,Wx]at h;obtain⟨rfl,rfl,rfl,rfl⟩:=h;simp only[Rep]at f⊢;obtain⟨va,vb,e,V,W⟩:=f;exact⟨va,vb,e,K5 I u J h1 o.1 (λi L=>p i (WU _ L)) ((Zb h2).trans hp) V,K5 I u J h2 o.2 (λi L=>p i (Ui _ L)) hp W⟩
   cases h
  simp_all
 |.ifc t d,r,ls,g,c,l,h,o,p,hp,y,f=>by
  unfold lend at h;split at h
  .rename_i A e H B q;simp only[Wo,Wx]at h;obtain⟨rfl,rfl,rfl,rfl⟩:=h;simp only[Rep]at f⊢;obtain⟨x,e,f⟩:=f;exact⟨x,e,lend_rep I u J q o p hp f⟩
  simp_all
 |.osl id ver z off len,r,ls,g,c,l,h,o,p,hp,y,f=>by
  unfold lend at h;split at h
  .rename_i A e B q;simp only[Wo,Wx]at h;obtain⟨rfl,rfl,rfl,rfl⟩:=h;exact(snap_rep I u q o p f).mono (MLe.refl _) (BLe.zero _)
  simp_all
 |.any,r,ls,g,c,l,h,o,p,hp,y,f=>by
  unfold lend at h;split at h
  .rename_i A e B q;simp only[Wo,Wx]at h;obtain⟨rfl,rfl,rfl,rfl⟩:=h;exact(snap_rep I u q o p f).mono (MLe.refl _) (BLe.zero _)
  simp_all
 |.v x,r,ls,g,c,l,h,o,p,hp,y,f=>by
  unfold lend at h;split at h
  .rename_i A e B q;simp only[Wo,Wx]at h;obtain⟨rfl,rfl,rfl,rfl⟩:=h;exact(snap_rep I u q o p f).mono (MLe.refl _) (BLe.zero _)
  simp_all
 |.nsl,r,ls,g,c,l,h,o,p,hp,y,f=>by
  unfold lend at h;split at h
  .rename_i A e B q;simp only[Wo,Wx]at h;obtain⟨rfl,rfl,rfl,rfl⟩:=h;exact(snap_rep I u q o p f).mono (MLe.refl _) (BLe.zero _)
  simp_all
 |.isl E z es,r,ls,g,c,l,h,o,p,hp,y,f=>by
  unfold lend at h;split at h
  .rename_i A e B q;simp only[Wo,Wx]at h;obtain⟨rfl,rfl,rfl,rfl⟩:=h;exact(snap_rep I u q o p f).mono (MLe.refl _) (BLe.zero _)
  simp_all
 |.ipt z K k,r,ls,g,c,l,h,o,p,hp,y,f=>by
  unfold lend at h;split at h
  .rename_i A e B q;simp only[Wo,Wx]at h;obtain⟨rfl,rfl,rfl,rfl⟩:=h;exact(snap_rep I u q o p f).mono (MLe.refl _) (BLe.zero _)
  simp_all
 |.fsl E z es,r,ls,g,c,l,h,o,p,hp,y,f=>by simp_all[Rep]
 |.fmp k ks S,r,ls,g,c,l,h,o,p,hp,y,f=>by simp_all[Rep]
 |.omp id ver,r,ls,g,c,l,h,o,p,hp,y,f=>by simp_all[lend,snap]
def K5(I:U7 P C s U M β w)(v:MLe M M'){lsF:List Nat}{lbF:List (Nat×Nat)}(y:XfR s β lsF lbF):∀{k f:List D} {ls g:List Nat} {c:Prop} {l:List Nat},ZI s ls k=some (c,f,g,l)->c->Frz s M' β w l->g <+:lsF ->
 ∀{j:List Value},RepL P M β k j->RepL P M' (Kf lbF) f j
 |[],f,ls,g,c,l,h,o,p,hp,j,z=>by simp_all[ZI,Wo,Wx,RepL]
 |d::k,f,ls,g,c,l,h,o,p,hp,j,z=>by
  unfold ZI at h;split at h
  .rename_i c1 e B J E;split at h
   .rename_i K L G N A;obtain⟨rfl,rfl,rfl,rfl⟩:=h;have⟨x,H,e,q,r⟩:=z;exact⟨x,H,e,lend_rep I v y E o.1 (λi u=>p i (WU _ u)) ((Zb A).trans hp) q,K5 I v y A o.2 (λi u=>p i (Ui _ u)) hp r⟩
   cases h
  simp_all
end
end
variable {P:Program}
def Jl(s:Heap):List Nat->Option (Prop×List Ob×List Nat)
 |[]=>some (True,[],[])
 |id::ids=>match s id with
  |some (_,.arr true E z [e] fz)=>match ZO s e,Jl s ids with
   |some (c,f,l),some (g,obs,h)=>some (c/\g,.arr true E z [f] fz::obs,l++h)
   |_,_=>none
  |_=>none
def ZP(s:Heap):List Nat->List Ob->Up
 |id::ids,o::os=>match s id with
  |some (v,_)=>(id,v,o)::ZP s ids os
  |none=>ZP s ids os
 |_,_=>[]
section
variable {C:Cx}{s:Heap}{U:Nat->Prop}{M M':Mem}{β:Loc}{w w':World}
def XbV{L:List Nat}(I:U7 P C s U M β w)(hM:MLe M M')(I':U7 P C (frz s L) U M' β w)(A:Frz s M' β w L):∀{ids:List Nat} {c:Prop} {obs:List Ob} {l:List Nat} {lb:List (Nat×Nat)},Jl s ids=some (c,obs,l)->c->(∀x∈l,x∈L)->XfR s β ids lb->lb.length=ids.length ->
 obs.length=ids.length/\∀(k:Nat)ob x,obs[k]? = some ob->lb[k]? = some x->ObRep P M' Yz w (some x) ob/\ob.bx=true
 |[],c,obs,l,lb,h,O,R,S,f=>by simp_all[Jl,Wo,Wx]
 |id::ids,c,obs,l,lb,h,O,R,S,f=>by
  unfold Jl at h;split at h
  .rename_i v E z p fz N;split at h
   .rename_i c1 ds l1 c2 obs2 l2 h1 h2;obtain⟨rfl,rfl,rfl⟩:=h;match lb,f with
    |x0::lb,f=>
     have V:XfR s β ids lb:=λj i hj=>by simpa using S (j+1) i (by simpa using hj)
     have⟨g1,g2⟩:=XbV I hM I' A h2 O.2 (λx g=>R x (Ui _ g)) V (by simpa using f);refine⟨by simp[g1],λk ob x W g=>?_⟩;cases k with
     |succ k=>exact g2 k ob x (by exact W) (by exact g)
     |zero=>
      simp at W g;subst W;subst g;refine⟨?_,rfl⟩;have⟨v',E',z',cs',fz',x,B,D,hb⟩:=S 0 id ac;simp at D;subst D;rw[N]at B;obtain⟨rfl,_⟩:v=v'/\_:=by simpa using B
      have Y:frz s L id=some (v,.arr true E z [p] fz):=by
       unfold frz;split
       .rw[N];rfl
       exact N
      have⟨x1,G,Z⟩:=I'.obs id v _ Y;rw[hb]at G;obtain rfl:x0=x1:=by simpa using G
      have⟨b,cb⟩:=x0;have⟨y,T,k1,k2,k3,k4,k5,k6,k7,k8,k9,k10⟩:=Z;have⟨x2,H,J⟩:=I.obs id v _ N;rw[hb]at H;obtain rfl:some (b,cb)=x2:=by simpa using H
      have⟨y2,T2,j1,j2,j3,j4,j5,j6,j7,j8,j9,j10⟩:=J;rw[k1]at j1;have⟨rfl,rfl⟩:y=y2/\T=T2:=by simpa using j1
      have o:RepL P M β p (y.toList.take p.length):=by
       have hle:p.length<=y.size:=by have:=k3 p ac;have:z<=cb*z:=Nat.le_mul_of_pos_left _ (by simp at k4;omega);omega
       refine RepL.of ai λi d x hd g=>?_;obtain⟨u,r,q⟩:=j10 i d (by simpa using hd);rw[Ur]at g;split at g
       .rw[U2,r]at g;obtain rfl:u=x:=by simpa using g
        exact q
       cases g
      have K:=Km I hM h1 O.1 (λi hi=>A i (R i (WU _ hi))) o;have hdl:ds.length=p.length:=by rw[←K.length,o.length]
      refine⟨y,T,k1,k2,?_,by exact k4,by exact k5,by exact k6,by exact k7,k8,k9,λi d hd=>?_⟩
      .intro e he;simp at he;subst he;rw[hdl];exact k3 p ac
      have hd':ds[i]? = some d:=by simpa using hd
      have⟨u,r,q⟩:=K.get i d hd';rw[Ur]at r;split at r
      .exact⟨u,by simpa using r,q⟩
      cases r
   cases h
  simp_all
def Xdn(f:Heap):∀(ids:List Nat) (obs:List Ob) (s:Heap) (i:Nat),ids.Nodup->(∀id∈ids,∃v o,f id=some (v,o))->obs.length=ids.length ->
 (i∉ids->app s (ZP f ids obs) i=s i)/\∀(j:Nat)o,ids[j]? = some i->obs[j]? = some o->∀v o',f i=some (v,o')->app s (ZP f ids obs) i=some (v,o)
 |[],obs,s,i,_,_,_=>by simp[ZP,app]
 |id::ids,o::obs,s,i,g,e,h=>by
  have⟨v,y,k⟩:=e id ac;simp at g;have p:app s (ZP f (id::ids) (o::obs))=app (upd s id (some (v,o))) (ZP f ids obs):=by simp only[ZP,k];rfl
  have⟨g1,g2⟩:=Xdn f ids obs (upd s id (some (v,o))) i g.2 (λx z=>e x (by grind)) (by simp_all);rw[p];refine⟨λq=>?_,λj o' A B D r u=>?_⟩
  .simp_all[Ig,not_or,g1,q,Yb]
  cases j with
  |zero=>simp_all[k,g1,g,YC]
  |succ j=>grind
def U7.called(I:U7 P C s U M β w){ids:List Nat}{lb:List (Nat×Nat)}(hB:Xdm s ids)(T:XfR s β ids lb)(hlb:lb.length=ids.length)(hK:Kp w (lb.map (·.1)) w')(hmem:MemOK M' w')(p:∀b o,b<w.heap.size->M' b o=M b o){obs:List Ob}(V:obs.length=ids.length)(K:∀(k:Nat)ob x,obs[k]? = some ob->lb[k]? = some x->ObRep P M' Yz w' (some x) ob/\ob.bx=true):
 U7 P C (app s (ZP s ids obs)) U M' β w'/\MLe M M':=by
 have q:MLe M M':=λb o x g=>by rw[p b o (I.mem.lt g)];omega
 have L:∀id∈ids,∃v o,s id=some (v,o):=λid f=>by have⟨v,E,z,W,fz,h⟩:=hB.2 id f;simp_all
 have G:∀id v ob,app s (ZP s ids obs) id=some (v,ob)->(id∉ids/\s id=some (v,ob))\/∃(j:Nat) (x:Nat×Nat) (r:Ob),ids[j]? = some id/\lb[j]? = some x/\obs[j]? = some ob/\s id=some (v,r)/\r.bx=true/\β id v=some (some x):=by
  intro id v ob h;obtain⟨g1,g2⟩:=Xdn s ids obs s id hB.1 L V;by_cases f:id∈ids
  .right;obtain⟨j,H,rfl⟩:=Wv f;have⟨D,E,z,W,fz,x,e,g,hb⟩:=T j _ (Wb H);have N:obs[j]? = some (obs[j]'ab):=Wb ab;have:=g2 j _ ac N D _ e;have⟨rfl,rfl⟩:D=v/\obs[j]'ab=ob:=by simp_all
   exact⟨j,x,_,Wb H,g,N,e,rfl,hb⟩
  simp_all
 have O:∀id v ob b u,id∉ids->s id=some (v,ob)->β id v=some (some (b,u))->b∉lb.map (·.1):=by
  intro id v ob b u f e hb R;rw[WI]at R;obtain⟨x,g,rfl⟩:=R;obtain⟨j,H,rfl⟩:=Wv g;obtain⟨D,E,z,W,fz,x',y,A,B⟩:=T j (ids[j]'ab) ac;have:lb[j]=x':=by rw[Wb H]at A;simpa using A
  have S:=I.inj id v ob (ids[j]'ab) D _ _ u x'.2 e y (by rw[hb]) (by simp_all);exact f (S▸Wt _)
 refine⟨?_,q⟩;constructor
 .omega
 .exact I.used
 .intro id v ob e;rcases G id v ob e with⟨f,e⟩|⟨j,x,r,H,g,N,e,_,hb⟩
  .have⟨x,g,Y⟩:=I.obs id v ob e;refine⟨x,g,Y.mono q (BLe.refl _) ?_ ?_⟩
   .rintro b u rfl;exact hK.block b Y.lt (O id v ob b u f e g)
   rintro b u rfl o;exact p b o Y.lt
  have⟨g1,g2⟩:=K j ob x N g;exact⟨some x,hb,g1.mono (MLe.refl _) (BLe.zero _) (λ_ _ _=>rfl) (λ_ _ _ _=>rfl)⟩
 .intro id v ob b u e hb;rcases G id v ob e with⟨f,e⟩|⟨j,x,r,H,g,N,e,hbx,B⟩
  .exact I.own id v ob b u e hb
  rcases I.own id v r b u e hb with h|h
  .exact .inl h
  grind
 .intro id v ob J D Z b u cb' e y hb B;have h1:∃o,s id=some (v,o):=by rcases G id v ob e with⟨_,e⟩|⟨_,_,o,_,_,_,e,_⟩<;>exact⟨_,e⟩
  have h2:∃o,s J=some (D,o):=by rcases G J D Z y with⟨_,e⟩|⟨_,_,o,_,_,_,e,_⟩<;>exact⟨_,e⟩
  have⟨o1,h1⟩:=h1;have⟨o2,h2⟩:=h2;exact I.inj id v o1 J D o2 b u cb' h1 h2 hb B
 .refine⟨hK.os.trans I.keep.os,hK.tape.trans I.keep.tape,hK.output.trans I.keep.output,UL I.keep.size hK.size,λk hk hl=>?_⟩;rw[←I.keep.block k hk hl];refine hK.block k (I7 hk I.keep.size) λR=>?_;rw[WI]at R;obtain⟨x,g,rfl⟩:=R;obtain⟨j,H,rfl⟩:=Wv g;have⟨D,E,z,W,fz,x',y,A,B⟩:=T j (ids[j]'ab) ac;have hx2:lb[j]=x':=by rw[Wb H]at A;simpa using A
  rcases I.own _ D _ lb[j].1 x'.2 y (by rw[B,hx2])with h|h
  .omega
  simp_all
 .intro b o hb;rw[p b o (I7 hb I.keep.size)];exact I.old b o hb
 .exact I.le.trans q
 exact I.glob
end
variable {P:Program}
mutual
def fits:D->D->Prop
 |.nsl,.isl _ _ j=>j=[]
 |.agg f,.agg g=>ZZ f g
 |.tup f,.tup g=>ZZ f g
 |.clo fn a b,.clo h k o=>fn=h/\ZZ a k/\ZZ b o
 |.ifc t d,.ifc p q=>t=p/\fits d q
 |d,e=>d=e
def ZZ:List D->List D->Prop
 |[],[]=>True
 |d::f,e::g=>fits d e/\ZZ f g
 |_,_=>False
end
mutual
def fits_rep{M:Mem}{β:Loc}:∀{d e:D} {y:Value},fits d e->Rep P M β d y->Rep P M β e y
 |.nsl,e,y,h,g=>by
  cases e<;>simp only[fits,reduceCtorEq]at h<;>try (first|exact g|(exact h.elim))
  grind[Rep,Xs]
 |.agg q,e,y,h,g=>by cases e<;>simp only[fits,reduceCtorEq]at h;have⟨j,e,g⟩:=g;exact⟨j,e,K6 h g⟩
 |.tup q,e,y,h,g=>by cases e<;>simp only[fits,reduceCtorEq]at h;have⟨j,e,g⟩:=g;exact⟨j,e,K6 h g⟩
 |.clo fn a b,e,y,h,g=>by cases e<;>simp only[fits,reduceCtorEq]at h;have⟨rfl,k,r⟩:=h;have⟨u,vb,e,o,p⟩:=g;exact⟨u,vb,e,K6 k o,K6 r p⟩
 |.ifc t d,e,y,h,g=>by cases e<;>simp only[fits,reduceCtorEq]at h;have⟨rfl,k⟩:=h;have⟨x,e,g⟩:=g;exact⟨x,e,fits_rep k g⟩
 |.any,e,y,h,g=>by simp_all[fits]
 |.v x,e,y,h,g=>by simp_all[fits]
 |.isl a b c,e,y,h,g=>by simp_all[fits]
 |.osl a b c d f,e,y,h,g=>by simp_all[fits]
 |.ept a b c d f,e,y,h,g=>by simp_all[fits]
 |.ipt a b c,e,y,h,g=>by simp_all[fits]
 |.fsl a b c,e,y,h,g=>by simp_all[Rep]
 |.fmp a b c,e,y,h,g=>by simp_all[Rep]
 |.omp a b,e,y,h,g=>by simp_all[fits]
def K6{M:Mem}{β:Loc}:∀{j f:List D} {g:List Value},ZZ j f->RepL P M β j g->RepL P M β f g
 |[],f,g,h,k=>by grind[ZZ]
 |d::j,f,g,h,k=>by cases f<;>simp only[ZZ]at h;have⟨x,o,e,p,q⟩:=k;exact⟨x,o,e,fits_rep h.1 p,K6 h.2 q⟩
end
mutual
def scal:D->Bool
 |.any=>true
 |.v _=>true
 |.agg e=>JT e
 |.tup e=>JT e
 |_=>false
def JT:List D->Bool
 |[]=>true
 |d::e=>scal d&&JT e
end
mutual
def scal_rep{M M':Mem}{w:World}{B:Nat}(β:Loc)(ver n:Nat):∀{d:D} {y:Value} {l:List (Option (Nat×Nat))},scal d=true->FrRep P M w B d y l->l=[]/\Rep P M' β d y/\imp ver n d=(d,n,[])
 |.any,y,l,_,f=>by simp_all[FrRep,Rep,imp]
 |.v x,y,l,_,f=>by simp_all[FrRep,Rep,imp]
 |.agg j,y,l,g,f=>by have⟨k,e,f⟩:=f;have⟨o,p,h⟩:=XbW (M':=M') β ver n g f;simp_all[Rep,imp,h]
 |.tup j,y,l,g,f=>by have⟨k,e,f⟩:=f;have⟨o,p,h⟩:=XbW (M':=M') β ver n g f;simp_all[Rep,imp,h]
 |.nsl,y,l,g,f=>by simp_all[scal]
 |.isl ..,y,l,g,f=>by simp_all[scal]
 |.osl ..,y,l,g,f=>by simp_all[scal]
 |.ept ..,y,l,g,f=>by simp_all[scal]
 |.ipt ..,y,l,g,f=>by simp_all[scal]
 |.clo ..,y,l,g,f=>by simp_all[scal]
 |.ifc ..,y,l,g,f=>by simp_all[scal]
 |.fsl ..,y,l,g,f=>by simp_all[scal]
 |.fmp ..,y,l,g,f=>by simp_all[scal]
 |.omp ..,y,l,g,f=>by simp_all[scal]
def XbW{M M':Mem}{w:World}{B:Nat}(β:Loc)(ver n:Nat):∀{f:List D} {g:List Value} {l:List (Option (Nat×Nat))},JT f=true->FrRepL P M w B f g l->l=[]/\RepL P M' β f g/\VK ver n f=(f,n,[])
 |[],g,l,_,h=>by simp_all[FrRepL,RepL,h,VK]
 |d::f,g,l,j,h=>by simp only[JT,WH]at j;obtain⟨x,r,u,v,e,rfl,k,o⟩:=h;obtain⟨rfl,y,p⟩:=scal_rep (M':=M') β ver n j.1 k;obtain⟨rfl,z,q⟩:=XbW (M':=M') β ver n j.2 o;exact⟨rfl,by grind[RepL],by simp[VK,p,q,Ih]⟩
end
mutual
def FrRep.ge{M:Mem}{w:World}{B:Nat}:∀{d:D} {y:Value} {l:List (Option (Nat×Nat))},FrRep P M w B d y l->∀b∈XN l,B<=b
 |.fsl E z p,y,l,e=>by
  rcases e with⟨rfl,_⟩|⟨b,q,o,rfl,hb,_⟩
  .simp[XN]
  simp[XN,hb]
 |.fmp k r f,y,l,e=>by obtain⟨b,rfl,hb,_⟩:=e;simp[XN,hb]
 |.agg g,y,l,e=>by have⟨f,_,e⟩:=e;exact FrRepL.ge e
 |.tup g,y,l,e=>by have⟨f,_,e⟩:=e;exact FrRepL.ge e
 |.ifc t d,y,l,e=>by have⟨f,_,e⟩:=e;exact FrRep.ge e
 |.clo fn a b,y,l,e=>by
  obtain⟨u,vb,_,x,A,rfl,h,j⟩:=e;intro b hb;rw[X3,Wr]at hb;rcases hb with hb|hb
  .exact FrRepL.ge h b hb
  exact FrRepL.ge j b hb
 |.any,y,l,e=>by simp_all[FrRep,XN]
 |.v _,y,l,e=>by simp_all[FrRep,e,XN]
 |.nsl,y,l,e=>by simp_all[FrRep,e,XN]
 |.isl ..,y,l,e=>by simp_all[FrRep,e,XN]
 |.ipt ..,y,l,e=>by simp_all[FrRep,e,XN]
 |.osl ..,y,l,e=>by simp_all[FrRep]
 |.ept ..,y,l,e=>by simp_all[FrRep]
 |.omp ..,y,l,e=>by simp_all[FrRep]
def FrRepL.ge{M:Mem}{w:World}{B:Nat}:∀{g:List D} {e:List Value} {l:List (Option (Nat×Nat))},FrRepL P M w B g e l->∀b∈XN l,B<=b
 |[],e,l,f=>by simp_all[FrRepL,f,XN]
 |d::g,e,l,f=>by
  obtain⟨x,k,o,p,_,rfl,h,j⟩:=f;intro b hb;rw[X3,Wr]at hb;rcases hb with hb|hb
  .exact FrRep.ge h b hb
  exact FrRepL.ge j b hb
end
def Zf(s:Heap)(args:List D):Option (Prop×List D×List Nat×List Ob×List Nat):=
 match ZI s [] args with
 |some (c,as,ids,e)=>match Jl s ids with
  |some (f,obs,g)=>some (c/\f,as,ids,obs,e++g)
  |none=>none
 |none=>none
def VT:Ob->Bool
 |.arr true _ _ e 0=>e.all JT
 |_=>false
mutual
def scalR{M M':Mem}{β β':Loc}:∀{d:D} {y:Value},scal d=true->Rep P M β d y->Rep P M' β' d y
 |.any,y,_,_=>by simp[Rep]
 |.v x,y,_,h=>by assumption
 |.agg j,y,f,h=>by have⟨g,e,h⟩:=h;exact⟨g,e,XiN f h⟩
 |.tup j,y,f,h=>by have⟨g,e,h⟩:=h;exact⟨g,e,XiN f h⟩
 |.nsl,_,f,_=>by assumption
 |.isl ..,_,f,_=>by simp_all[scal]
 |.osl ..,_,f,_=>by simp_all[scal]
 |.ept ..,_,f,_=>by simp_all[scal]
 |.ipt ..,_,f,_=>by simp_all[scal]
 |.clo ..,_,f,_=>by simp_all[scal]
 |.ifc ..,_,f,_=>by simp_all[scal]
 |.fsl ..,_,f,_=>by assumption
 |.fmp ..,_,f,_=>by assumption
 |.omp ..,_,f,_=>by simp_all[scal]
def XiN{M M':Mem}{β β':Loc}:∀{f:List D} {g:List Value},JT f=true->RepL P M β f g->RepL P M' β' f g
 |[],g,_,h=>by assumption
 |d::f,g,j,h=>by simp only[JT,WH]at j;have⟨x,k,e,o,p⟩:=h;exact⟨x,k,e,scalR j.1 o,XiN j.2 p⟩
end
def XeW:∀{f:List D},JT f=true->∀d∈f,scal d=true
 |[],_,d,h=>by grind
 |e::f,g,d,h=>by
  simp only[JT,WH]at g;rcases Ig.1 h with rfl|h
  .simp_all
  exact XeW g.2 d h
def Xlf{M M':Mem}{w:World}{x:Nat×Nat}:∀{ob:Ob},VT ob=true->(∀b o y,M b o=some y->M' b o=some y)->ObRep P M' Yz w (some x) ob->ObRep P M Yz w (some x) ob
 |.mp ..,f,_,_=>by simp_all[VT]
 |.raw _,f,_,_=>by simp_all[VT]
 |.arr false ..,f,_,_=>by simp_all[VT]
 |.arr true E z k (n+1),f,_,_=>by simp_all[VT]
 |.arr true E z k 0,f,p,h=>by
  have⟨b,L⟩:=x;simp only[VT,WV]at f;have⟨q,T,k1,k2,r,u,v,A,B,D,G,g⟩:=h;refine⟨q,T,k1,k2,r,u,v,A,B,D,λo=>?_,λi d hd=>?_⟩
  .have H:=G o;rw[Wj ab]at H⊢;cases N:M b o with
   |none=>rfl
   |some y=>simp_all
  have⟨y,I,J⟩:=g i d hd;have⟨e,K,j⟩:=List.mem_flatten.1 (W5 hd);exact⟨y,I,scalR (XeW (f e K) d j) J⟩
def K7(s:Heap)(ids fz:List Nat)(r:D)(ls:List Ob)(ver n:Nat):D×Heap:=
 let e:=if scal r&&ls.all VT then s else frz s fz
 let f:=app e (ZP s ids ls)
 let q:=imp ver n r
 (q.1,app f q.2.2)
section
variable {C:Cx}{s:Heap}{U:Nat->Prop}{M:Mem}{β:Loc}{w:World}{ver:Nat}
def XbX(s:Heap)(fz:List Nat):∀(ids:List Nat) (obs:List Ob),(∀id∈ids,∃v o,s id=some (v,o))->ZP (frz s fz) ids obs=ZP s ids obs
 |[],_,_=>rfl
 |id::ids,[],_=>rfl
 |id::ids,o::obs,h=>by
  have⟨v,j,e⟩:=h id ac;have k:=XbX s fz ids obs λx p=>h x (by simp[p]);have g:∃o',frz s fz id=some (v,o'):=by
   unfold frz;split
   .rw[e];cases j with
    |mp _=>exact⟨_,rfl⟩
    |raw _=>exact⟨_,rfl⟩
    |arr bx E z q f=>cases bx<;>exact⟨_,rfl⟩
   exact⟨_,e⟩
  have⟨o',g⟩:=g;simp[ZP,g,e,k]
def XjQ(I:U7 P C s U M β w)(hv:¬U ver){f:FuncId}{args eargs:List D}{vs:List Value}(hr:RepL P M β args vs){c:Prop}{as:List D}{ids:List Nat}{obs:List Ob}{fz:List Nat}(h:Zf s args=some (c,as,ids,obs,fz))(hc:c)(hfit:ZZ as eargs){R:D->List Ob->Prop}(hA:YV P C.G f eargs obs R)(n:Nat):
 Calls P f ⟨vs⟩ w λe w'=>∃v r ls M' β',e=.returned v/\R r ls/\U7 P C (K7 s ids fz r ls ver n).2 (λx=>U x\/x=ver) M' β' w'/\Rep P M' β' (K7 s ids fz r ls ver n).1 v/\MLe M M'/\BLe β β':=by
 unfold Zf at h;split at h
 .rename_i c1 as' ids' l1 hl;split at h
  .rename_i c2 obs' l2 ho;simp only[Wo,Wx]at h;have⟨rfl,rfl,rfl,rfl,rfl⟩:=h;have⟨M1,I1,N,hF⟩:=I.freeze (l1++l2);have hboxes:Xdm s ids':=Y7 hl ⟨ac,ac⟩;have hlb:∃lb:List (Nat×Nat),lb.length=ids'.length/\XfR s β ids' lb:=by
    have:∀l:List Nat,(∀id∈l,∃v E z H fz,s id=some (v,.arr true E z [H] fz))->∃lb:List (Nat×Nat),lb.length=l.length/\XfR s β l lb:=by
     intro l;induction l with
     |nil=>intro _;exact⟨[],rfl,λj id h=>by simp at h⟩
     |cons id l ih=>
      intro q;obtain⟨lb,J,h2⟩:=ih λx y=>q x (by simp[y]);obtain⟨v,E,z,H,fz,A⟩:=q id ac;obtain⟨x,y,hob⟩:=I.obs id v _ A;cases x with
      |none=>simp[ObRep]at hob
      |some x=>
       refine⟨x::lb,by simp[J],λj i T=>?_⟩;cases j with
       |zero=>simp at T;subst T;exact⟨v,E,z,H,fz,x,A,ac,y⟩
       |succ j=>simpa using h2 j i (by simpa using T)
    exact this ids' hboxes.2
   have⟨lb,u,hL⟩:=hlb;have hargs:=K6 hfit (K5 I N hL hl hc.1 (λi hi=>hF i (WU _ hi)) (List.prefix_refl _) hr);have⟨g1,g2⟩:=XbV I N I1 hF ho hc.2 (λx y=>Ui _ y) hL u;have hnd:(lb.map (·.1)).Nodup:=by
    rw[List.nodup_iff_pairwise_ne,W7];intro i j hi0 hj0 hij he;simp only[Ug]at hi0 hj0;have hii:i<lb.length:=ab;have T:j<lb.length:=ab;simp only[List.getElem_map]at he;obtain⟨v,E,z,H,fz,x,A,y,hb⟩:=hL i (ids'[i]'ab) ac;obtain⟨v',E',z',cs',fz',x',hs',hx',hb'⟩:=hL j (ids'[j]'ab) ac;have e1:lb[i]=x:=by simpa [hii]using y
    have e2:lb[j]=x':=by simpa [T]using hx'
    have p:=I.inj _ v _ _ v' _ x.1 x.2 x'.2 A hs' hb (by rw[hb',←e2,←e1,he]);have:=(W7.1 (List.nodup_iff_pairwise_ne.1 hboxes.1)) i j ab ab hij;exact this p
   refine(hA.2 M1 w vs lb I1.mem (λg H hg=>RepC.mono I1.le (I1.glob g H hg)) (by rw[u,g1]) hnd g2 hargs).mono ?_;rintro e w' ⟨v,r,ls,M',l,rfl,hR,hK,V,W,hls,Y,hfr,hndl⟩;refine⟨v,r,ls,?_⟩;have K:ls.length=ids'.length:=by rw[hls,u]
   have q:∀id∈ids',∃v o,s id=some (v,o):=λid p=>by have⟨v,E,z,H,fz,h⟩:=hboxes.2 id p;exact⟨_,_,h⟩
   have L:∀b o x,M b o=some x->M' b o=some x:=λb o x y=>by rw[W b o (I.mem.lt y)];exact N _ _ _ y
   unfold K7;by_cases O:(scal r&&ls.all VT)=true
   .simp only[O,if_true];simp only[WH]at O;have⟨hsc1,hso⟩:=O;have⟨rfl,hrv,Z⟩:=scal_rep (M':=M) β ver n hsc1 hfr;have⟨I2,_⟩:=I.called (ids:=ids') (lb:=lb) (M':=M) (w':=w') (obs:=ls) hboxes hL u hK (λb o x y=>V b o x (L b o x y)) (λ_ _ _=>rfl) K (λk ob x J h2=>by
     obtain⟨g3,g4⟩:=Y k ob x J h2
     exact⟨Xlf (WV.1 hso ob (W5 J)) L g3,g4⟩)
    refine⟨M,β,trivial,hR,?_,?_,MLe.refl _,BLe.refl _⟩
    .rw[Z];exact I2.mono λ_ h=>.inl h
    rw[Z];exact hrv
   simp only[O,Ir,if_false];have S:Xdm (frz s (l1++l2)) ids':=⟨hboxes.1,λid p=>by
    obtain⟨v,E,z,H,fz,A⟩:=hboxes.2 id p
    refine⟨v,E,z,H,fz,?_⟩
    unfold frz
    split
    .rw[A];rfl
    .exact A⟩
   have hL1:XfR (frz s (l1++l2)) β ids' lb:=λj id T=>by
    obtain⟨v,E,z,H,fz,x,A,y,hb⟩:=hL j id T;refine⟨v,E,z,H,fz,x,?_,y,hb⟩;unfold frz;split
    .rw[A];rfl
    exact A
   have⟨I2,hM2⟩:=I1.called S hL1 u hK V W K Y;rw[XbX s _ ids' ls q]at I2;have hfree:XiM (app (frz s (l1++l2)) (ZP s ids' ls)) β (XN l):=by
    intro b hb id v' ob cb A y;have hge:=FrRep.ge hfr b hb;have J:∃o,frz s (l1++l2) id=some (v',o):=by
     obtain⟨q1,q2⟩:=Xdn (frz s (l1++l2)) ids' ls (frz s (l1++l2)) id S.1 (λi hi=>by
      obtain⟨v,E,z,H,fz,h⟩:=S.2 i hi
      exact⟨_,_,h⟩) K
     rw[XbX s _ ids' ls q]at q1 q2;by_cases p:id∈ids'
     .obtain⟨j,T,rfl⟩:=Wv p;obtain⟨v2,E,z,H,fz,h⟩:=S.2 _ p;have:=q2 j (ls[j]'ab) ac ac v2 _ h;rw[this]at A;obtain⟨rfl,_⟩:v2=v'/\_:=by simpa using A
      exact⟨_,h⟩
     rw[q1 p]at A;exact⟨_,A⟩
    obtain⟨o,J⟩:=J;obtain⟨x,hx1,hob⟩:=I1.obs id v' o J;rw[y]at hx1;obtain rfl:some (b,cb)=x:=by simpa using hx1
    have:=hob.lt;omega
   have⟨β',J,h2⟩:=imp_ok (C:=C) (ver:=ver) (B:=w.heap.size) I.keep.size r v l n I2 (λi _=>I2.fresh hv i) hfr hndl hfree;exact⟨M',β',trivial,hR,J.inv,h2,N.trans hM2,J.le⟩
  cases h
 simp_all
def XpK(I:U7 P C s U M β w){f:FuncId}{eargs:List D}{B:List Value}{M1:Mem}(u:MLe M M1)(E:MemOK M1 w)(p:RepL P M1 Yz eargs B){R:D->List Ob->Prop}(S:YV P C.G f eargs [] R)(H:∀r ls,R r ls->scal r=true):
 Calls P f ⟨B⟩ w λe w'=>∃v r ls,e=.returned v/\R r ls/\U7 P C s U M β w'/\Rep P M β r v:=by
 refine(S.2 M1 w B [] E (λg T V=>RepC.mono (I.le.trans u) (I.glob g T V)) rfl ac (λk ob x h=>ac) (p.mono (MLe.refl _) (BLe.zero _))).mono ?_;rintro e w' ⟨v,r,ls,M',l,rfl,L,hK,y,z,W,N,J,O⟩;have q:∀b o x,M b o=some x->M' b o=some x:=λb o x A=>by rw[z b o (I.mem.lt A)];exact u _ _ _ A
 have⟨rfl,K,_⟩:=scal_rep (M':=M) β 0 0 (H r ls L) J;have⟨I2,_⟩:=I.called (ids:=[]) (lb:=[]) (M':=M) (w':=w') (obs:=[]) ⟨ac,ac⟩ (λj id h=>by grind) rfl hK (λb o x A=>y b o x (q b o x A)) (λ_ _ _=>rfl) rfl (λk ob x h=>ac);exact⟨v,r,ls,rfl,L,I2,K⟩
end
variable {P:Program}
def HLe(s e:Heap):Prop:=∀i x,s i=some x->e i=some x
section
variable {s s':Heap}
mutual
def snap_le(g:HLe s s'):∀{d:D}{r},snap s d=some r->snap s' d=some r
 |.osl id ver z off len,r,h=>by
  unfold snap at h⊢;split at h
  .rename_i j E q u f e;rw[g _ _ e];exact h
  simp_all
 |.agg k,r,h=>by
  unfold snap at h⊢;split at h
  .rename_i c o l e;rw[Jm g e];exact h
  simp_all
 |.tup k,r,h=>by
  unfold snap at h⊢;split at h
  .rename_i c o l e;rw[Jm g e];exact h
  simp_all
 |.clo fn a b,r,h=>by
  unfold snap at h⊢;split at h
  .rename_i e p;rw[Jm g e,Jm g p];exact h
  simp_all
 |.ifc t d,r,h=>by
  unfold snap at h⊢;split at h
  .rename_i e;rw[snap_le g e];exact h
  simp_all
 |.any,r,h=>by assumption
 |.v _,r,h=>by assumption
 |.nsl,r,h=>by assumption
 |.isl ..,r,h=>by assumption
 |.ipt ..,r,h=>by assumption
 |.ept ..,r,h=>by assumption
 |.fsl ..,r,h=>by assumption
 |.fmp ..,r,h=>by assumption
 |.omp ..,r,h=>by assumption
def Jm(f:HLe s s'):∀{e:List D}{r},ZO s e=some r->ZO s' e=some r
 |[],r,h=>by assumption
 |d::e,r,h=>by
  unfold ZO at h⊢;split at h
  .rename_i g j;rw[snap_le f g,Jm f j];exact h
  simp_all
end
def Xg1(f:HLe s s'):∀{e:List (Nat×D)}{r},VO s e=some r->VO s' e=some r
 |[],r,h=>by assumption
 |(i,d)::e,r,h=>by
  unfold VO at h⊢;split at h
  .rename_i g j;rw[snap_le f g,Xg1 f j];exact h
  simp_all
def Has(s:Heap)(l:List Nat):Prop:=∀i∈l,∃x,s i=some x
def Xbp(e:HLe s s'):∀{l:List Nat},Has s l->Xbk s' l=Xbk s l
 |[],_=>rfl
 |i::l,h=>by have⟨x,f⟩:=h i ac;have g:=Xbp e (l:=l) (λj k=>h j (WT _ k));simp only[Xbk,f,e _ _ f,g]
mutual
def snap_has:∀{d:D}{c e l},snap s d=some (c,e,l)->Has s l
 |.osl id ver z off len,c,e,l,h=>by
  unfold snap at h;split at h
  .rename_i g;split at h
   .obtain⟨_,_,rfl⟩:=h;intro i f;simp at f;subst f;exact⟨_,g⟩
   cases h
  simp_all
 |.agg j,c,e,l,h=>by
  unfold snap at h;split at h
  .rename_i g;obtain⟨_,_,rfl⟩:=h;exact K8 g
  simp_all
 |.tup j,c,e,l,h=>by
  unfold snap at h;split at h
  .rename_i g;obtain⟨_,_,rfl⟩:=h;exact K8 g
  simp_all
 |.clo fn a b,c,e,l,h=>by
  unfold snap at h;split at h
  .rename_i g k;simp only[Wo,Wx]at h;obtain⟨_,_,rfl⟩:=h;intro i f;rcases Wr.1 f with f|f
   .exact K8 g i f
   exact K8 k i f
  simp_all
 |.ifc t d,c,e,l,h=>by
  unfold snap at h;split at h
  .rename_i g;simp only[Wo,Wx]at h;obtain⟨_,_,rfl⟩:=h;exact snap_has g
  simp_all
 |.any,c,e,l,h=>by simp[snap]at h;obtain⟨_,_,rfl⟩:=h;intro i f;simp_all
 |.v _,c,e,l,h=>by simp[snap]at h;obtain⟨_,_,rfl⟩:=h;intro i f;simp_all
 |.nsl,c,e,l,h=>by simp[snap]at h;obtain⟨_,_,rfl⟩:=h;intro i f;simp_all
 |.isl ..,c,e,l,h=>by simp[snap]at h;obtain⟨_,_,rfl⟩:=h;intro i f;simp_all
 |.ipt ..,c,e,l,h=>by simp[snap]at h;obtain⟨_,_,rfl⟩:=h;intro i f;simp_all
 |.ept ..,c,e,l,h=>by simp_all[snap]
 |.fsl ..,c,e,l,h=>by simp_all[snap]
 |.fmp ..,c,e,l,h=>by simp_all[snap]
 |.omp ..,c,e,l,h=>by simp_all[snap]
def K8:∀{g:List D}{c f l},ZO s g=some (c,f,l)->Has s l
 |[],c,f,l,h=>by obtain⟨_,_,rfl⟩:=h;intro i e;simp_all
 |d::g,c,f,l,h=>by
  unfold ZO at h;split at h
  .rename_i j k;obtain⟨_,_,rfl⟩:=h;intro i e;rcases Wr.1 e with e|e
   .exact snap_has j i e
   exact K8 k i e
  simp_all
end
def XeX:∀{g:List (Nat×D)}{c f l},VO s g=some (c,f,l)->Has s l
 |[],c,f,l,h=>by obtain⟨_,_,rfl⟩:=h;intro i e;simp_all
 |(j,d)::g,c,f,l,h=>by
  unfold VO at h;split at h
  .rename_i k o;obtain⟨_,_,rfl⟩:=h;intro i e;rcases Wr.1 e with e|e
   .exact snap_has k i e
   exact XeX o i e
  simp_all
def XpL(e:HLe s s'){d:D}{r}(h:XfE s d=some r):XfE s' d=some r:=by
 unfold XfE at h⊢;split at h
 .exact h
 .split at h
  .rename_i f;rw[e _ _ f];exact h
  cases h
 omega
def Xg2(e:HLe s s'){z:Nat}{d:D}{r}(h:elems s z d=some r):elems s' z d=some r:=by
 unfold elems at h⊢;split at h
 .exact h
 .exact h
 .exact h
 .split at h
  .rename_i f;rw[e _ _ f];exact h
  cases h
 omega
def XjR(e:HLe s s'){a b E z n:Nat}{c:Prop}{src:List (List D)}{d:D}{r}(h:XeG P s a b E z n c src d=some r):XeG P s' a b E z n c src d=some r:=by
 unfold XeG at h⊢;split at h
 .exact h
 .split at h
  .rename_i f;rw[e _ _ f];exact h
  cases h
 omega
def XjS(e:HLe s s'){T:TypeId}{m key x:D}{r}(h:XiG P s T m key x=some r):XiG P s' T m key x=some r:=by
 unfold XiG at h⊢;split at h
 .split at h
  .rename_i g;rw[e _ _ g];split at h
   .rename_i f;rw[snap_le e f];simp only;rw[Xbp e (snap_has f)];exact h
   cases h
  cases h
 omega
def Xlg(g:HLe s s'){sz:Nat}{e f mx:Option Int}{d:D}{r}(h:Xa0 s sz e f mx d=some r):Xa0 s' sz e f mx d=some r:=by
 unfold Xa0 at h⊢;split at h
 .split at h
  .split at h
   .rename_i j;simp only[g _ _ j];exact h
   cases h
  grind
 grind
def Xr6(f:HLe s s'){dst:Option Nat}{ver:Nat}{t:Operand->D}{op:Op}{r}(h:opF P dst ver t s op=some r):opF P dst ver t s' op=some r:=by
 cases op with
 |load T a=>
  simp only[opF]at h⊢;split at h
  .rename_i p q;rw[p,XpL f q];exact h
  simp_all
 |store T a x=>
  simp only[opF]at h⊢;split at h
  .split at h
   .rename_i o;rw[f _ _ o];exact h
   .rename_i o;rw[f _ _ o];split at h
    .rename_i g;simp only[snap_le f g];rw[Xbp f (snap_has g)];exact h
    cases h
   cases h
  omega
 |buildSlice T n parts=>
  simp only[opF]at h⊢;split at h
  .split at h
   .split at h
    .split at h
     .rename_i g;rw[Wm g];split at h
      .rename_i j;simp only[Xg1 f j];rw[Xbp f (XeX j)];exact h
      cases h
     cases h
    cases h
   cases h
  omega
 |mapUpdate T m key x=>exact XjS f h
 |insert T m key x=>exact XjS f h
 |lookup T m key ok=>
  simp only[opF]at h⊢;split at h
  .split at h
   .rename_i g j;simp only[f _ _ g,j];exact h
   cases h
  omega
 |call c=>
  have⟨callee,args,types⟩:=c;cases callee with
  |builtin b=>
   cases b<;>first|exact h|skip
   case len=>
    simp only[opF]at h⊢
    split at h
    .split at h
     .exact h
     .exact h
     .exact h
     .exact h
     .split at h
      .rename_i g j
       simp only[g,f _ _ j];exact h
      .cases h
     .cases h
    .cases h
   case clear=>
    simp only[opF]at h⊢
    split at h
    .split at h
     .split at h
      .split at h
       .rename_i j k
        simp only[j,f _ _ k];exact h
       .cases h
      .cases h
     .cases h
    .split at h
     .rename_i g j
      simp only[g,f _ _ j];exact h
     .cases h
    .cases h
   case copy=>
    simp only[opF]at h⊢
    split at h
    .split at h
     .split at h
      .rename_i g j k
       simp only[g,f _ _ j,Xg2 f k];exact h
      .cases h
     .cases h
    .cases h
   case delete=>
    simp only[opF]at h⊢
    split at h
    .split at h
     .rename_i g j
      simp only[g,f _ _ j];exact h
     .cases h
    .cases h
   simp only[opF]at h⊢;split at h
   .split at h
    .split at h
     .split at h
      .split at h
       .rename_i k;rw[Wm k];split at h
        .split at h
         .rename_i u;simp only[Xg2 f u];exact XjR f h
         cases h
        .split at h
         .exact XjR f h
         cases h
        cases h
       cases h
      cases h
     cases h
    cases h
   omega
  |_=>exact h
 |slice T x v y mx=>
  simp only[opF]at h⊢;split at h
  .split at h
   .simp only[Uo]at h⊢;obtain⟨a,h,e⟩:=h;exact⟨a,Xlg f h,e⟩
   cases h
  .exact h
  cases h
 |_=>exact h
end
variable {P:Program}
inductive It where
 |code (c:Code)
 |ops (full:Array Oper) (rest:List Oper)
 |blk (id:Nat)
 |stop (Q:St->Prop)
abbrev AW:=Act->World->Prop
def XiO{F:Fence}{n:Nat}{c:Code}{Q:Exit->AW}{a:Act}{w:World}(h:c.wpIn F n P (Exit.noGoto Q) a w):(Code.scope c).wpIn F n P Q a w:=by
 intro b k g q hb r;have j:(lone (b.atR a (.code (.scope c)::k)) g w).fenced P F:=fenced_calm hb r rfl;have o:step P (lone (b.atR a (.code (.scope c)::k)) g w)=.next (lone (b.atR a (.code c::.inScope c::k)) g w):=step_lone_go (by rfl)
 have⟨e,a₁,w₁,p,f⟩:=h b (.inScope c::k) g q hb r;have v:step P (lone (b.atR a₁ (.inScope c::k)) g w₁)=.next (lone (b.atR a₁ k) g w₁):=step_lone_go (by rfl)
 cases e with
 |normal=>exact⟨.normal,a₁,w₁,p,.head j o (StepsIn.trans f (.one (fenced_calm hb r rfl) v))⟩
 |exit id=>exact⟨.exit id,a₁,w₁,p,λx y=>.head j o (f.1 x ah),λu y=>let ⟨k1,e,s⟩:=f.2 u ah;⟨k1,e,.head j o s⟩⟩
 |goto l=>exact p.elim
 |ret=>exact⟨_,a₁,w₁,p,.of_steps (.one j o) f⟩
 |panic ch=>exact⟨_,a₁,w₁,p,.of_steps (.one j o) f⟩
 |outgrown=>exact⟨_,a₁,w₁,p,.of_steps (.one j o) f⟩
def XcG{F:Fence}{g:Nat}{c:Code}{Q:Exit->AW}{a:Act}{w:World}(I:Nat->AW)(n:Nat)(j:I n a w)(rd:∀n a w,I n a w->c.wpIn F g P (Exit.then (λa w=>∃k,k<n/\I k a w) Q) a w):(Code.loop c).wpIn F g P Q a w:=by
 refine wpIn_loop (λa w=>∃n,I n a w) (λa w=>leastOf λn=>I n a w) ⟨n,j⟩ λa w o=>wpIn_mono (rd _ a w (leastOf_spec o).1) λe q w' h=>?_;cases e with
 |normal=>have⟨k,p,f⟩:=h;exact And.intro ⟨k,f⟩ (Nat.lt_of_le_of_lt ((leastOf_spec ⟨k,f⟩).2 k f) p)
 |_=>exact h
@[reducible] def fz(r:Option Nat):Fence:={Fence.wide with round:=r}
def Xdo{r:Option Nat}{n:Nat}{f:FuncId}{args:Array Value}{w:World}{R:Ending->World->Prop}(h:Calls P f args w R):CallsIn (fz r) n P f args w R:=(callsIn_wide (n:=n)).2 h
def XmD{r:Option Nat}{n:Nat}{o:Oper}{a:Act}{w:World}{K:AW}{Q:Exit->AW}(hd:∀c,o.op≠.defer c)(h:o.wp P a w K Q):o.wpIn (fz r) n P a w K Q:=by
 refine⟨λ_ _=>trivial,?_⟩;rw[Oper.semAt_eq _ _ _ hd];unfold Oper.wp at h;revert h;generalize (execOp a.eval o).run P w=x;intro h;unfold Oper.upon at h;split at h
 .exact h
 .exact h
 .exact h
 .exact⟨λe=>(by cases e),Xdo h⟩
 .exact⟨λe=>(by cases e),λc f _=>let ⟨v,w',r,s⟩:=h c f;⟨v,w',r,stepsIn_wide.2 s⟩⟩
 .exact h
 simp_all
def Jw(R:AW)(f:Option Nat->AW):Exit->AW
 |.normal=>f none
 |.exit id=>f (some id)
 |.ret=>R
 |_=>λ_ _=>False
def sem(P:Program)(C:Cx)(R:AW):List It->Option Nat->AW
 |[],none=>R
 |[],some _=>λ_ _=>False
 |.stop Q::_,none=>λa w=>∃st,Rel P C st a w/\Q st
 |.stop _::k,some i=>sem P C R k (some i)
 |.blk _::k,none=>sem P C R k none
 |.blk j::k,some i=>if i=j then sem P C R k none else sem P C R k (some i)
 |.code c::k,none=>c.wpIn (fz C.rd) 0 P (Jw R (sem P C R k))
 |.code _::k,some i=>sem P C R k (some i)
 |.ops full rest::k,none=>wpListIn (fz C.rd) 0 P full (Jw R (sem P C R k)) rest
 |.ops _ _::k,some i=>sem P C R k (some i)
def Zp(P:Program)(C:Cx)(Q:St->Prop):AW:=λa w=>∃st,Rel P C st a w/\Q st
class Tag{α:Type}(x:α):Type
instance{α:Type}(x:α):Tag x:=⟨⟩
abbrev Prf{α:Type}(_:α):Prop:=True
def LoopG(P:Program)(C:Cx)(R:St->Prop)(c:Code)(k:List It)(st:St)[Tag (C,R,c,k,st)](_:Prf c):Prop:=
 ∀a w,Rel P C st a w->(Code.loop c).wpIn (fz C.rd) 0 P (Jw (Zp P C R) (sem P C (Zp P C R) k)) a w
def DrawnG(P:Program)(C:Cx)(R:St->Prop)(id:Nat)(ops:Array Oper)(k:List It)(st:St)[Tag (C,R,ops,k,st)](_:Prf ops):Prop:=
 ∀a w,Rel P C st a w->(Code.region id ops true).wpIn (fz C.rd) 0 P (Jw (Zp P C R) (sem P C (Zp P C R) k)) a w
def CallG(P:Program)(G:Nat->Option (List D))(f:FuncId)(args:List D)(obs:List Ob)(K:D->List Ob->Prop)[Tag (G,K)](_:Prf args):Prop:=
 ∃eargs R,ZZ args eargs/\YV P G f eargs obs R/\∀r ls,R r ls->K r ls
def VU(b:Bool)(x y:Prop):Prop:=(b=true->x)/\(b=false->y)
def XaR(st:St)(x:Nat)(d:D):St:={st with t:=upd st.t x d}
def nx(st:St)(dst:Option Nat)(d:D)(u:Up)(n k:Nat):St:=
 ⟨match dst with|some x=>upd st.t x d|none=>st.t,app st.s u,n,k⟩
def XH(dst:Option Nat)(n:Nat):Option Nat:=match dst with
 |some x=>if x<n then some x else none
 |none=>none
def callee(t:Operand->D)(c:Call):Option (FuncId×List D):=match c.callee with
 |.value f=>match t f with
  |.clo (.func g) first caps=>some (g,first++(c.args.toList.map t++caps))
  |_=>none
 |_=>none
def XcN(t:Operand->D)(c:Call):Option (Nat×List D):=match c.callee with
 |.value f=>match t f with
  |.clo (.yield l) [] []=>some (l,c.args.toList.map t)
  |_=>none
 |_=>none
def ZM:Op->Option Call
 |.call c=>match c.callee with
  |.value _=>some c
  |_=>none
 |_=>none
def aft(s:Heap)(ids fz:List Nat)(r:D)(ls:List Ob)(ver n:Nat):D×Up:=
 if scal r&&ls.all VT then(r,ZP s ids ls)else((imp ver n r).1,Xbk s fz++(ZP s ids ls++(imp ver n r).2.2))
def Xr7(x:D×Up)(dst:Option Nat)(n k:Nat)(f:Option Nat->D->Up->Nat->Nat->Prop)[Tag f](_:Prf x):Prop:=f dst x.1 x.2 n k
def Xcp(x:Option (Prop×D×Up))(dst:Option Nat)(n k:Nat)(f:Option Nat->D->Up->Nat->Nat->Prop)[Tag f](_:Prf x):Prop:=match (generalizing:=false) x with
 |some (c,d,u)=>c/\f dst d u n k
 |none=>False
def XiP(P:Program)(G:Nat->Option (List D))(f:FuncId)(x:Option (Prop×List D×List Nat×List Ob×List Nat))(K:List Nat->List Nat->D->List Ob->Prop)[Tag (G,K)](_:Prf x):Prop:=match (generalizing:=false) x with
 |some (e,as,ids,obs,fz)=>e/\CallG P G f as obs (K ids fz) trivial
 |none=>False
def nxS(st:St)(dst:Option Nat)(d:D)(s:Heap)(n k:Nat):St:=
 ⟨match dst with|some x=>upd st.t x d|none=>st.t,s,n,k⟩
def Xg3(n:Nat)(dst:Option Nat):Option Nat:=match dst with
 |some d=>some (n+d)
 |none=>none
def CallX(P:Program)(C:Cx)(f:FuncId)(args:List D)(dst:Option Nat)(st:St)(K:St->Prop)[Tag (C,dst,st,K)](_:Prf args):Prop:=
 (∃fn,P.funcs[f]? = some fn/\fn.body.isNone=false/\(fn.name== "runtime.NumGoroutine")=false) /\
 ∀M β w g,BLe C.b0 β->U7 P C st.s (·<st.k) M β w->RepL P M β args g->Calls P f ⟨g⟩ w λe w'=>∃v d s' h M' β',e=.returned v/\U7 P C s' (·<h) M' β' w'/\Rep P M' β' d v/\MLe M M'/\BLe β β'/\K (nxS st (XH dst st.n) d s' st.n h)
def YieldX(P:Program)(C:Cx)(l:Nat)(args:List D)(dst:Option Nat)(st:St)(K:St->Prop)[Tag (C,dst,st,K)](_:Prf args):Prop:=
 ∀M β w g,BLe C.b0 β->U7 P C st.s (·<st.k) M β w->RepL P M β args g->∃f tmps assign body,(Instr.yield l ⟨g⟩).run P w=.ok (.round l f tmps assign body) w /\
  RoundIn (fz C.rd) 0 P l f tmps assign body w λe w'=>∃v d s' h M' β',e=.returned v/\U7 P C s' (·<h) M' β' w'/\Rep P M' β' d v/\MLe M M'/\BLe β β'/\K (nxS st (XH dst st.n) d s' st.n h)
def XfS(P:Program)(C:Cx)(x:Option (Nat×List D))(dst:Option Nat)(st:St)(K:St->Prop)[Tag (C,dst,st,K)](_:Prf x):Prop:=match (generalizing:=false) x with
 |some (l,args)=>YieldX P C l args dst st K trivial
 |none=>False
def Xdp(P:Program)(C:Cx)(x:Option (FuncId×List D))(c:Call)(dst:Option Nat)(st:St)(K:St->Prop)[Tag (C,c,dst,st,K)](_:Prf x):Prop:=match (generalizing:=false) x with
 |some (f,args)=>CallX P C f args dst st K trivial
 |none=>XfS P C (XcN (ev st.t C.G) c) dst st K trivial
def XeY(P:Program)(C:Cx)(x:Option Call)(o:Oper)(st:St)(K:St->Prop)[Tag (C,o,st,K)](_:Prf x):Prop:=
 match (generalizing:=false) x with
 |some c=>Xdp P C (callee (ev st.t C.G) c) c o.dst st K trivial
 |none=>Xcp (opF P (Xg3 C.off o.dst) st.k (ev st.t C.G) st.s o.op) (XH o.dst st.n) st.n (st.k+1) (λdst d u n k=>K (nx st dst d u n k)) trivial
def Xa4(P:Program)(C:Cx)(o:Oper)(st:St)(K:St->Prop):Prop:=XeY P C (ZM o.op) o st K trivial
def Xg4(dst:Option Nat)(n k:Nat)(f:Option Nat->Nat->Nat->Prop)[Tag f](_:Prf dst):Prop:=f dst n k
def Z5(d:D)(r:Nat)(want:Bool)(st:St)(x y:St->Prop)[Tag (st,x,y)](_:Prf d):Prop:=match (generalizing:=false) d with
 |.v (.bool b)=>VU b (if want then x st else y st) (if want then y st else x st)
 |.v (.tuple _)=>y st
 |_=>False
def XfT(r:Option Nat)(want:Bool)(st:St)(x y:St->Prop)[Tag (st,x,y)](_:Prf r):Prop:=match (generalizing:=false) r with
 |some r=>Z5 (st.t r) r want st x y trivial
 |none=>False
def XbY(full:Array Oper)(o:Oper)(st:St)(x y:St->Prop):Prop:=
 match o.guard with
 |none=>x st
 |some (g,want)=>XfT ((full[g]?).bind (·.dst)) want st x y trivial
def Xcq(d:D)(c:Operand)(st:St)(x y:St->Prop)[Tag (c,st,x,y)](_:Prf d):Prop:=match (generalizing:=false) d with
 |.v (.bool b)=>VU b (x st) (y st)
 |_=>False
def Xcr:Nat->List It->Option (List It)
 |_,[]=>none
 |id,.blk j::k=>if id=j then some k else Xcr id k
 |id,_::k=>Xcr id k
def XjT(x:Option (List It))(f:List It->Prop)[Tag f](_:Prf x):Prop:=match (generalizing:=false) x with
 |some k=>f k
 |none=>False
def run(P:Program)(C:Cx)(R:St->Prop):Nat->List It->St->Prop
 |0,_,_=>False
 |_+1,[],st=>R st
 |_+1,.stop Q::_,st=>Q st
 |n+1,.blk _::k,st=>run P C R n k st
 |n+1,.ops _ []::k,st=>run P C R n k st
 | n+1,.ops full (o::rest)::k,st=>XbY full o st
     (λst=>Xa4 P C o st (run P C R n (.ops full rest::k)))
     (λst=>Xg4 (XH o.dst st.n) st.n (st.k+1) (λdst m j=>run P C R n (.ops full rest::k) (nx st dst (.v undef) [] m j)) trivial)
 |n+1,.code .skip::k,st=>run P C R n k st
 |n+1,.code (.seq x y)::k,st=>run P C R n (.code x::.code y::k) st
 |n+1,.code (.cond c x y)::k,st=>Xcq (ev st.t C.G c) c st (run P C R n (.code x::k)) (run P C R n (.code y::k)) trivial
 |n+1,.code (.block id c)::k,st=>run P C R n (.code c::.blk id::k) st
 |n+1,.code (.scope c)::k,st=>run P C R n (.code c::k) st
 |n+1,.code (.label _)::k,st=>run P C R n k st
 |n+1,.code (.exit id)::k,st=>XjT (Xcr id k) (λe=>run P C R n e st) trivial
 |_+1,.code .ret::_,st=>R st
 |_+1,.code (.loop c)::k,st=>LoopG P C R c k st trivial
 |n+1,.code (.region _ ops false)::k,st=>run P C R n (.ops ops ops.toList::k) st
 |_+1,.code (.region id ops true)::k,st=>DrawnG P C R id ops k st trivial
 |_+1,.code _::_,_=>False
def VV{C:Cx}{R:AW}{id:Nat}:∀{k f:List It} {a:Act} {w:World},Xcr id k=some f->sem P C R f none a w->sem P C R k (some id) a w
 |[],f,a,w,h,_=>by simp_all[Xcr]
 |.blk j::k,f,a,w,h,g=>by
  unfold Xcr at h;unfold sem;split at h
  .simp_all
  rename_i e;rw[Wj e];exact VV h g
 |.code c::k,f,a,w,h,g=>by unfold sem;exact VV h g
 |.ops _ _::k,f,a,w,h,g=>by unfold sem;exact VV h g
 |.stop _::k,f,a,w,h,g=>by unfold sem;exact VV h g
def OD{C:Cx}{st:St}{a:Act}{w':World}{s':Heap}{o:Nat}{M':Mem}{β':Loc}{M:Mem}{β:Loc}{d:D}{v:Value}{dst:Option Nat}(g:a.defers=C.df)(r:a.tmps.size=st.n)(h:BLe C.b0 β)(j:∀x,Rep P M β (st.t x) (a.tmps.getD x undef))(k:MLe M M')(f:BLe β β')(I:U7 P C s' (·<o) M' β' w')(u:Rep P M' β' d v):Rel P C (nxS st (XH dst st.n) d s' st.n o) (a.put dst v) w':=by
 cases dst with
 |none=>exact⟨g,r,M',β',h.trans f,λx=>(j x).mono k f,I⟩
 |some x=>
  by_cases p:x<st.n
  .simp only[XH,Wm p];refine⟨g,by simp_all[nxS,Act.put],M',β',h.trans f,λi=>?_,I⟩;simp only[nxS,upd,Act.put];by_cases q:i=x
   .simp_all
   rw[Wj q];have e:(a.tmps.setIfInBounds x v).getD i undef=a.tmps.getD i undef:=by simp[Ne.symm q]
   rw[e];exact(j i).mono k f
  simp only[XH,Wj p];refine⟨g,by simp_all[nxS,Act.put],M',β',h.trans f,λi=>?_,I⟩;have e:a.put (some x) v=a:=by simp only[Act.put];rw[Array.setIfInBounds_eq_of_size_le ab]
  rw[e];exact(j i).mono k f
def Rel.put{C:Cx}{st:St}{a:Act}{w':World}{u:Up}{e:Nat}{M':Mem}{β':Loc}{M:Mem}{β:Loc}{d:D}{v:Value}{dst:Option Nat}(f:a.defers=C.df)(g:a.tmps.size=st.n)(h:BLe C.b0 β)(j:∀x,Rep P M β (st.t x) (a.tmps.getD x undef))(k:MLe M M')(o:BLe β β')(I:U7 P C (app st.s u) (·<e) M' β' w')(p:Rep P M' β' d v):Rel P C (nx st (XH dst st.n) d u st.n e) (a.put dst v) w':=OD f g h j k o I p
def XbZ:wfV undef:=by simp[undef,wfV]
def Xcs{g:FuncId}{va vb vs:List Value}{w:World}:(Deferred.ofValue (.func (.func g) ⟨va⟩ ⟨vb⟩) ⟨vs⟩).run P w=.ok {target:=.fn (.func g) ⟨vb⟩,args:=⟨va++vs⟩} w:=by simp[Deferred.ofValue,pure,Sem.run]
def RepL.map{M:Mem}{β:Loc}{t:Operand->D}{ρ:Operand->Value}(h:∀x,Rep P M β (t x) (ρ x)):∀l:List Operand,RepL P M β (l.map t) (l.map ρ)
 |[]=>by rfl
 |x::l=>by exact⟨_,_,rfl,h x,RepL.map h l⟩
def JU{ρ:Operand->Value}{o:Oper}{c:Call}(f:o.op=.call c){x:Operand}(k:c.callee=.value x){g:FuncId}{va vb:List Value}(p:ρ x=.func (.func g) ⟨va⟩ ⟨vb⟩){fn:Func}(q:P.funcs[g]? = some fn)(hb:fn.body.isNone=false)(r:(fn.name== "runtime.NumGoroutine")=false)(w:World):
 (execOp ρ o).run P w=.ok (.enter g ⟨va++(c.args.toList.map ρ++vb)⟩) w:=by
 unfold execOp;simp only[f,resolve,k,p];have e:c.args.map ρ=⟨c.args.toList.map ρ⟩:=by rw[←Array.toList_inj];simp
 have h:¬fn.name = "runtime.NumGoroutine":=by simpa using r
 have j:¬fn.body=none:=by intro u;rw[u]at hb;simp at hb
 simp[go_sem,Xcs,invoke,callFunc,q,j,h]
def XiQ{ρ:Operand->Value}{o:Oper}{c:Call}(f:o.op=.call c){x:Operand}(g:c.callee=.value x){l:Nat}(h:ρ x=.func (.yield l) #[] #[]){w:World}{n:Next}(j:(Instr.yield l ⟨c.args.toList.map ρ⟩).run P w=.ok n w):(execOp ρ o).run P w=.ok n w:=by
 unfold execOp;simp only[f,resolve,g,h];have e:c.args.map ρ=⟨c.args.toList.map ρ⟩:=by rw[←Array.toList_inj];simp
 rw[e];simp[go_sem,Deferred.ofValue,pure,invoke,j]
section
variable {C:Cx}{st:St}{a:Act}{w:World}
mutual
def scal_imp{ver n:Nat}:∀{d:D},scal d=true->imp ver n d=(d,n,[])
 |.any,_=>by rfl
 |.v x,_=>by rfl
 |.agg e,h=>by simp_all[scal,imp,Xb0,h]
 |.tup e,h=>by simp_all[scal,imp,Xb0,h]
 |.nsl,h=>by rfl
 |.isl ..,h=>by rfl
 |.osl ..,h=>by rfl
 |.ept ..,h=>by rfl
 |.ipt ..,h=>by rfl
 |.clo ..,h=>by simp_all[scal]
 |.ifc ..,h=>by simp_all[scal]
 |.fsl ..,h=>by simp_all[scal]
 |.fmp ..,h=>by simp_all[scal]
 |.omp ..,h=>by rfl
def Xb0{ver n:Nat}:∀{e:List D},JT e=true->VK ver n e=(e,n,[])
 |[],_=>by rfl
 |d::e,h=>by simp_all[JT,WH,VK,scal_imp,h,Xb0,Ih]
end
def XmE(s:Heap)(ids fz:List Nat)(r:D)(ls:List Ob)(ver n:Nat)(e:∀id∈ids,∃v o,s id=some (v,o)):(aft s ids fz r ls ver n).1=(K7 s ids fz r ls ver n).1/\app s (aft s ids fz r ls ver n).2=(K7 s ids fz r ls ver n).2:=by
 unfold aft K7;by_cases h:(scal r&&ls.all VT)=true
 .simp only[h,if_true];simp at h;rw[scal_imp h.1];exact⟨rfl,rfl⟩
 simp[h,Ir,if_false,Za,VR]
def Xg5{ρ:Operand->Value}{o:Oper}{x:Option Nat}:execOp ρ {o with dst:=x}=execOp ρ o:=by rfl
def CallX.c{K:St->Prop}{f:FuncId}{args:List D}{dst:Option Nat}(h:XiP P C.G f (Zf st.s args) (λids fz r ls=>
 Xr7 (aft st.s ids fz r ls st.k (64*(C.off+dst.getD 0))) (XH dst st.n) st.n (st.k+1) (λdst d u n k=>K (nx st dst d u n k)) trivial) trivial)(t:Prf args):CallX P C f args dst st K t:=by
 unfold XiP at h;split at h
 .rename_i cc as ids obs fz g;have⟨x,eargs,R,p,J,y⟩:=h;have⟨⟨fn,L,A,N⟩,_⟩:=id J;refine⟨⟨fn,L,A,N⟩,λM β w vs h0 I j=>?_⟩;have q:∀id∈ids,∃v o,st.s id=some (v,o):=by
   unfold Zf at g;split at g
   .rename_i O;split at g
    .simp only[Wo,Wx]at g;obtain⟨_,_,rfl,_,_⟩:=g;intro id B;obtain⟨v,E,z,cs,fz,S⟩:=(Y7 O ⟨ac,ac⟩).2 id B;exact⟨_,_,S⟩
    cases g
   cases g
  refine(XjQ I (ver:=st.k) ab j g x p J (64*(C.off+dst.getD 0))).mono ?_;rintro e w' ⟨v,r,ls,M',β',rfl,T,I',H,V,W⟩;have⟨Y,Z⟩:=XmE st.s ids fz r ls st.k (64*(C.off+dst.getD 0)) q;rw[←Y]at H;rw[←Z]at I';exact⟨v,_,_,st.k+1,M',β',rfl,I'.mono λv H=>ab,H,V,W,y r ls T⟩
 simp_all
def XeZ{o:Oper}{K:St->Prop}{K':AW}{Q:Exit->AW}(Z:Rel P C st a w)(h:Xa4 P C o st K)(hK:∀st a w,Rel P C st a w->K st->K' a w):o.wpIn (fz C.rd) 0 P a w K' Q:=by
 have B:∀c,o.op≠.defer c:=by intro c e;unfold Xa4 XeY at h;rw[e]at h;simp[ZM,opF,Xcp]at h
 have⟨O,R,M,β,H,N,I⟩:=Z;have r:=XbU I N;unfold Xa4 XeY at h;split at h
 .rename_i c W;have z:o.op=.call c:=by
   unfold ZM at W;split at W
   .grind
   grind
  unfold Xdp at h;split at h
  .rename_i f args j;have⟨⟨fn,hf,S,hn⟩,hX⟩:=h;unfold callee at j;split at j
   .rename_i x T;split at j
    .rename_i g first caps y
     obtain⟨rfl,rfl⟩:=j;have q:=r x;rw[y]at q;have⟨Y,vb,q,ha,hb⟩:=q;refine XmD B ?_;unfold Oper.wp;rw[JU z T q hf S hn w];have D:RepL P M β (first++(c.args.toList.map (ev st.t C.G)++caps)) (Y++(c.args.toList.map a.eval++vb)):=
      ha.append ((RepL.map r _).append hb)
     refine(hX M β w _ H I D).mono ?_;rintro e w' ⟨v,d,s',k',M',β',rfl,I',E,J,L,V⟩;exact hK _ _ _ (OD O R H N J L I' E) V
    cases j
   simp_all
  unfold XfS at h;split at h;rotate_left
  .exact h.elim
  rename_i l args j;unfold XcN at j;split at j
  .rename_i x T;split at j
   .rename_i l' y;obtain⟨rfl,rfl⟩:=j;have q:=r x;rw[y]at q;obtain⟨Y,vb,q,rfl,rfl⟩:=q;obtain⟨f,tmps,assign,body,hy,hR⟩:=h M β w _ H I (RepL.map r _);refine⟨λ_ _=>trivial,?_⟩;rw[Oper.semAt_eq _ _ _ B,XiQ z T q hy,Oper.uponIn_round];refine⟨λe=>(by cases e),hR.mono ?_⟩;rintro e w' ⟨v,d,s',k',M',β',rfl,I',E,J,L,V⟩;exact hK _ _ _ (OD O R H N J L I' E) V
   cases j
  simp_all
 refine XmD B ?_;unfold Xcp at h;split at h
 .rename_i c d u z;have:=XmC I (ver:=st.k) ab {o with dst:=Xg3 C.off o.dst} a.eval (ev st.t C.G) r (λ_=>rfl) z h.1;obtain⟨M',β',w',v,p,I',E,J,L⟩:=this;rw[Xg5]at p;have A:Rel P C (nx st (XH o.dst st.n) d u st.n (st.k+1)) (a.put o.dst v) w':=Rel.put O R H N J L (I'.mono λv E=>by show v<st.k+1;omega) E;unfold Oper.wp;rcases p with p|⟨p,rfl⟩
  .rw[p];exact hK _ _ _ A h.2
  rw[p];exact hK _ _ _ A h.2
 simp_all
def Rel.bump(e:Rel P C st a w)(dst:Option Nat):Rel P C (nx st (XH dst st.n) (.v undef) [] st.n (st.k+1)) (a.put dst undef) w:=by have⟨f,g,M,β,h,j,I⟩:=e;exact Rel.put (u:=[]) f g h j (MLe.refl _) (BLe.refl _) (I.mono λv o=>ab) (by simp[Rep,XbZ])
def Rel.bool(e:Rel P C st a w){r:Nat}{b:Bool}(hb:st.t r=.v (.bool b)):a.tmps.getD r undef=.bool b:=by have⟨g,h,M,β,j,f,I⟩:=e;have:=f r;simp_all[hb,Rep]
def Rel.tuple(e:Rel P C st a w){r:Nat}{vs:Array Value}(hb:st.t r=.v (.tuple vs)):a.tmps.getD r undef=.tuple vs:=by have⟨g,h,M,β,j,f,I⟩:=e;have:=f r;simp_all[hb,Rep]
def Xlh{full:Array Oper}{o:Oper}{x y:St->Prop}(u:Rel P C st a w)(h:XbY full o st x y):
 (Region.wanted o (yielded full a.tmps)=true->x st)/\(Region.wanted o (yielded full a.tmps)=false->y st):=by
 unfold XbY at h;split at h
 .rename_i p;have hw:Region.wanted o (yielded full a.tmps)=true:=by unfold Region.wanted;rw[p]
  simp_all
 rename_i g want p;unfold XfT at h;split at h
 .rename_i r j;unfold Z5 at h;split at h
  .rename_i b hb;have f:=u.bool hb;have q:yielded full a.tmps g=some b:=by
    unfold yielded;rw[j];simp only[Ol];by_cases k:r<a.tmps.size
    .have:a.tmps[r]? = some (.bool b):=by simp[k]at f;simp[k,f]
     rw[this]
    simp[k,undef]at f
   have hw:Region.wanted o (yielded full a.tmps)=(some b==some want):=by unfold Region.wanted;rw[p];simp only;rw[q]
   rw[hw];have⟨ht,v⟩:=h;cases b
   .cases want<;>simpa using v
   cases want<;>simpa using ht
  .rename_i z hb;have f:=u.tuple hb;have q:yielded full a.tmps g=none:=by
    unfold yielded;rw[j];simp only[Ol];by_cases k:r<a.tmps.size
    .have:a.tmps[r]? = some (.tuple z):=by simp[k]at f;simp[k,f]
     rw[this]
    have:a.tmps[r]? = none:=by simp;omega
    rw[this]
   have hw:Region.wanted o (yielded full a.tmps)=false:=by unfold Region.wanted;rw[p];simp only;rw[q];rfl
   rw[hw];exact⟨λe=>(by cases e),λ_=>h⟩
  exact h.elim
 simp_all
def Yj{R:St->Prop}:∀(n:Nat) (k:List It) {st:St} {a:Act} {w:World},Rel P C st a w->run P C R n k st->sem P C (Zp P C R) k none a w
 |0,k,st,a,w,_,h=>by unfold run at h;simp_all
 |n+1,[],st,a,w,f,h=>by exact⟨st,f,h⟩
 |n+1,.stop Q::k,st,a,w,f,h=>by exact⟨st,f,h⟩
 |n+1,.blk _::k,st,a,w,f,h=>by exact Yj n k f h
 |n+1,.ops full []::k,st,a,w,f,h=>by exact Yj n k f h
 |n+1,.ops full (o::rest)::k,st,a,w,f,h=>by
  have⟨r,u⟩:=Xlh f h;refine wpListIn_step λK hK=>?_;split
  .rename_i hw;exact XeZ f (r hw) λv D w2 p j=>hK _ _ (Yj n (.ops full rest::k) p j)
  exact⟨λ_ _=>trivial,hK _ _ (Yj n (.ops full rest::k) (f.bump o.dst) (u (by simp_all)))⟩
 |n+1,.code .skip::k,st,a,w,f,h=>by exact wpIn_skip (Yj n k f h)
 |n+1,.code (.seq x y)::k,st,a,w,f,h=>by refine wpIn_seq ?_;refine wpIn_mono (Yj n (.code x::.code y::k) f h) ?_;intro e q w' g;cases e<;>exact g
 |n+1,.code (.cond c x y)::k,st,a,w,f,h=>by
  unfold run Xcq at h;split at h
  .rename_i b hb;have j:a.eval c=.bool b:=by obtain⟨E,j,M,β,G,z,I⟩:=f;have:=XbU I z c;rw[hb]at this;simp only[Rep]at this;exact this.1
   refine wpIn_cond_split j (λe=>?_) (λe=>?_)
   .exact Yj n (.code x::k) f (h.1 e)
   exact Yj n (.code y::k) f (h.2 e)
  simp_all
 |n+1,.code (.block id c)::k,st,a,w,f,h=>by
  refine wpIn_block ?_;refine wpIn_mono (Yj n (.code c::.blk id::k) f h) ?_;intro e q w' g;cases e with
  |exit i=>
   simp only[Exit.inBlock];have g:sem P C (Zp P C R) (.blk id::k) (some i) q w':=g;unfold sem at g;split at g<;>rename_i e
   .rw[Wm e];exact g
   rw[Wj e];exact g
  |_=>exact g
 |n+1,.code (.scope c)::k,st,a,w,f,h=>by refine XiO (wpIn_mono (Yj n (.code c::k) f h) ?_);intro e q w' g;cases e<;>exact g
 |n+1,.code (.label l)::k,st,a,w,f,h=>by exact wpIn_label (Yj n k f h)
 |n+1,.code (.exit id)::k,st,a,w,f,h=>by
  unfold run XjT at h;split at h
  .rename_i A B;exact wpIn_exit (VV B (Yj n A f h))
  simp_all
 |n+1,.code .ret::k,st,a,w,f,h=>by exact wpIn_ret ⟨st,f,h⟩
 |n+1,.code (.loop c)::k,st,a,w,f,h=>by exact h a w f
 |n+1,.code (.region id ops false)::k,st,a,w,f,h=>by exact wpIn_region_list (Yj n (.ops ops ops.toList::k) f h)
 |n+1,.code (.region id ops true)::k,st,a,w,f,h=>by exact h a w f
 |n+1,.code (.rangeFunc ..)::k,st,a,w,f,h=>by unfold run at h;simp_all
 |n+1,.code (.goto ..)::k,st,a,w,f,h=>by unfold run at h;simp_all
 |n+1,.code (.refuse ..)::k,st,a,w,f,h=>by unfold run at h;simp_all
def LoopG.of{R:St->Prop}{c:Code}{k:List It}(I:Nat->St->Prop)(m n:Nat)(q:I n st)(round:∀n st,I n st->run P C R m (.code c::.stop (λf=>∃g,g<n/\I g f)::k) st)(t':Prf c):LoopG P C R c k st t':=by
 intro a w h;refine XcG (λn a w=>∃st,Rel P C st a w/\I n st) n ⟨st,h,q⟩ ?_;rintro n a w ⟨st,h,u⟩;refine wpIn_mono (Yj m _ h (round n st u)) ?_;intro e y w' p;cases e with
 |normal=>have⟨f,j,g,x,o⟩:=p;exact⟨g,x,f,j,o⟩
 |_=>exact p
def LoopU(P:Program)(C:Cx)(R:St->Prop)(c:Code)(k:List It)(n:Nat)(st:St)[Tag (C,R,c,k,st)](_:Prf c):Prop:=
 ∀a w,Rel P C st a w->Code.roundsIn (fz C.rd) 0 P c (Jw (Zp P C R) (sem P C (Zp P C R) k)) n a w
def O7{R:St->Prop}{c:Code}{k:List It}{st:St}(n:Nat)(h:LoopU P C R c k n st trivial)(t':Prf c):LoopG P C R c k st t':=
 λa w e=>wpIn_loop_rounds n (h a w e)
def LoopU.s{R:St->Prop}{c:Code}{k:List It}{st:St}{n:Nat}(m:Nat)(h:run P C R m (.code c::.stop (λf=>LoopU P C R c k n f trivial)::k) st)(t':Prf c):LoopU P C R c k (n+1) st t':=by
 intro a w o;refine wpIn_mono (Yj m _ o h) ?_;intro e p w' j;cases e with
 |normal=>have⟨f,g,q⟩:=j;exact q p w' g
 |_=>exact j
end
variable {P:Program}
mutual
def shut(s:Heap)(fr:List Nat):D->Option (Prop×D×List Nat×List Nat)
 |.osl id ver z off len=>match s id with
  |some (f,.arr false E o g fz)=>if ver=f/\z=o then
   (if id∈fr then some (off=0/\fz=0/\len<=g.length,.fsl E z (g.take len),[],[id])
    else some (off+len<=g.length,.isl E z ((g.drop off).take len),[id],[]))else none
  |_=>none
 |.omp id ver=>match s id with
  |some (f,.mp k g)=>if ver=f/\id∈fr then some (True,.fmp k (g.map (·.1)) (g.map (·.2)),[],[id])else none
  |_=>none
 |.agg h=>match Xct s fr h with
  |some (c,j,l,m)=>some (c,.agg j,l,m)
  |none=>none
 |.tup h=>match Xct s fr h with
  |some (c,j,l,m)=>some (c,.tup j,l,m)
  |none=>none
 |.clo fn a b=>match Xct s fr a,Xct s fr b with
  |some (c,p,l,m),some (q,r,u,y)=>some (c/\q,.clo fn p r,l++u,m++y)
  |_,_=>none
 |.ifc t d=>match shut s fr d with
  |some (c,e,l,m)=>some (c,.ifc t e,l,m)
  |none=>none
 |.any=>some (True,.any,[],[])
 |.v x=>some (True,.v x,[],[])
 |.nsl=>some (True,.nsl,[],[])
 |.isl E z g=>some (True,.isl E z g,[],[])
 |.ipt z h c=>some (True,.ipt z h c,[],[])
 |_=>none
def Xct(s:Heap)(fr:List Nat):List D->Option (Prop×List D×List Nat×List Nat)
 |[]=>some (True,[],[],[])
 |d::f=>match shut s fr d,Xct s fr f with
  |some (c,e,l,m),some (g,h,j,k)=>some (c/\g,e::h,l++j,m++k)
  |_,_=>none
end
def Blk(β:Loc)(s:Heap)(m:List Nat)(e:List (Option (Nat×Nat))):Prop:=
 ∃f:List (Nat×Nat×Option (Nat×Nat)),f.map (·.1)=m/\f.map (·.2.2)=e/\∀x∈f,β x.1 x.2.1=some x.2.2/\∃ob,s x.1=some (x.2.1,ob)
section
variable {C:Cx}{s:Heap}{U:Nat->Prop}{M M':Mem}{β:Loc}{w:World}
def Blk.nil:Blk β s [] []:=⟨[],rfl,rfl,ac⟩
def Blk.append{m e:List Nat}{b j:List (Option (Nat×Nat))}(h:Blk β s m b)(k:Blk β s e j):Blk β s (m++e) (b++j):=by have⟨f,o,p,q⟩:=h;have⟨g,k1,k2,r⟩:=k;refine⟨f++g,by simp[o,k1],by simp[p,k2],λx u=>?_⟩;grind
def OZ{x:Option (Nat×Nat)}{E z:Nat}{f:List (List D)}(h:ObRep P M β w x (.arr false E z f 0))(n:Nat):ObRep P M β w x (.arr false E z (f.take n) 0):=by
 cases x with
 |none=>simp_all[ObRep]
 |some B=>
  have⟨j,T,k,o,p,G,H,q,I,r,u,g⟩:=h;have v:(f.take n).length<=f.length:=by simp;omega
  refine⟨j,T,k,o,λe y=>p e (WQ y),ab,ab,UL (Ua _ v) q,ab,r,u,λi d hd=>g i d ?_⟩;have⟨l,A⟩:=List.take_prefix n f;grind
mutual
def shut_rep{T:List Nat}(I:U7 P C s U M β w)(L:MLe M M')(I':U7 P C (frz s T) U M' β w)(V:Frz s M' β w T){fr:List Nat}(q:∀i∈fr,i∉T):
 ∀{d r:D} {c:Prop} {l m:List Nat},shut s fr d=some (c,r,l,m)->c->(∀i∈l,i∈T)->∀{y:Value},Rep P M β d y->∃B,FrRep P M' w C.w0.heap.size r y B/\Blk β s m B
 |.osl id ver z off len,r,c,l,m,h,g,j,y,f=>by
  unfold shut at h;split at h
  .rename_i W E z' G fz H;split at h
   .rename_i e;have⟨rfl,rfl⟩:=e;split at h
    .rename_i N;obtain⟨rfl,rfl,rfl,rfl⟩:=h;obtain⟨rfl,rfl,hle⟩:=g;have O:frz s T id=some (ver,.arr false E z G 0):=by unfold frz;rw[Wj (q id N)];exact H
     have⟨x,u,A⟩:=I'.obs id ver _ O;have A:=OZ A len;rcases f with⟨p,_,J,a,rfl⟩|⟨b,K,o,cap,p,rfl,J,h3,h4⟩
     .rw[p]at u;refine⟨[none],?_,[(id,ver,none)],rfl,rfl,?_⟩
      .simp only[FrRep];exact .inl ⟨trivial,WG ai,a,rfl⟩
      intro x u;simp at u;subst u;exact⟨p,_,H⟩
     rw[p]at u;obtain rfl:some (b,K)=x:=by simpa using u
     refine⟨[some (b,K)],?_,[(id,ver,some (b,K))],rfl,rfl,?_⟩
     .refine .inr ⟨b,K,o,rfl,?_,?_,?_,?_⟩
      .rcases I.own id ver _ b K H p with h|h
       .exact h
       simp[Ob.bx]at h
      .rw[show cap=K by omega,Ws,Oa hle]
      .rcases h4 with h|h
       .left;simpa using h
       omega
      exact A
     intro x u;simp at u;subst u;exact⟨p,_,H⟩
    obtain⟨rfl,rfl,rfl,rfl⟩:=h;have:=snap_rep (d:=.osl id ver z off len) (d':=.isl E z ((G.drop off).take len)) (c:=off+len<=G.length) (l:=[id]) I L (by simp[snap,H]) g (λi Y=>V i (j i Y)) f;exact⟨[],by simp only[FrRep];exact⟨trivial,this⟩,Blk.nil⟩
   cases h
  simp_all
 |.agg cs,r,c,l,m,h,g,j,y,f=>by
  unfold shut at h;split at h
  .rename_i R;obtain⟨rfl,rfl,rfl,rfl⟩:=h;simp only[Rep]at f;obtain⟨vs,rfl,f⟩:=f;obtain⟨B,p,J⟩:=JV I L I' V q R g j f;exact⟨B,by simp only[FrRep];exact⟨vs,rfl,p⟩,J⟩
  simp_all
 |.tup cs,r,c,l,m,h,g,j,y,f=>by
  unfold shut at h;split at h
  .rename_i R;simp only[Wo,Wx]at h;obtain⟨rfl,rfl,rfl,rfl⟩:=h;simp only[Rep]at f;obtain⟨vs,rfl,f⟩:=f;obtain⟨B,p,J⟩:=JV I L I' V q R g j f;exact⟨B,by simp only[FrRep];exact⟨vs,rfl,p⟩,J⟩
  simp_all
 |.clo fn a b,r,c,l,m,h,g,j,y,f=>by
  unfold shut at h;split at h
  .rename_i R hf;simp only[Wo,Wx]at h;obtain⟨rfl,rfl,rfl,rfl⟩:=h;simp only[Rep]at f;obtain⟨va,vb,rfl,hr1,hr2⟩:=f;obtain⟨B,p,J⟩:=JV I L I' V q R g.1 (λi Y=>j i (WU _ Y)) hr1;obtain⟨Z,h3,h4⟩:=JV I L I' V q hf g.2 (λi Y=>j i (Ui _ Y)) hr2;exact⟨B++Z,by simp only[FrRep];exact⟨va,vb,rfl,B,Z,rfl,p,h3⟩,J.append h4⟩
  simp_all
 |.ifc t d,r,c,l,m,h,g,j,y,f=>by
  unfold shut at h;split at h
  .rename_i R;simp only[Wo,Wx]at h;obtain⟨rfl,rfl,rfl,rfl⟩:=h;simp only[Rep]at f;obtain⟨x,rfl,f⟩:=f;obtain⟨B,p,J⟩:=shut_rep I L I' V q R g j f;exact⟨B,by simp only[FrRep];exact⟨x,rfl,p⟩,J⟩
  simp_all
 |.any,r,c,l,m,h,g,j,y,f=>by simp only[shut,Wo,Wx]at h;obtain⟨rfl,rfl,rfl,rfl⟩:=h;exact⟨[],by rfl,Blk.nil⟩
 |.v x,r,c,l,m,h,g,j,y,f=>by simp only[shut,Wo,Wx]at h;obtain⟨rfl,rfl,rfl,rfl⟩:=h;exact⟨[],by simp_all[FrRep,Rep],Blk.nil⟩
 |.nsl,r,c,l,m,h,g,j,y,f=>by simp only[shut,Wo,Wx]at h;obtain⟨rfl,rfl,rfl,rfl⟩:=h;exact⟨[],by simp_all[FrRep,Rep],Blk.nil⟩
 |.isl E z G,r,c,l,m,h,g,j,y,f=>by simp only[shut,Wo,Wx]at h;obtain⟨rfl,rfl,rfl,rfl⟩:=h;have:=f.mono L (BLe.refl _);exact⟨[],by simp_all[FrRep,Rep],Blk.nil⟩
 |.ipt z cs k,r,c,l,m,h,g,j,y,f=>by simp only[shut,Wo,Wx]at h;obtain⟨rfl,rfl,rfl,rfl⟩:=h;have:=f.mono L (BLe.refl _);exact⟨[],by simp_all[FrRep,Rep],Blk.nil⟩
 |.ept ..,r,c,l,m,h,g,j,y,f=>by simp_all[shut]
 |.fsl ..,r,c,l,m,h,g,j,y,f=>by simp_all[shut]
 |.fmp ..,r,c,l,m,h,g,j,y,f=>by simp_all[shut]
 |.omp id ver,r,c,l,m,h,g,j,y,f=>by
  unfold shut at h;split at h
  .rename_i W k G H;split at h
   .rename_i S;obtain⟨rfl,N⟩:=S;simp only[Wo,Wx]at h;obtain⟨rfl,rfl,rfl,rfl⟩:=h;have O:frz s T id=some (ver,.mp k G):=by unfold frz;rw[Wj (q id N)];exact H
    obtain⟨x,u,A⟩:=I'.obs id ver _ O;simp only[Rep]at f;obtain⟨b,K,p,rfl⟩:=f;rw[p]at u;obtain rfl:some (b,K)=x:=by simpa using u
    obtain rfl:K=0:=A.1;refine⟨[some (b,0)],?_,[(id,ver,some (b,0))],rfl,rfl,?_⟩
    .simp only[FrRep];refine⟨b,rfl,?_,rfl,ac,?_⟩
     .rcases I.own id ver _ b 0 H p with h|h
      .exact h
      simp[Ob.bx]at h
     rw[show(G.map (·.1)).zip (G.map (·.2))=G by rw[List.zip_map'];simp];exact A
    intro x u;simp at u;subst u;exact⟨p,_,H⟩
   cases h
  simp_all
def JV{j:List Nat}(I:U7 P C s U M β w)(z:MLe M M')(I':U7 P C (frz s j) U M' β w)(A:Frz s M' β w j){fr:List Nat}(e:∀i∈fr,i∉j):
 ∀{p rs:List D} {c:Prop} {l m:List Nat},Xct s fr p=some (c,rs,l,m)->c->(∀i∈l,i∈j)->∀{k:List Value},RepL P M β p k->∃f,FrRepL P M' w C.w0.heap.size rs k f/\Blk β s m f
 |[],rs,c,l,m,h,q,r,k,o=>by obtain⟨rfl,rfl,rfl,rfl⟩:=h;simp only[RepL]at o;exact⟨[],by simp[FrRepL,o],Blk.nil⟩
 |d::p,rs,c,l,m,h,q,r,k,o=>by
  unfold Xct at h;split at h
  .rename_i B E;obtain⟨rfl,rfl,rfl,rfl⟩:=h;obtain⟨x,G,rfl,u,v⟩:=o;have⟨f,H,J⟩:=shut_rep I z I' A e B q.1 (λi y=>r i (WU _ y)) u;have⟨g,K,L⟩:=JV I z I' A e E q.2 (λi y=>r i (Ui _ y)) v;exact⟨f++g,by exact⟨x,G,f,g,rfl,rfl,H,K⟩,J.append L⟩
  simp_all
end
def Blk.nodup(I:U7 P C s U M β w){m:List Nat}{A:List (Option (Nat×Nat))}(h:Blk β s m A)(B:m.Nodup):(XN A).Nodup:=by
 obtain⟨f,rfl,rfl,k⟩:=h;induction f with
 |nil=>assumption
 |cons x f p=>
  simp at B;have p:=p B.2 λy q=>k y (WT _ q);have⟨i,v,o⟩:=x;cases o with
  |none=>assumption
  |some E=>
   have⟨b,r⟩:=E;have e:XN (((i,v,some (b,r))::f).map (·.2.2))=b::XN (f.map (·.2.2)):=by simp[XN]
   rw[e,Oq];refine⟨λhb=>?_,p⟩;simp only[XN,List.mem_filterMap,WI]at hb;obtain⟨o',⟨y,q,rfl⟩,hb⟩:=hb;have⟨j,D,o'⟩:=y;simp only[Uo]at hb;obtain⟨⟨u,g⟩,rfl,rfl⟩:=hb;have⟨G,ob,H⟩:=k (i,v,some (u,r)) ac;have⟨J,z,K⟩:=k (j,D,some (u,g)) (WT _ q);have:=I.inj i v ob j D z u r g H K G J;simp_all
mutual
def fitsR:D->D->Prop
 |.nsl,.isl _ _ f=>f=[]
 |.nsl,.fsl _ _ f=>f=[]
 |.agg g,.agg h=>Vn g h
 |.tup g,.tup h=>Vn g h
 |.ifc t d,.ifc j e=>t=j/\fitsR d e
 |d,e=>d=e
def Vn:List D->List D->Prop
 |[],[]=>True
 |d::f,e::g=>fitsR d e/\Vn f g
 |_,_=>False
end
def RetG(r:D)(obs:List Ob)(R':D->List Ob->Prop):Prop:=∃e,fitsR r e/\R' e obs
mutual
def fitsR_refl:∀d:D,fitsR d d
 |.agg e=>by exact VW e
 |.tup e=>by exact VW e
 |.ifc t d=>by simp only[fitsR];exact⟨trivial,fitsR_refl d⟩
 |.nsl=>by rfl
 |.any=>by rfl
 |.v _=>by rfl
 |.isl ..=>by rfl
 |.osl ..=>by rfl
 |.ept ..=>by rfl
 |.ipt ..=>by rfl
 |.clo ..=>by rfl
 |.fsl ..=>by rfl
 |.fmp ..=>by rfl
 |.omp ..=>by rfl
def VW:∀e:List D,Vn e e
 |[]=>by simp[Vn]
 |d::e=>by exact⟨fitsR_refl d,VW e⟩
end
def RetG.same{r:D}{obs:List Ob}{R':D->List Ob->Prop}(h:R' r obs):RetG r obs R':=⟨r,fitsR_refl r,h⟩
mutual
def fitsR_rep{M:Mem}{w:World}{B:Nat}:∀{d e:D} {y:Value} {l:List (Option (Nat×Nat))},fitsR d e->FrRep P M w B d y l->∃g,FrRep P M w B e y g/\XN g=XN l
 |.nsl,e,y,l,h,f=>by
  cases e with
  |isl E z o=>grind[fitsR,FrRep,Rep,Xs]
  |fsl E z o=>subst h;obtain⟨rfl,a,rfl⟩:=f;refine⟨[none],?_,rfl⟩;simp[FrRep]
  |nsl=>grind
  |_=>simp[fitsR]at h
 |.agg p,e,y,l,h,f=>by
  cases e with
  |agg q=>simp only[FrRep]at f⊢;obtain⟨r,rfl,f⟩:=f;have⟨g,j,k⟩:=Xa5 h f;grind
  |_=>simp[fitsR]at h
 |.tup p,e,y,l,h,f=>by
  cases e with
  |tup q=>simp only[FrRep]at f⊢;obtain⟨r,rfl,f⟩:=f;have⟨g,j,k⟩:=Xa5 h f;grind
  |_=>simp[fitsR]at h
 |.ifc t d,e,y,l,h,f=>by
  cases e with
  |ifc u e=>have⟨rfl,h⟩:=h;simp only[FrRep]at f⊢;obtain⟨x,rfl,f⟩:=f;have⟨g,j,k⟩:=fitsR_rep h f;grind
  |_=>simp[fitsR]at h
 |.any,e,y,l,h,f=>by grind[fitsR]
 |.v x,e,y,l,h,f=>by grind[fitsR]
 |.isl a b c,e,y,l,h,f=>by grind[fitsR]
 |.ipt a b c,e,y,l,h,f=>by grind[fitsR]
 |.fsl a b c,e,y,l,h,f=>by grind[fitsR]
 |.fmp a b c,e,y,l,h,f=>by grind[fitsR]
 |.clo a b c,e,y,l,h,f=>by grind[fitsR]
 |.osl ..,e,y,l,h,f=>by simp_all[FrRep]
 |.ept ..,e,y,l,h,f=>by simp_all[FrRep]
 |.omp ..,e,y,l,h,f=>by simp_all[FrRep]
def Xa5{M:Mem}{w:World}{B:Nat}:∀{j f:List D} {g:List Value} {l:List (Option (Nat×Nat))},Vn j f->FrRepL P M w B j g l->∃p,FrRepL P M w B f g p/\XN p=XN l
 |[],f,g,l,h,q=>by grind[Vn]
 |d::j,f,g,l,h,q=>by
  cases f with
  |nil=>simp_all[Vn]
  |cons e f=>obtain⟨x,y,z,A,rfl,rfl,r,u⟩:=q;have⟨k,k1,k2⟩:=fitsR_rep h.1 r;have⟨o,E,v⟩:=Xa5 h.2 u;exact⟨k++o,by grind[FrRepL],by simp[X3,k2,v]⟩
end
def Xbq:Nat->Nat->List Nat
 |_,0=>[]
 |k,n+1=>(LB+k)::Xbq (k+1) n
def Xay:∀(n k j:Nat),j<n->(Xbq k n)[j]? = some (LB+(k+j))
 |0,_,_,h=>by omega
 |n+1,k,0,_=>by rfl
 |n+1,k,j+1,h=>by simp only[Xbq,Ij];rw[Xay n (k+1) j ab];grind
def KT:∀(n k:Nat),(Xbq k n).length=n
 |0,_=>rfl
 |n+1,k=>by simp[Xbq,KT n (k+1)]
def XpM(s:Heap):List Nat->Prop
 |[]=>True
 |i::l=>(s i).map (·.1)=some 0/\XpM s l
def Xg6{s:Heap}:∀{l:List Nat} {j i:Nat},XpM s l->l[j]? = some i->(s i).map (·.1)=some 0
 |[],j,i,_,h=>by grind
 |x::l,0,i,e,h=>by simp at h;subst h;exact e.1
 |x::l,j+1,i,e,h=>Xg6 e.2 (by simpa using h)
def XmF(st:St)(P:Program):ResultVar->Option (Prop×D)
 |.tmp t=>some (True,st.t t)
 |.cell a T=>match Xm P T,XfE st.s (st.t a)with
  |some ty,some (c,e,o,z)=>if o+ty.size<=z/\(ty.isAgg=true\/ty.size=1)then some (c,Ji ty.isAgg ((e.drop o).take ty.size))else none
  |_,_=>none
def Xg7(st:St)(P:Program):List ResultVar->Option (Prop×List D)
 |[]=>some (True,[])
 |x::l=>match XmF st P x,Xg7 st P l with
  |some (c,d),some (e,f)=>some (c/\e,d::f)
  |_,_=>none
def XiR:List D->D
 |[d]=>d
 |e=>.tup e
def JW(P:Program)(results:List ResultVar)(fr:List Nat)(g:Nat)(R':D->List Ob->Prop)(st:St):Prop:=
 match Xg7 st P results with
 |some (c,h)=>match shut st.s fr (XiR h),Jl st.s (Xbq 0 g)with
  |some (c1,r,e,j),some (k,obs,f)=>c/\c1/\k/\XpM st.s (Xbq 0 g)/\j.Nodup/\(∀i∈fr,i∉e++f)/\RetG r obs R'
  |_,_=>False
 |none=>False
end
variable {P:Program}
section
variable {C:Cx}{s:Heap}{U:Nat->Prop}{M:Mem}{β:Loc}{w:World}
def Xdq(tmps:Array Value):ResultVar->Sem Value
 |.tmp t=>pure (tmps.getD t undef)
 |.cell a t=>do loadVar t (←asAddr (tmps.getD a undef))
def XpN{st:St}(I:U7 P C st.s U M β w){tmps:Array Value}(k:∀x,Rep P M β (st.t x) (tmps.getD x undef)){x:ResultVar}{c:Prop}{d:D}(h:XmF st P x=some (c,d))(p:c):
 ∃v,(Xdq tmps x).run P w=.ok v w/\Rep P M β d v:=by
 cases x with
 |tmp t=>obtain⟨rfl,rfl⟩:=h;exact⟨_,rfl,k t⟩
 |cell a T=>
  simp only[XmF]at h;split at h
  .rename_i q r;split at h
   .rename_i e;obtain⟨rfl,rfl⟩:=h;have⟨b,u,y,g,f⟩:=XjJ I r p (k a);obtain⟨v,z,j⟩:=Xdi q w M β b u _ _ _ g e.1 f (λo=>by rcases e.2 with h|h;(rw[h]at o;cases o);exact h);refine⟨v,?_,j⟩;unfold Xdq;simp only;rw[y];simp[asAddr,z]
   cases h
  simp_all
def XjU{st:St}{f:ResultVar->Sem Value}(k:∀x c d,XmF st P x=some (c,d)->c->∃v,(f x).run P w=.ok v w/\Rep P M β d v):∀{l:List ResultVar} {c:Prop} {e:List D},Xg7 st P l=some (c,e)->c ->
 ∃g,(l.mapM f).run P w=.ok g w/\RepL P M β e g
 |[],c,e,h,j=>by simp_all[Xg7,Wo,Wx,RepL]
 |x::l,c,e,h,j=>by
  unfold Xg7 at h;split at h
  .rename_i o p;obtain⟨rfl,rfl⟩:=h;have⟨v,q,r⟩:=k _ _ _ o j.1;have⟨g,u,y⟩:=XjU k p j.2;refine⟨v::g,?_,by exact⟨_,_,rfl,r,y⟩⟩;simp only[List.mapM_cons,Sem.run_bind,Result.andThen_ok,Sem.run_pure,u,q]
  simp_all
def Vo{st:St}(I:U7 P C st.s U M β w){tmps:Array Value}(p:∀x,Rep P M β (st.t x) (tmps.getD x undef)){fn:Func}{l:List ResultVar}(q:fn.results=⟨l⟩){c:Prop}{ds:List D}(h:Xg7 st P l=some (c,ds))(o:c):
 ∃v,(results fn tmps).run P w=.ok v w/\Rep P M β (XiR ds) v:=by
 have⟨g,r,j⟩:=XjU (f:=Xdq tmps) (λx c d u o=>XpN I p u o) h o;have y:(fn.results.mapM (Xdq tmps)).run P w=.ok g.toArray w:=by rw[q,Array.mapM_eq_mapM_toList];simp only[Sem.run_map,r,Result.andThen_ok]
 have e:(results fn tmps).run P w=.ok (if h:g.toArray.size=1 then g.toArray[0]else .tuple g.toArray) w:=by show((fn.results.mapM (Xdq tmps)) >>= λg=>pure (if h:g.size=1 then g[0]else .tuple g):Sem Value).run P w=_;simp only[Sem.run_bind,y,Result.andThen_ok,Sem.run_pure]
 refine⟨_,e,?_⟩;have k:=j.length;match ds,g,j,k with
 |[d],[v],j,_=>simp_all[RepL,XiR]
 |[],[],j,_=>simp[XiR,Rep,RepL]
 |d::A::ds,v::z::g,j,_=>
  have:¬(v::z::g).toArray.size=1:=by simp
  simp_all[dif_neg,this,XiR,Rep]
def Xe0{s:Heap}:∀{ids:List Nat}{r},Jl s ids=some r->∀id∈ids,∃v E z f fz,s id=some (v,.arr true E z [f] fz)
 |[],r,h,id,e=>by simp_all
 |i::ids,r,h,id,e=>by
  unfold Jl at h;split at h
  .rename_i v E z f fz g;split at h
   .rename_i k j;rcases Ig.1 e with rfl|e
    .exact⟨_,_,_,_,_,g⟩
    exact Xe0 j id e
   cases h
  simp_all
def st0(args:List D)(lent:List Ob)(n:Nat):St:=⟨λi=>(args[i]?).getD (.v undef),Jk lent,n,1⟩
def Xb1{G:Nat->Option (List D)}{lb:List (Nat×Nat)}{lent:List Ob}(Z:MemOK M w)(hG:∀g W,G g=some W->RepC P M W g 0)(I:lb.length=lent.length)(L:(lb.map (·.1)).Nodup)(J:∀(k:Nat)ob x,lent[k]? = some ob->lb[k]? = some x->ObRep P M Yz w (some x) ob/\ob.bx=true):U7 P ⟨G,M,w,lb.map (·.1),Kf lb,M,0,none,[]⟩ (Jk lent) (·<1) M (Kf lb) w:=by
 have hsplit:∀id v ob,Jk lent id=some (v,ob)->LB<=id/\v=0/\lent[id-LB]? = some ob:=by
  intro id v ob h;unfold Jk at h;split at h
  .rename_i r;simp only[Uo,Wx]at h;obtain⟨o,z,rfl,rfl⟩:=h;exact⟨r,rfl,z⟩
  cases h
 have f:∀id v x,Kf lb id v=some x->v=0/\LB<=id/\∃y,lb[id-LB]? = some y/\x=some y:=by
  intro id v x h;unfold Kf at h;split at h
  .rename_i r;simp only[Uo]at h;obtain⟨o,z,rfl⟩:=h;exact⟨r.1,r.2,o,z,rfl⟩
  cases h
 constructor
 .exact Z
 .intro id v x h;obtain⟨rfl,_⟩:=f id v x h;exact Nat.zero_lt_one
 .intro id v ob h;obtain⟨z,rfl,K⟩:=hsplit id v ob h;have q:id-LB<lb.length:=by
   rw[I];rcases Ux (id-LB) lent.length with p|p
   .exact p
   simp[WN p]at K
  refine⟨some lb[id-LB],?_,?_⟩
  .unfold Kf;rw[Wm ⟨rfl,z⟩];simp[q]
  obtain⟨g1,_⟩:=J _ ob lb[id-LB] K (Wb q);exact g1.mono (MLe.refl _) (BLe.zero _) (λ_ _ _=>rfl) (λ_ _ _ _=>rfl)
 .intro id v ob b cb h hb;have⟨z,rfl,K⟩:=hsplit id v ob h;have⟨_,_,y,E,e⟩:=f _ _ _ hb;simp at e;subst e;exact .inr ⟨WI.2 ⟨_,W5 E,rfl⟩,(J _ ob _ K E).2⟩
 .intro id v ob u v' N b cb cb' h p hb O;have⟨z,rfl,K⟩:=hsplit id v ob h;have⟨R,rfl,h2'⟩:=hsplit u v' N p;have⟨_,_,y,E,e⟩:=f _ _ _ hb;have⟨_,_,y',B,H⟩:=f _ _ _ O;simp at e H;subst e;subst H;have hn:=W7.1 (List.nodup_iff_pairwise_ne.1 L);have q:id-LB<lb.length:=by
   rcases Ux (id-LB) lb.length with p|p
   .exact p
   simp[WN p]at E
  have A:u-LB<lb.length:=by
   rcases Ux (u-LB) lb.length with p|p
   .exact p
   simp[WN p]at B
  have key:∀i j,i<j->∀(S:i<lb.length) (T:j<lb.length),∀c Y,lb[i]? = some (b,c)->lb[j]? = some (b,Y)->False:=by intro i j V S T c Y e H;rw[Wb S]at e;rw[Wb T]at H;simp only[Wo]at e H;exact hn i j (by simpa using S) (by simpa using T) V (by simp[e,H])
  rcases Nat.lt_trichotomy (id-LB) (u-LB)with h|h|h
  .exact(key _ _ h q A _ _ E B).elim
  .rw[←Nat.sub_add_cancel z,←Nat.sub_add_cancel R,h]
  exact(key _ _ h A q _ _ B E).elim
 .exact Kp.refl _ _
 .intro b o _;rfl
 .exact MLe.refl _
 omega
def K9{C:Cx}{fn:Func}{args:List D}{e:List Value}{nt k:Nat}{s:Heap}{M:Mem}{β:Loc}(hd:C.df=[])(hb:BLe C.b0 β)(g:RepL P M β args e)(p:fn.ntmps=nt)(h:args.length<=nt)(I:U7 P C s (·<k) M β w):
 Rel P C ⟨λi=>(args[i]?).getD (.v undef),s,nt,k⟩ {tmps:=(⟨e⟩:Array Value)++Array.replicate (fn.ntmps-(⟨e⟩:Array Value).size) undef,defers:=[]} w:=by
 have q:=g.length;refine⟨hd.symm,by simp_all,M,β,hb,λi=>?_,I⟩;show Rep P M β ((args[i]?).getD (.v undef)) (((⟨e⟩:Array Value)++Array.replicate (fn.ntmps-(⟨e⟩:Array Value).size) undef).getD i undef);rcases Ux i args.length with o|o
 .have⟨x,j,r⟩:=g.get i args[i] (Wb o);have:((⟨e⟩:Array Value)++Array.replicate (fn.ntmps-(⟨e⟩:Array Value).size) undef).getD i undef=x:=by have f:i<e.length:=ab;rw[Wb f]at j;simp only[Wo]at j;simp[Array.getElem?_append,f,j]
  simp_all
 have:((⟨e⟩:Array Value)++Array.replicate (fn.ntmps-(⟨e⟩:Array Value).size) undef).getD i undef=undef:=by have f:¬i<e.length:=ab;simp only[Array.getD_eq_getD_getElem?,Array.getElem?_append];simp only[List.size_toArray,f,if_false];rw[Array.getElem?_replicate];split<;>rfl
 simp_all[this,Rep,XbZ]
def Xbr{C:Cx}{fn:Func}{rs:List ResultVar}{fr:List Nat}{lent:List Ob}{lb:List (Nat×Nat)}{R':D->List Ob->Prop}(L:C.lb=lb.map (·.1))(N:BLe (Kf lb) C.b0)(f:lb.length=lent.length)(O:fn.results=⟨rs⟩):
 ∀a w',Zp P C (JW P rs fr lent.length R') a w'->∃v,(results fn a.tmps).run P w'=.ok v w'/\XpJ P C.M0 C.w0 lb R' (.returned v) w':=by
 rintro a w' ⟨st,⟨h1,h2,M',β,h0,h3,I⟩,e⟩;unfold JW at e;split at e
 .rename_i c ds q;split at e
  .rename_i c1 r R fh c2 obs S T u;have⟨hc,V,W,y,Y,A,Z⟩:=e;have⟨v,hv,hrv⟩:=Vo I h3 O q hc;have⟨M2,I2,B,hF⟩:=I.freeze (R++S);have⟨bl,hfr,hbl⟩:=shut_rep I B I2 hF A T V (λi hi=>WU _ hi) hrv;have hL:XfR st.s β (Xbq 0 lent.length) lb:=by
    intro j id G;have h:j<lent.length:=by
     rcases Ux j lent.length with h'|h'
     .exact h'
     rw[WN (by rw[KT];exact h')]at G;cases G
    rw[Xay _ _ _ h]at G;simp only[Wo,UE]at G;subst G;have k:=Xg6 y (Xay lent.length 0 j h);rw[UE]at k;simp only[Uo]at k;obtain⟨⟨v',ob⟩,hs,rfl⟩:=k;have hβ:β (LB+j) 0=some (some (lb[j]'ab)):=by refine h0 _ _ _ (N _ _ _ ?_);show Kf lb (LB+j) 0=_;unfold Kf;rw[Wm ⟨rfl,Nat.le_add_right _ _⟩];have:LB+j-LB=j:=I6 ..;rw[this];rw[Wb ab];rfl
    have H:∃E z J fz,ob=.arr true E z [J] fz:=by have g:=Xe0 u _ (W5 (Xay lent.length 0 j h));rw[UE]at g;obtain⟨v,E,z,J,fz,p⟩:=g;rw[hs]at p;simp only[Wo,Wx]at p;exact⟨E,z,J,fz,p.2⟩
    obtain⟨E,z,J,fz,rfl⟩:=H;exact⟨0,E,z,J,fz,lb[j]'ab,hs,Wb ab,hβ⟩
   have⟨g1,g2⟩:=XbV I B I2 hF u W (λx hx=>Ui _ hx) hL (by rw[KT,f]);have⟨r',hrr,Z⟩:=Z;have⟨bl',K,hbb⟩:=fitsR_rep hrr hfr;refine⟨v,hv,v,r',obs,M2,bl',rfl,Z,L▸I.keep,I2.mem,λb o hb=>?_,?_,g2,K,hbb▸hbl.nodup I Y⟩
   .exact I2.old b o hb
   rw[g1,KT,f]
  exact e.elim
 simp_all
def XeM{G:Nat->Option (List D)}{f:FuncId}{fn:Func}{body:Code}{rs:List ResultVar}{args:List D}{lent:List Ob}{R':D->List Ob->Prop}(fr:List Nat)(nt:Nat)(A:P.funcs[f]? = some fn)(hb:fn.body=some body)(B:(fn.name== "runtime.NumGoroutine")=false)(q:fn.results=⟨rs⟩)(r:fn.ntmps=nt)(j:args.length<=nt)(h:∀(C:Cx)x,C.G=G->C.lb.length=lent.length->WfL P args->∀a w,Rel P (C.sub 0 x) (st0 args lent nt) a w->sem P (C.sub 0 x) (Zp P (C.sub 0 x) (JW P rs fr lent.length R')) [.code body] none a w):YV P G f args lent R':=by
 refine⟨⟨fn,A,by grind,B⟩,λM w J lb E H g u y k=>?_⟩;refine calls_of_wp A hb ?_;have I0:=Xb1 (G:=G) E H g u y;have o:Rel P ⟨G,M,w,lb.map (·.1),Kf lb,M,0,none,[]⟩ (st0 args lent nt) _ w:=K9 rfl (BLe.refl _) k r j I0;have p:=h ⟨G,M,w,lb.map (·.1),Kf lb,M,0,none,[]⟩ (M,Kf lb) rfl (by simp_all) k.wf _ _ o;refine wp_mono ((wpIn_wide (n:=0)).1 p) ?_;have fin:∀a w',Zp P ⟨G,M,w,lb.map (·.1),Kf lb,M,0,none,[]⟩ (JW P rs fr lent.length R') a w'->a.defers=[]/\∃v,(results fn a.tmps).run P w'=.ok v w'/\XpJ P M w lb R' (.returned v) w':=λa w' h=>⟨by have⟨st,I,_⟩:=h;exact I.1,Xbr rfl (BLe.refl _) g q a w' h⟩
 intro e a w' z;cases e with
 |normal=>exact fin a w' z
 |ret=>exact fin a w' z
 |exit id=>assumption
 |_=>exact z.elim
def Yo{G:Nat->Option (List D)}{f:FuncId}{fn:Func}{body:Code}{rs:List ResultVar}{args:List D}{lent:List Ob}{R':D->List Ob->Prop}(m:Nat)(fr:List Nat)(nt:Nat)(o:P.funcs[f]? = some fn)(hb:fn.body=some body)(p:(fn.name== "runtime.NumGoroutine")=false)(g:fn.results=⟨rs⟩)(j:fn.ntmps=nt)(e:args.length<=nt)(h:∀(C:Cx)x,C.G=G->WfL P args->run P (C.sub 0 x) (JW P rs fr lent.length R') m [.code body] (st0 args lent nt)):YV P G f args lent R':=
 XeM fr nt o hb p g j e λC x q _ k a w r=>Yj m _ r (h C x q k)
def stI(args:List D)(s:Heap)(n k:Nat):St:=⟨λi=>(args[i]?).getD (.v undef),s,n,k⟩
def XfU(P:Program)(rs:List ResultVar)(K:D->Heap->Nat->Prop)(st:St):Prop:=match Xg7 st P rs with
 |some (c,e)=>c/\K (XiR e) st.s st.k
 |none=>False
def kOf(dst:Option Nat)(st:St)(K:St->Prop):D->Heap->Nat->Prop:=λd s k=>K (nxS st (XH dst st.n) d s st.n k)
def CallX.inl{C:Cx}{f:FuncId}{args:List D}{dst:Option Nat}{st:St}{K:St->Prop}(off:Nat){fn:Func}{rs:List ResultVar}{nt:Nat}(m:Nat)(p:(P.funcs[f]?,fn.body,fn.name== "runtime.NumGoroutine",fn.results,fn.ntmps,args.length.ble nt)=(some fn,some (fn.body.get!),false,⟨rs⟩,nt,true))(h:∀x,run P (C.sub off x) (XfU P rs (kOf dst st K)) m [.code (fn.body.get!)] (stI args st.s nt st.k))(t:Prf args):CallX P C f args dst st K t:=by
 injection p with H p;injection p with hb p;injection p with L p;injection p with y p;injection p with z j;have j:=Nat.le_of_ble_eq_true j;refine⟨⟨fn,H,by grind,L⟩,λM β w W Y I A=>?_⟩;refine calls_of_wp H hb ?_;have I0:U7 P (C.sub off (M,β)) st.s (·<st.k) M β w:=⟨I.mem,I.used,I.obs,I.own,I.inj,I.keep,I.old,MLe.refl _,λg N O=>RepC.mono I.le (I.glob g N O)⟩
 have q:Rel P (C.sub off (M,β)) (stI args st.s nt st.k) _ w:=K9 rfl (BLe.refl _) A z j I0;have r:=Yj m _ q (h (M,β));refine wp_mono ((wpIn_wide (n:=0)).1 r) ?_;have fin:∀a w',Zp P (C.sub off (M,β)) (XfU P rs (kOf dst st K)) a w'->a.defers=[]/\∃v,(results fn a.tmps).run P w'=.ok v w' /\
  (λe w'=>∃v d s' J M' β',e=Ending.returned v/\U7 P C s' (·<J) M' β' w'/\Rep P M' β' d v/\MLe M M'/\BLe β β'/\K (nxS st (XH dst st.n) d s' st.n J)) (.returned v) w':=by
  rintro a w' ⟨R,⟨S,Z,M',β',B,T,I'⟩,o⟩
  refine⟨S,?_⟩
  unfold XfU at o
  split at o
  .rename_i c ds u
   have⟨v,V,E⟩:=Vo I' T y u o.1
   exact⟨v,V,v,_,_,_,M',β',rfl,⟨I'.mem,I'.used,I'.obs,I'.own,I'.inj,I'.keep,I'.old,I.le.trans I'.le,I.glob⟩,E,I'.le,B,o.2⟩
  .grind
 intro e a w' G;cases e with
 |normal=>exact fin a w' G
 |ret=>exact fin a w' G
 |exit id=>assumption
 |_=>exact G.elim
def Zc{G:Nat->Option (List D)}{f:FuncId}{E z:Nat}{args:List D}{lent:List Ob}{R':D->List Ob->Prop}(h:∀a cap,YV P G f (.v (.slice a 0 cap)::args) lent R'):YV P G f (.isl E z []::args) lent R':=by refine⟨(h none 0).1,λM w r lb e g j k o p=>?_⟩;obtain⟨x,u,rfl,⟨_,_,_,a,cap,rfl,_⟩,q⟩:=p;refine(h a cap).2 M w _ lb e g j k o ?_;exact⟨_,_,rfl,⟨rfl,trivial⟩,q⟩
end
variable {P:Program}{C:Cx}{R:St->Prop}
section
variable {n:Nat}{k:List It}{st:St}
def XpO:run P C R (n+1) [] st=R st:=propext Iff.rfl
def XmG{Q:St->Prop}:run P C R (n+1) (.stop Q::k) st=Q st:=propext Iff.rfl
def XpP{i:Nat}:run P C R (n+1) (.blk i::k) st=run P C R n k st:=propext Iff.rfl
def XmH{full:Array Oper}:run P C R (n+1) (.ops full []::k) st=run P C R n k st:=propext Iff.rfl
def Xr8{full:Array Oper}{o:Oper}{rest:List Oper}:run P C R (n+1) (.ops full (o::rest)::k) st=XbY full o st
 (λst=>Xa4 P C o st (run P C R n (.ops full rest::k)))
 (λst=>Xg4 (XH o.dst st.n) st.n (st.k+1) (λdst m j=>run P C R n (.ops full rest::k) (nx st dst (.v undef) [] m j)) trivial):=propext Iff.rfl
def XmI:run P C R (n+1) (.code .skip::k) st=run P C R n k st:=propext Iff.rfl
def XpQ{x y:Code}:run P C R (n+1) (.code (.seq x y)::k) st=run P C R n (.code x::.code y::k) st:=propext Iff.rfl
def XmJ{c:Operand}{x y:Code}:run P C R (n+1) (.code (.cond c x y)::k) st=Xcq (ev st.t C.G c) c st (run P C R n (.code x::k)) (run P C R n (.code y::k)) trivial:=propext Iff.rfl
def Xli{i:Nat}{c:Code}:run P C R (n+1) (.code (.block i c)::k) st=run P C R n (.code c::.blk i::k) st:=propext Iff.rfl
def Xlj{c:Code}:run P C R (n+1) (.code (.scope c)::k) st=run P C R n (.code c::k) st:=propext Iff.rfl
def Xlk{i:Nat}:run P C R (n+1) (.code (.label i)::k) st=run P C R n k st:=propext Iff.rfl
def XmK{i:Nat}:run P C R (n+1) (.code (.exit i)::k) st=XjT (Xcr i k) (λe=>run P C R n e st) trivial:=propext Iff.rfl
def XpR:run P C R (n+1) (.code .ret::k) st=R st:=propext Iff.rfl
def XmL{c:Code}:run P C R (n+1) (.code (.loop c)::k) st=LoopG P C R c k st trivial:=propext Iff.rfl
def XiS{i:Nat}{ops:List Oper}:run P C R (n+1) (.code (.region i ⟨ops⟩ false)::k) st=run P C R n (.ops ⟨ops⟩ ops::k) st:=propext Iff.rfl
def Xll{i:Nat}{ops:Array Oper}:run P C R (n+1) (.code (.region i ops true)::k) st=DrawnG P C R i ops k st trivial:=propext Iff.rfl
variable {full:Array Oper}{dst:Option Nat}{op:Op}{ty:Nat}{pos:String}{af:Array Edge}{x y:St->Prop}{K:St->Prop}
def Xg8:XbY full ⟨dst,op,ty,pos,af,none⟩ st x y=x st:=propext Iff.rfl
def Xg9{g:Nat}{want:Bool}:XbY full ⟨dst,op,ty,pos,af,some (g,want)⟩ st x y=XfT ((full[g]?).bind (·.dst)) want st x y trivial:=propext Iff.rfl
def Xha{r:Nat}{want:Bool}{e:Prf (some r)}:XfT (some r) want st x y e=Z5 (st.t r) r want st x y trivial:=propext Iff.rfl
def Xlm{r:Nat}{e:Prf (D.v (.bool true))}:Z5 (.v (.bool true)) r true st x y e=x st:=by simp[Z5,VU]
def Xln{r:Nat}{e:Prf (D.v (.bool true))}:Z5 (.v (.bool true)) r false st x y e=y st:=by simp[Z5,VU]
def Xlo{r:Nat}{e:Prf (D.v (.bool false))}:Z5 (.v (.bool false)) r true st x y e=y st:=by simp[Z5,VU]
def Xlp{r:Nat}{e:Prf (D.v (.bool false))}:Z5 (.v (.bool false)) r false st x y e=x st:=by simp[Z5,VU]
def XmM{r:Nat}{want:Bool}{e:Array Value}{f:Prf (D.v (.tuple e))}:Z5 (.v (.tuple e)) r want st x y f=y st:=rfl
def XpS{c:Operand}{e:Prf (D.v (.bool true))}:Xcq (.v (.bool true)) c st x y e=x st:=by simp[Xcq,VU]
def XpT{c:Operand}{e:Prf (D.v (.bool false))}:Xcq (.v (.bool false)) c st x y e=y st:=by simp[Xcq,VU]
def XiT{f:List It->Prop}{e:Prf (some k)}:XjT (some k) f e=f k:=propext Iff.rfl
def XmN{m j:Nat}{f:Option Nat->Nat->Nat->Prop}{e:Prf dst}:Xg4 dst m j f e=f dst m j:=propext Iff.rfl
def Xlq{o:Oper}:Xa4 P C o st K=XeY P C (ZM o.op) o st K trivial:=propext Iff.rfl
def XiU{o:Oper}{e:Prf (none:Option Call)}:XeY P C none o st K e=Xcp (opF P (Xg3 C.off o.dst) st.k (ev st.t C.G) st.s o.op) (XH o.dst st.n) st.n (st.k+1) (λdst d u n k=>K (nx st dst d u n k)) trivial:=propext Iff.rfl
def XiV{o:Oper}{c:Call}{e:Prf (some c)}:XeY P C (some c) o st K e=Xdp P C (callee (ev st.t C.G) c) c o.dst st K trivial:=propext Iff.rfl
def Xhb{f:Nat}{args:List D}{c:Call}{dst:Option Nat}{e:Prf (some (f,args))}:Xdp P C (some (f,args)) c dst st K e=CallX P C f args dst st K trivial:=propext Iff.rfl
def Xhc{c:Call}{dst:Option Nat}{e:Prf (none:Option (Nat×List D))}:Xdp P C none c dst st K e=XfS P C (XcN (ev st.t C.G) c) dst st K trivial:=propext Iff.rfl
def Xhd{l:Nat}{args:List D}{dst:Option Nat}{e:Prf (some (l,args))}:XfS P C (some (l,args)) dst st K e=YieldX P C l args dst st K trivial:=propext Iff.rfl
def XiW{c:Prop}{d:D}{u:Up}{m j:Nat}{f:Option Nat->D->Up->Nat->Nat->Prop}{e:Prf (some (c,d,u))}:Xcp (some (c,d,u)) dst m j f e=(c/\f dst d u m j):=propext Iff.rfl
def Xhe{G:Nat->Option (List D)}{f:Nat}{e:Prop}{as:List D}{ids:List Nat}{obs:List Ob}{fz:List Nat}{K:List Nat->List Nat->D->List Ob->Prop}{g:Prf (some (e,as,ids,obs,fz))}:XiP P G f (some (e,as,ids,obs,fz)) K g=(e/\CallG P G f as obs (K ids fz) trivial):=propext Iff.rfl
def XpU{d:D}{u:Up}{m j:Nat}{f:Option Nat->D->Up->Nat->Nat->Prop}{e:Prf (d,u)}:Xr7 (d,u) dst m j f e=f dst d u m j:=propext Iff.rfl
variable {d:D}{u:Up}{m j i x:Nat}
def Xvi:(nx st dst d u m j).n=m:=rfl
def Xvj:(nx st dst d u m j).k=j:=rfl
def Xvk{i x:Nat}:(nx st (some x) d u m j).t i=if i=x then d else st.t i:=rfl
def Xtt{i:Nat}:(nx st none d u m j).t i=st.t i:=rfl
def Xtu:(nx st dst d [] m j).s=st.s:=rfl
def Xvl{e:Nat×Nat×Ob}:(nx st dst d (e::u) m j).s=app st.s (e::u):=rfl
def Xtv{s:Heap}:(nxS st dst d s m j).n=m:=rfl
def Xtw{s:Heap}:(nxS st dst d s m j).k=j:=rfl
def Xtx{s:Heap}{i x:Nat}:(nxS st (some x) d s m j).t i=if i=x then d else st.t i:=rfl
def Xr9{s:Heap}{i:Nat}:(nxS st none d s m j).t i=st.t i:=rfl
def Xty{s:Heap}:(nxS st dst d s m j).s=s:=rfl
def Xtz{args:List D}{s:Heap}{n k i:Nat}:(stI args s n k).t i=(args[i]?).getD (.v undef):=rfl
def XtA{args:List D}{s:Heap}{n k:Nat}:(stI args s n k).s=s:=rfl
def XtB{args:List D}{s:Heap}{n k:Nat}:(stI args s n k).n=n:=rfl
def XtC{args:List D}{s:Heap}{n k:Nat}:(stI args s n k).k=k:=rfl
def Xsa{s:Heap}{k:Nat}:kOf dst st K d s k=K (nxS st (XH dst st.n) d s st.n k):=rfl
def XpV{C:Cx}{n:Nat}{x:Mem×Loc}:(C.sub n x).off=n:=rfl
def XtD{C:Cx}{n:Nat}{x:Mem×Loc}:(C.sub n x).G=C.G:=rfl
def XtE{args:List D}{lent:List Ob}{n i:Nat}:(st0 args lent n).t i=(args[i]?).getD (.v undef):=rfl
def XtF{args:List D}{lent:List Ob}{n:Nat}:(st0 args lent n).s=Jk lent:=rfl
def XtG{args:List D}{lent:List Ob}{n:Nat}:(st0 args lent n).n=n:=rfl
def XtH{args:List D}{lent:List Ob}{n:Nat}:(st0 args lent n).k=1:=rfl
def XfV{s:Heap}:app s []=s:=rfl
def Xdr{s:Heap}{i v:Nat}{o:Ob}:app s ((i,v,o)::u)=app (upd s i (some (v,o))) u:=rfl
def XiX{s:Heap}{i j:Nat}{x:Option (Nat×Ob)}:upd s i x j=if j=i then x else s j:=rfl
def Xlr{i:Nat}:Jk [] i=none:=by simp[Jk]
def Jn{ls:List Ob}{j:Nat}:Jk ls (LB+j)=(ls[j]?).map (λo=>(0,o)):=by unfold Jk;simp
def Xsb:IntKind.min .i8 = -128:=ag
def Xsc:IntKind.max .i8=127:=ag
def XpW:IntKind.min .i16 = -32768:=ag
def XpX:IntKind.max .i16=32767:=ag
def XpY:IntKind.min .i32 = -2147483648:=ag
def XpZ:IntKind.max .i32=2147483647:=ag
def Xp0:IntKind.min .i64 = -9223372036854775808:=ag
def Xp1:IntKind.max .i64=9223372036854775807:=ag
def Xsd:IntKind.min .u8=0:=ag
def Xse:IntKind.max .u8=255:=ag
def Xp2:IntKind.min .u16=0:=ag
def Xp3:IntKind.max .u16=65535:=ag
def Xp4:IntKind.min .u32=0:=ag
def Xp5:IntKind.max .u32=4294967295:=ag
def Xp6:IntKind.min .u64=0:=ag
def Xp7:IntKind.max .u64=18446744073709551615:=ag
def Zm{r:Nat}{d:D}(h:st.t r=d):XaR st r d=st:=by
 unfold XaR;have:upd st.t r d=st.t:=by
  funext j;unfold upd;split
  .simp_all
  rfl
 rw[this]
def YF{b:Bool}{r:Nat}{x y:St->Prop}(f:st.t r=.v (.bool b))(g:b=true->x (XaR st r (.v (.bool true))))(h:b=false->y (XaR st r (.v (.bool false))))(t':Prf (D.v (.bool b))):Xcq (.v (.bool b)) (.tmp r) st x y t':=
 ⟨λe=>by simp_all[Zm,f],λe=>by simp_all[Zm,f]⟩
def XO{b:Bool}{r:Nat}{x y:St->Prop}(f:st.t r=.v (.bool b))(g:b=true->x (XaR st r (.v (.bool true))))(h:b=false->y (XaR st r (.v (.bool false))))(t':Prf (D.v (.bool b))):Z5 (.v (.bool b)) r true st x y t':=
 ⟨λe=>by simp_all[Zm,f],λe=>by simp_all[Zm,f]⟩
def XP{b:Bool}{r:Nat}{x y:St->Prop}(f:st.t r=.v (.bool b))(g:b=true->y (XaR st r (.v (.bool true))))(h:b=false->x (XaR st r (.v (.bool false))))(t':Prf (D.v (.bool b))):Z5 (.v (.bool b)) r false st x y t':=
 ⟨λe=>by simp_all[Zm,f],λe=>by simp_all[Zm,f]⟩
def Xsf{r i:Nat}{d:D}:(XaR st r d).t i=if i=r then d else st.t i:=rfl
def Xsg{r:Nat}{d:D}:(XaR st r d).s=st.s:=rfl
def Xsh{r:Nat}{d:D}:(XaR st r d).n=st.n:=rfl
def Xsi{r:Nat}{d:D}:(XaR st r d).k=st.k:=rfl
def CallG.of{G:Nat->Option (List D)}{f:FuncId}{args eargs:List D}{obs:List Ob}{R K:D->List Ob->Prop}(h:YV P G f eargs obs R)(e:ZZ args eargs)(hK:∀r ls,R r ls->K r ls)(t':Prf args):CallG P G f args obs K t':=
 ⟨eargs,R,e,h,hK⟩
end
variable {P:Program}
structure En where
 i:Nat
 o:Oper
 anc:List Nat
 ws:List Nat
 ms:List Nat
 mi:List Nat
def Zu(ms:List Nat)(t:Nat->D):Nat->D:=λx=>if ms.contains x then .any else t x
def YX(mi:List Nat)(s:Heap):Heap:=λx=>if mi.contains x then none else s x
inductive Kd where
 |det (c:Prop) (d:D) (u:Up)
 |call (c:Prop) (f:FuncId) (as:List D) (ids:List Nat) (obs:List Ob) (fz:List Nat)
 |ro (f:FuncId) (args:List D)
def kd1(x:Option (Prop×D×Up)):Option Kd:=match x with
 |some (c,d,u)=>some (.det c d u)
 |none=>none
def kd2(f:FuncId)(args:List D)(x:Option (Prop×List D×List Nat×List Ob×List Nat)):Option Kd:=match x with
 |some (e,as,ids,obs,fz)=>some (.call e f as ids obs fz)
 |none=>some (.ro f args)
def roK(f:Nat):Nat:=1000000000+f
def XfW(G:Nat->Option (List D))(f:Nat){α:Type}(x:Option α):Option α:=if(G (roK f)).isSome then none else x
def Xls{G:Nat->Option (List D)}{f:Nat}{α:Type}{x:Option α}{y:α}(h:XfW G f x=some y):x=some y:=by unfold XfW at h;simp_all
def kd3(G:Nat->Option (List D))(s:Heap)(x:Option (FuncId×List D)):Option Kd:=match x with
 |some (f,args)=>kd2 f args (XfW G f (Zf s args))
 |none=>none
def RoA(P:Program)(C:Cx)(s:Heap)(args eargs:List D):Prop:=∀s' U M β w e,HLe s s'->U7 P C s' U M β w->RepL P M β args e->∃M1,MLe M M1/\MemOK M1 w/\RepL P M1 Yz eargs e
def kdO(P:Program)(C:Cx)(ver:Nat)(o:Oper)(t:Nat->D)(s:Heap):Option Kd:=match ZM o.op with
 |some c=>kd3 C.G s (callee (ev t C.G) c)
 |none=>kd1 (opF P (Xg3 C.off o.dst) ver (ev t C.G) s o.op)
def kdG(d:D)(_:Nat)(want:Bool)(x:Option Kd):Option Kd:=match d with
 |.v (.bool b)=>bif b==want then x else some (.det True (.v undef) [])
 |.v (.tuple _)=>some (.det True (.v undef) [])
 |_=>none
def kdE(P:Program)(C:Cx)(full:Array Oper)(ver:Nat)(o:Oper)(t:Nat->D)(s:Heap):Option Kd:=match o.guard with
 |none=>kdO P C ver o t s
 |some (g,want)=>match (full[g]?).bind (·.dst)with
  |some r=>kdG (t r) r want (kdO P C ver o t s)
  |none=>none
def KP(u:Up)(ws:List Nat):Prop:=∀x∈u,x.1∈ws
def doK(P:Program)(C:Cx)(e:En)(ver:Nat)(s:Heap)(x:Option Kd)(F:D->Up->Prop):Prop:=match x with
 |none=>False
 |some (.det c d u)=>c/\KP u e.ws/\F d u
 |some (.call c f as ids obs fz)=>c/\∃eargs R,ZZ as eargs/\YV P C.G f eargs obs R/\(∃r ls,R r ls)/\∀r ls,R r ls ->
  KP (aft s ids fz r ls ver (64*(C.off+e.o.dst.getD 0))).2 e.ws/\F (aft s ids fz r ls ver (64*(C.off+e.o.dst.getD 0))).1 (aft s ids fz r ls ver (64*(C.off+e.o.dst.getD 0))).2
 |some (.ro f args)=>∃eargs R,RoA P C s args eargs/\YV P C.G f eargs [] R/\(∃r ls,R r ls)/\∀r ls,R r ls->scal r=true/\F r []
def KQ(P:Program)(C:Cx)(full:Array Oper)(k0:Nat)(e:En)(st:St)(F:St->Prop):Prop:=
 doK P C e (k0+e.i) (YX e.mi st.s) (kdE P C full (k0+e.i) e.o (Zu e.ms st.t) (YX e.mi st.s)) λd u=>F (nx st (XH e.o.dst st.n) d u st.n st.k)
def dr(P:Program)(C:Cx)(full:Array Oper)(k0:Nat):List En->St->(St->Prop)->Prop
 |[],st,K=>K st
 |e::f,st,K=>KQ P C full k0 e st λst=>dr P C full k0 f st K
def Xbs(o:Oper):Bool:=(ZM o.op).isSome
def inB(x:Option Nat)(l:List Nat):Bool:=match x with
 |some x=>l.contains x
 |none=>true
def Xds(e j:En):Bool:=
 (e.o.dst != j.o.dst||e.o.dst.isNone)&&inB e.o.dst j.ms&&inB j.o.dst e.ms&&e.ws.all (λx=>j.mi.contains x)&&j.ws.all (λx=>e.mi.contains x)&&e.ws.all (λx=>!j.ws.contains x)&&!(Xbs e.o&&Xbs j.o)
section
variable {C:Cx}{full:Array Oper}{k0:Nat}{st:St}
def XmO{e:En}{ver:Nat}{s:Heap}{x:Option Kd}{F F':D->Up->Prop}(h:∀d u,F d u->F' d u)(hd:doK P C e ver s x F):doK P C e ver s x F':=by
 unfold doK at hd⊢;split at hd
 .omega
 .simp_all
 .have⟨v,eargs,R,o,p,q,f⟩:=hd;exact⟨v,eargs,R,o,p,q,λr ls g=>⟨(f r ls g).1,h _ _ (f r ls g).2⟩⟩
 have⟨eargs,R,o,p,q,f⟩:=hd;exact⟨eargs,R,o,p,q,λr ls g=>⟨(f r ls g).1,h _ _ (f r ls g).2⟩⟩
def Xa6{e:En}{F F':St->Prop}(h:∀st,F st->F' st)(hd:KQ P C full k0 e st F):KQ P C full k0 e st F':=
 XmO (λ_ _ f=>h _ f) hd
def XmP{ms:List Nat}{dst:Option Nat}{n m k:Nat}{d:D}{u:Up}(h:inB dst ms=true):Zu ms (nx st (XH dst n) d u m k).t=Zu ms st.t:=by
 funext x;unfold Zu;split
 .rfl
 rename_i f;cases dst with
 |none=>rfl
 |some y=>
  simp only[XH];split
  .simp only[nx,upd];split
   .rename_i e;subst e;exact absurd h f
   rfl
  rfl
def JY{s:Heap}{i:Nat}:∀{u:Up},(∀x∈u,x.1≠i)->app s u i=s i:=by
 intro u;induction u generalizing s with
 |nil=>intro _;rfl
 |cons x u e=>intro h;have⟨j,v,o⟩:=x;show app (upd s j _) u i=s i;rw[e λy f=>h y (WT _ f),Yb _ _ _ _ (Ne.symm (h (j,v,o) ac))]
def XmQ{mi ws:List Nat}{dst:Option Nat}{m k:Nat}{d:D}{u:Up}(f:KP u ws)(h:∀x∈ws,mi.contains x=true):YX mi (nx st dst d u m k).s=YX mi st.s:=by
 funext x;unfold YX;split
 .rfl
 rename_i g;exact JY λy o e=>g (e▸h _ (f y o))
def Xe1{s s':Heap}{i:Nat}:∀{u:Up},s i=s' i->app s u i=app s' u i:=by
 intro u;induction u generalizing s s' with
 |nil=>intro h;exact h
 |cons x u e=>intro h;have⟨j,v,o⟩:=x;refine e ?_;unfold upd;simp_all
def XmR{s:Heap}{u f:Up}(h:∀x∈u,∀y∈f,x.1≠y.1):app (app s u) f=app (app s f) u:=by
 funext i;by_cases p:∃x∈u,x.1=i
 .obtain⟨x,g,rfl⟩:=p;rw[JY λy o e=>h x g y o e.symm];exact Xe1 (JY λy o e=>h x g y o e.symm).symm
 have q:∀x∈u,x.1≠i:=λx g e=>p ⟨x,g,e⟩;rw[JY (s:=app s f) q];exact Xe1 (JY q)
def Xbt{e j:Option Nat}{n k:Nat}{d d':D}{u f:Up}(r:e≠j\/e=none)(h:∀x∈u,∀y∈f,x.1≠y.1):
 nx (nx st (XH e n) d u n k) (XH j n) d' f n k=nx (nx st (XH j n) d' f n k) (XH e n) d u n k:=by
 have ht:(nx (nx st (XH e n) d u n k) (XH j n) d' f n k).t=(nx (nx st (XH j n) d' f n k) (XH e n) d u n k).t:=by
  funext x;cases e with
  |none=>rfl
  |some a=>
   cases j with
   |none=>rfl
   |some b=>simp only[XH];split<;>split<;>simp only[nx,upd];grind
 have v:(nx (nx st (XH e n) d u n k) (XH j n) d' f n k).s=(nx (nx st (XH j n) d' f n k) (XH e n) d u n k).s:=XmR h;have:∀(a b:St),a.t=b.t->a.s=b.s->a.n=b.n->a.k=b.k->a=b:=by rintro⟨_,_,_,_⟩ ⟨_,_,_,_⟩ g o p q;simp only at g o p q;subst g;subst o;subst p;subst q;rfl
 exact this _ _ ht v rfl rfl
def Kd.isDet:Kd->Bool
 |.det _ _ _=>true
 |_=>false
def JZ{ver:Nat}{o:Oper}{t:Nat->D}{s:Heap}{x:Kd}(h:kdE P C full ver o t s=some x)(e:x.isDet=false):Xbs o=true:=by
 have key:kdO P C ver o t s=some x->Xbs o=true:=by
  intro h;unfold kdO at h;unfold Xbs;split at h
  .simp_all
  unfold kd1 at h;split at h
  .simp at h;subst h;cases e
  simp_all
 unfold kdE at h;split at h
 .simp_all
 split at h
 .unfold kdG at h;split at h
  .rename_i b _;cases hb:(b==_)with
   |true=>rw[hb]at h;exact key h
   |false=>rw[hb]at h;simp at h;subst h;cases e
  .simp at h;subst h;cases e
  cases h
 simp_all
def XiY{e j:En}{F:St->Prop}(W:Xds e j=true)(h:KQ P C full k0 e st λst=>KQ P C full k0 j st F):KQ P C full k0 j st λst=>KQ P C full k0 e st F:=by
 unfold Xds at W;simp only[WH,Ip,bne_iff_ne,ne_eq,Option.isNone_iff_eq_none,WV,Ic]at W;have⟨⟨⟨⟨⟨⟨z,hem⟩,hjm⟩,hew⟩,hjw⟩,hdis⟩,hcc⟩:=W;have p:∀{u u':Up},KP u e.ws->KP u' j.ws->∀x∈u,∀y∈u',x.1≠y.1:=by
  intro u u' q g x hx y hy e';have J:=hdis x.1 (q x hx);have I:=g y hy;rw[←e']at I;have:j.ws.contains x.1=true:=by simpa using I
  rw[J]at this;cases this
 have vj:∀{d u},KP u e.ws->Zu j.ms (nx st (XH e.o.dst st.n) d u st.n st.k).t=Zu j.ms st.t/\YX j.mi (nx st (XH e.o.dst st.n) d u st.n st.k).s=YX j.mi st.s:=
  λq=>⟨XmP hem,XmQ q hew⟩
 have ve:∀{d u},KP u j.ws->Zu e.ms (nx st (XH j.o.dst st.n) d u st.n st.k).t=Zu e.ms st.t/\YX e.mi (nx st (XH j.o.dst st.n) d u st.n st.k).s=YX e.mi st.s:=
  λq=>⟨XmP hjm,XmQ q hjw⟩
 unfold KQ at h⊢;generalize A:kdE P C full (k0+e.i) e.o (Zu e.ms st.t) (YX e.mi st.s)=ke at h;generalize v:kdE P C full (k0+j.i) j.o (Zu j.ms st.t) (YX j.mi st.s)=L;cases ke with
 |none=>exact h.elim
 |some ke=>
  cases ke with
  |det c d u=>
   have⟨hc,q,h⟩:=h;have⟨N,O⟩:=vj (d:=d) q;dsimp only at h;rw[N,O,v]at h;cases L with
   |none=>assumption
   |some L=>
    cases L with
    |det c' d' u'=>
     have⟨Y,g,h⟩:=h;refine⟨Y,g,?_⟩;have⟨S,T⟩:=ve (d:=d') g;try dsimp only
     rw[S,T,A];refine⟨hc,q,?_⟩;have:=Xbt (st:=st) (e:=e.o.dst) (j:=j.o.dst) (n:=st.n) (k:=st.k) (d:=d) (d':=d') z (p q g);exact(congrArg F this).mp h
    |call c' f as ids obs fz=>
     have⟨Y,eargs,R,J,I,h3,G⟩:=h;refine⟨Y,eargs,R,J,I,h3,λr ls V=>?_⟩;have⟨g,h⟩:=G r ls V;refine⟨g,?_⟩;have⟨S,T⟩:=ve (d:=(aft (YX j.mi st.s) ids fz r ls (k0+j.i) (64*(C.off+j.o.dst.getD 0))).1) g;try dsimp only
     rw[S,T,A];refine⟨hc,q,?_⟩;have:=Xbt (st:=st) (e:=e.o.dst) (j:=j.o.dst) (n:=st.n) (k:=st.k) (d:=d) (d':=(aft (YX j.mi st.s) ids fz r ls (k0+j.i) (64*(C.off+j.o.dst.getD 0))).1) z (p q g);exact(congrArg F this).mp h
    |ro f' args'=>
     have⟨eargs,R,J,I,h3,G⟩:=h;refine⟨eargs,R,J,I,h3,λr ls V=>⟨(G r ls V).1,?_⟩⟩;have h:=(G r ls V).2;have g:KP [] j.ws:=λx hx=>by grind
     have⟨S,T⟩:=ve (d:=r) g;try dsimp only
     rw[S,T,A];refine⟨hc,q,?_⟩;have:=Xbt (st:=st) (e:=e.o.dst) (j:=j.o.dst) (n:=st.n) (k:=st.k) (d:=d) (d':=r) z (p q g);exact(congrArg F this).mp h
  |ro f args=>
   have hce:=JZ A rfl;have⟨eargs,R,J,I,⟨Z,B,H⟩,G⟩:=h;have q:KP [] e.ws:=λx hx=>by grind
   obtain⟨_,E⟩:=G Z B H;obtain⟨N,O⟩:=vj (d:=Z) q;dsimp only at E;rw[N,O,v]at E;cases L with
   |none=>assumption
   |some L=>
    cases L with
    |call c' f' as' ids' obs' fz'=>have hcj:=JZ v rfl;simp_all
    |ro f' args'=>have hcj:=JZ v rfl;simp_all
    |det c' d' u'=>
     refine⟨E.1,E.2.1,?_⟩;obtain⟨S,T⟩:=ve (d:=d') E.2.1;try dsimp only
     rw[S,T,A];refine⟨eargs,R,J,I,⟨Z,B,H⟩,λr ls V=>⟨(G r ls V).1,?_⟩⟩;have h:=(G r ls V).2;obtain⟨N,O⟩:=vj (d:=r) q;dsimp only at h;rw[N,O,v]at h;have:=Xbt (st:=st) (e:=e.o.dst) (j:=j.o.dst) (n:=st.n) (k:=st.k) (d:=r) (d':=d') z (p q E.2.1);exact(congrArg F this).mp h.2.2
  |call c f as ids obs fz=>
   have hce:=JZ A rfl;obtain⟨hc,eargs,R,J,I,⟨Z,B,H⟩,G⟩:=h;obtain⟨hu0,E⟩:=G Z B H;obtain⟨N,O⟩:=vj (d:=(aft (YX e.mi st.s) ids fz Z B (k0+e.i) (64*(C.off+e.o.dst.getD 0))).1) hu0;dsimp only at E;rw[N,O,v]at E;cases L with
   |none=>assumption
   |some L=>
    cases L with
    |call c' f' as' ids' obs' fz'=>have hcj:=JZ v rfl;simp_all
    |ro f' args'=>have hcj:=JZ v rfl;simp_all
    |det c' d' u'=>
     refine⟨E.1,E.2.1,?_⟩;obtain⟨S,T⟩:=ve (d:=d') E.2.1;try dsimp only
     rw[S,T,A];refine⟨hc,eargs,R,J,I,⟨Z,B,H⟩,λr ls V=>?_⟩;obtain⟨q,h⟩:=G r ls V;obtain⟨N,O⟩:=vj (d:=(aft (YX e.mi st.s) ids fz r ls (k0+e.i) (64*(C.off+e.o.dst.getD 0))).1) q;dsimp only at h;rw[N,O,v]at h;refine⟨q,?_⟩;have:=Xbt (st:=st) (e:=e.o.dst) (j:=j.o.dst) (n:=st.n) (k:=st.k) (d:=(aft (YX e.mi st.s) ids fz r ls (k0+e.i) (64*(C.off+e.o.dst.getD 0))).1) (d':=d') z (p q E.2.1);exact(congrArg F this).mp h.2.2
def Xcu{K:St->Prop}{j:En}{o:List En}:∀{f:List En} {st:St},(∀e∈f,Xds e j=true)->dr P C full k0 (f++j::o) st K->KQ P C full k0 j st λst=>dr P C full k0 (f++o) st K
 |[],st,_,h=>h
 |e::f,st,g,h=>by
  have q:KQ P C full k0 e st λst=>KQ P C full k0 j st λst=>dr P C full k0 (f++o) st K:=
   Xa6 (λst p=>Xcu (λx r=>g x (WT _ r)) p) h
  exact XiY (g e ac) q
end
variable {P:Program}
section
variable {s s':Heap}
mutual
def lend_le(f:HLe s s'):∀{d:D} {ls:List Nat}{r},lend s ls d=some r->lend s' ls d=some r
 |.ept id ver z i c,ls,r,h=>by
  unfold lend at h⊢;split at h
  .rename_i e;rw[f _ _ e];exact h
  simp_all
 |.agg g,ls,r,h=>by
  unfold lend at h⊢;split at h
  .rename_i e;rw[J4 f e];exact h
  simp_all
 |.tup g,ls,r,h=>by
  unfold lend at h⊢;split at h
  .rename_i e;rw[J4 f e];exact h
  simp_all
 |.ifc t d,ls,r,h=>by
  unfold lend at h⊢;split at h
  .rename_i e;rw[lend_le f e];exact h
  simp_all
 |.clo fn a b,ls,r,h=>by
  unfold lend at h⊢;split at h
  .rename_i e;rw[J4 f e];split at h
   .rename_i o;rw[J4 f o];exact h
   cases h
  simp_all
 |.osl id ver z off len,ls,r,h=>by
  unfold lend at h⊢;split at h
  .rename_i e;rw[snap_le f e];exact h
  simp_all
 |.any,ls,r,h=>by assumption
 |.v _,ls,r,h=>by assumption
 |.nsl,ls,r,h=>by assumption
 |.isl ..,ls,r,h=>by assumption
 |.ipt ..,ls,r,h=>by assumption
 |.fsl ..,ls,r,h=>by assumption
 |.fmp ..,ls,r,h=>by assumption
 |.omp ..,ls,r,h=>by assumption
def J4(f:HLe s s'):∀{e:List D} {ls:List Nat}{r},ZI s ls e=some r->ZI s' ls e=some r
 |[],ls,r,h=>by assumption
 |d::e,ls,r,h=>by
  unfold ZI at h⊢;split at h
  .rename_i g;rw[lend_le f g];simp only;split at h
   .rename_i o;rw[J4 f o];exact h
   cases h
  simp_all
end
def XcO{l f:List Nat}(h:Has s l)(g:Has s f):Has s (l++f):=λi e=>by
 rcases Wr.1 e with e|e
 .exact h i e
 exact g i e
mutual
def lend_has:∀{d:D} {ls:List Nat}{r},lend s ls d=some r->Has s r.2.2.2
 |.ept id ver z i c,ls,r,h=>by
  unfold lend at h;split at h
  .split at h
   .split at h<;>simp only[Wo]at h<;>subst h<;>intro i f<;>simp at f
   cases h
  simp_all
 |.agg g,ls,r,h=>by
  unfold lend at h;split at h
  .rename_i e;simp at h;subst h;exact Ja e
  simp_all
 |.tup g,ls,r,h=>by
  unfold lend at h;split at h
  .rename_i e;simp at h;subst h;exact Ja e
  simp_all
 |.ifc t d,ls,r,h=>by
  unfold lend at h;split at h
  .rename_i e;simp at h;subst h;have:=lend_has e;exact this
  simp_all
 |.clo fn a b,ls,r,h=>by
  unfold lend at h;split at h
  .rename_i e;split at h
   .rename_i o;simp at h;subst h;exact XcO (Ja e) (Ja o)
   cases h
  simp_all
 |.osl id ver z off len,ls,r,h=>by
  unfold lend at h;split at h
  .rename_i e;simp at h;subst h;exact snap_has e
  simp_all
 |.any,ls,r,h=>by
  unfold lend at h;split at h
  .rename_i e;simp at h;subst h;exact snap_has e
  simp_all
 |.v _,ls,r,h=>by
  unfold lend at h;split at h
  .rename_i e;simp at h;subst h;exact snap_has e
  simp_all
 |.nsl,ls,r,h=>by
  unfold lend at h;split at h
  .rename_i e;simp at h;subst h;exact snap_has e
  simp_all
 |.isl ..,ls,r,h=>by
  unfold lend at h;split at h
  .rename_i e;simp at h;subst h;exact snap_has e
  simp_all
 |.ipt ..,ls,r,h=>by
  unfold lend at h;split at h
  .rename_i e;simp at h;subst h;exact snap_has e
  simp_all
 |.fsl ..,ls,r,h=>by simp_all[lend,snap]
 |.fmp ..,ls,r,h=>by simp_all[lend,snap]
 |.omp ..,ls,r,h=>by simp_all[lend,snap]
def Ja:∀{e:List D} {ls:List Nat}{r},ZI s ls e=some r->Has s r.2.2.2
 |[],ls,r,h=>by simp only[ZI,Wo]at h;subst h;intro i o;simp_all
 |d::e,ls,r,h=>by
  unfold ZI at h;split at h
  .rename_i f;split at h
   .rename_i g;simp at h;subst h;exact XcO (lend_has f) (Ja g)
   cases h
  simp_all
end
def Xhf(e:HLe s s'):∀{ids:List Nat}{r},Jl s ids=some r->Jl s' ids=some r
 |[],r,h=>by assumption
 |id::ids,r,h=>by
  unfold Jl at h⊢;split at h
  .rename_i f;rw[e _ _ f];simp only;split at h
   .rename_i g o;rw[Jm e g,Xhf e o];exact h
   cases h
  simp_all
def Xe2:∀{ids:List Nat}{r},Jl s ids=some r->Has s r.2.2
 |[],r,h=>by simp only[Jl,Wo]at h;subst h;intro i g;simp_all
 |id::ids,r,h=>by
  unfold Jl at h;split at h
  .split at h
   .rename_i e f;simp at h;subst h;exact XcO (K8 e) (Xe2 f)
   cases h
  simp_all
def Xhg(e:HLe s s'){args:List D}{r}(h:Zf s args=some r):Zf s' args=some r:=by
 unfold Zf at h⊢;split at h
 .rename_i f;rw[J4 e f];simp only;split at h
  .rename_i g;rw[Xhf e g];exact h
  cases h
 simp_all
def XfX{args:List D}{g:Prop}{as:List D}{ids:List Nat}{obs:List Ob}{fz:List Nat}(h:Zf s args=some (g,as,ids,obs,fz)):Has s ids/\Has s fz:=by
 unfold Zf at h;split at h
 .rename_i f;split at h
  .rename_i o;obtain⟨_,_,rfl,_,rfl⟩:=h;refine⟨λid e=>?_,XcO (Ja f) (Xe2 o)⟩;have⟨v,E,z,q,fz,p⟩:=(Y7 f ⟨ac,ac⟩).2 id e;exact⟨_,p⟩
  cases h
 simp_all
def Xhh(e:HLe s s'):∀{ids:List Nat} {obs:List Ob},Has s ids->ZP s' ids obs=ZP s ids obs
 |[],obs,_=>by rfl
 |id::ids,[],_=>rfl
 |id::ids,o::obs,h=>by have⟨x,f⟩:=h id ac;have g:=Xhh e (ids:=ids) (obs:=obs) λi p=>h i (WT _ p);simp only[ZP,f,e _ _ f,g]
def Xsj(e:HLe s s'){ids fz:List Nat}(f:Has s ids)(g:Has s fz)(r:D)(ls:List Ob)(ver n:Nat):aft s' ids fz r ls ver n=aft s ids fz r ls ver n:=by unfold aft;rw[Xbp e g,Xhh e f]
def Xp8(mi:List Nat)(s:Heap):HLe (YX mi s) s:=by intro i x h;unfold YX at h;simp_all
end
def RelD(P:Program)(C:Cx)(U:Nat->Prop)(st:St)(a:Act)(w:World):Prop:=
 a.defers=C.df/\a.tmps.size=st.n/\∃M β,BLe C.b0 β/\(∀x,Rep P M β (st.t x) (a.tmps.getD x undef))/\U7 P C st.s U M β w
section
variable {C:Cx}{st:St}{a:Act}{w:World}{U:Nat->Prop}
def RelD.put{w':World}{u:Up}{U':Nat->Prop}{M':Mem}{β':Loc}{M:Mem}{β:Loc}{d:D}{v:Value}{dst:Option Nat}{z:Nat}(g:a.defers=C.df)(A:a.tmps.size=st.n)(h:BLe C.b0 β)(o:∀x,Rep P M β (st.t x) (a.tmps.getD x undef))(p:MLe M M')(f:BLe β β')(I:U7 P C (app st.s u) U' M' β' w')(B:Rep P M' β' d v):RelD P C U' (nx st (XH dst st.n) d u st.n z) (a.put dst v) w':=by
 cases dst with
 |none=>exact⟨g,A,M',β',h.trans f,λx=>(o x).mono p f,I⟩
 |some x=>
  by_cases q:x<st.n
  .simp only[XH,Wm q];refine⟨g,by simp_all[nx,Act.put],M',β',h.trans f,λi=>?_,I⟩;simp only[nx,upd,Act.put];by_cases r:i=x
   .simp_all
   rw[Wj r];have e:(a.tmps.setIfInBounds x v).getD i undef=a.tmps.getD i undef:=by simp[Ne.symm r]
   rw[e];exact(o i).mono p f
  simp only[XH,Wj q];refine⟨g,by simp_all[nx,Act.put],M',β',h.trans f,λi=>?_,I⟩;have e:a.put (some x) v=a:=by simp only[Act.put];rw[Array.setIfInBounds_eq_of_size_le ab]
  rw[e];exact(o i).mono p f
def RelD.drew(h:RelD P C U st a w)(k:Nat):RelD P C U st a {w with drawn:=k}:=by
 have⟨e,f,M,β,g,o,I⟩:=h;refine⟨e,f,M,β,g,o,?_⟩;constructor
 .exact I.mem
 .exact I.used
 .intro id v ob p;have⟨x,q,r⟩:=I.obs id v ob p;exact⟨x,q,r.mono (MLe.refl _) (BLe.refl _) (λ_ _ _=>rfl) (λ_ _ _ _=>rfl)⟩
 .exact I.own
 .exact I.inj
 .exact⟨I.keep.os,I.keep.tape,I.keep.output,I.keep.size,I.keep.block⟩
 .exact I.old
 .exact I.le
 exact I.glob
def XmS{full:Array Oper}{k0:Nat}{e:En}{F:St->Prop}{K:AW}{Q:Exit->AW}(hr:RelD P C U st a w)(hv:¬U (k0+e.i))(h:KQ P C full k0 e st F)(hK:∀Y a' w',RelD P C (λx=>U x\/x=k0+e.i) Y a' w'->F Y->K a' w'):if Region.wanted e.o (yielded full a.tmps)=true then e.o.wp P a w K Q else K (a.put e.o.dst undef) w:=by
 have⟨h1,h2,M,β,h0,h3,I⟩:=hr;have V:∀x,Rep P M β (Zu e.ms st.t x) (a.tmps.getD x undef):=λx=>by unfold Zu;grind[Rep]
 have E:=XbU I V;have H:=Xp8 e.mi st.s;have J:F (nx st (XH e.o.dst st.n) (.v undef) [] st.n st.k)->K (a.put e.o.dst undef) w:=λhF=>
  hK _ _ _ (RelD.put (u:=[]) h1 h2 h0 h3 (MLe.refl _) (BLe.refl _) (I.mono λ_ h=>.inl h) (by simp[Rep,XbZ])) hF
 have hrun:doK P C e (k0+e.i) (YX e.mi st.s) (kdO P C (k0+e.i) e.o (Zu e.ms st.t) (YX e.mi st.s)) (λd u=>F (nx st (XH e.o.dst st.n) d u st.n st.k))->e.o.wp P a w K Q:=by
  intro h;unfold kdO at h;split at h
  .rename_i c hc;have N:e.o.op=.call c:=by
    unfold ZM at hc;split at hc
    .grind
    grind
   unfold kd3 at h;split at h
   .rename_i f args p;unfold kd2 at h;split at h
    .rename_i cc as ids obs fz hca;replace hca:=Xls hca;have⟨hcc,eargs,R,Z,hA,_,O⟩:=h;unfold callee at p;split at p
     .rename_i x hx;split at p
      .rename_i g first caps L
       obtain⟨rfl,rfl⟩:=p;have z:=E x;rw[L]at z;have⟨va,vb,z,ha,hb⟩:=z;have⟨⟨fn,hf,W,hn⟩,_⟩:=id hA;unfold Oper.wp;rw[JU N hx z hf W hn w];have q:RepL P M β (first++(c.args.toList.map (ev (Zu e.ms st.t) C.G)++caps)) (va++(c.args.toList.map a.eval++vb)):=
        ha.append ((RepL.map E _).append hb)
       have⟨hh1,hh2⟩:=XfX hca;have hca':=Xhg H hca;refine(XjQ I (ver:=k0+e.i) hv q hca' hcc Z hA (64*(C.off+e.o.dst.getD 0))).mono ?_;rintro e' w' ⟨v,r,ls,M',β',rfl,hR,I',B,hM,hB⟩;have hbox:∀id∈ids,∃v o,st.s id=some (v,o):=λid hid=>by obtain⟨x,hx⟩:=hh1 id hid;exact⟨x.1,x.2,H _ _ hx⟩
       have⟨e1,e2⟩:=XmE st.s ids fz r ls (k0+e.i) (64*(C.off+e.o.dst.getD 0)) hbox;rw[←e1]at B;rw[←e2]at I';have ea:=Xsj H hh1 hh2 r ls (k0+e.i) (64*(C.off+e.o.dst.getD 0));rw[ea]at B I';exact hK _ _ _ (RelD.put h1 h2 h0 h3 hM hB I' B) (O r ls hR).2
      cases p
     simp_all
    have⟨eargs,R,hro,hA,_,O⟩:=h;unfold callee at p;split at p
    .rename_i x hx;split at p
     .rename_i g first caps L
      simp only[Wo,Wx]at p;obtain⟨rfl,rfl⟩:=p;have z:=E x;rw[L]at z;simp only[Rep]at z;obtain⟨va,vb,z,ha,hb⟩:=z;obtain⟨⟨fn,hf,W,hn⟩,_⟩:=id hA;unfold Oper.wp;rw[JU N hx z hf W hn w];rw[Oper.upon_enter];have q:RepL P M β (first++(c.args.toList.map (ev (Zu e.ms st.t) C.G)++caps)) (va++(c.args.toList.map a.eval++vb)):=
       ha.append ((RepL.map E _).append hb)
      obtain⟨M1,hM1,hm1,q⟩:=hro st.s U M β w _ H I q;refine(XpK I hM1 hm1 q hA (λr ls h=>(O r ls h).1)).mono ?_;rintro e' w' ⟨v,r,ls,rfl,hR,I',B⟩;exact hK _ _ _ (RelD.put (u:=[]) h1 h2 h0 h3 (MLe.refl _) (BLe.refl _) (I'.mono λ_ h=>.inl h) B) (O r ls hR).2
     cases p
    simp_all
   exact h.elim
  unfold kd1 at h;split at h
  .rename_i c d u N;obtain⟨hc,_,hF⟩:=h;have:=XmC I (ver:=k0+e.i) hv {e.o with dst:=Xg3 C.off e.o.dst} a.eval (ev (Zu e.ms st.t) C.G) E (λ_=>rfl) (Xr6 H N) hc;obtain⟨M',β',w',v,A,I',B,hM,hB⟩:=this;rw[Xg5]at A;have S:RelD P C (λx=>U x\/x=k0+e.i) (nx st (XH e.o.dst st.n) d u st.n st.k) (a.put e.o.dst v) w':=RelD.put h1 h2 h0 h3 hM hB I' B;unfold Oper.wp;rcases A with A|⟨A,rfl⟩
   .rw[A];exact hK _ _ _ S hF
   rw[A];exact hK _ _ _ S hF
  exact h.elim
 unfold KQ kdE at h;split at h
 .rename_i hg;have hw:Region.wanted e.o (yielded full a.tmps)=true:=by unfold Region.wanted;rw[hg]
  simp_all
 rename_i g want hg;split at h
 .rename_i r T;unfold kdG at h;split at h
  .rename_i b hb;have hval:a.tmps.getD r undef=.bool b:=by have:=V r;rw[hb]at this;simp only[Rep]at this;exact this.1
   have hy:yielded full a.tmps g=some b:=by
    unfold yielded;rw[T];simp only[Ol];by_cases hs:r<a.tmps.size
    .simp_all
    simp_all[hs,undef]
   have hw:Region.wanted e.o (yielded full a.tmps)=(b==want):=by unfold Region.wanted;rw[hg];simp only;rw[hy];rfl
   rw[hw];cases hbw:(b==want)with
   |true=>simp_all
   |false=>rw[hbw]at h;rw[Wj ac];exact J h.2.2
  .rename_i vs hb;have hval:a.tmps.getD r undef=.tuple vs:=by have:=V r;rw[hb]at this;simp only[Rep]at this;exact this.1
   have hy:yielded full a.tmps g=none:=by
    unfold yielded;rw[T];simp only[Ol];by_cases hs:r<a.tmps.size
    .simp_all
    simp_all
   have hw:Region.wanted e.o (yielded full a.tmps)=false:=by unfold Region.wanted;rw[hg];simp only;rw[hy];rfl
   rw[hw,Wj ac];exact J h.2.2
  exact h.elim
 exact h.elim
end
variable {P:Program}
def XjV(e:En):Bool:=e.o.after.toList.all λd=>!Region.binds .any d||d.on<e.i
def Xp9(f:List En)(e:En):Bool:=e.anc.all λx=>e.o.after.toList.any λd=>Region.binds .any d&&(d.on==x||((f[d.on]?).map (·.anc.contains x)).getD false)
def XrC(f:List En)(j:En):Bool:=f.all λe=>!(e.i<j.i)||j.anc.contains e.i||Xds e j
def XiZ(e:List En):Bool:=e.all XjV&&e.all (Xp9 e)&&e.all (XrC e)
def JH(m:Nat)(f:List En)(listed:Array Bool):List En:=f.filter λe=>decide (e.i<m)&&!listed.getD e.i true
def Xdt(m:Nat)(f:List En):Bool:=decide (m<=f.length)&&f.all λe=>decide (e.i<m)||(List.range m).all λy=>e.anc.contains y
section
variable {C:Cx}{ops:Array Oper}{k0:Nat}{es:List En}{Q:Exit->AW}{K:St->Prop}
def UD(k0:Nat)(listed:Array Bool):Nat->Prop:=λv=>v<k0\/∃i,listed.getD i false=true/\v=k0+i
def XmT(g:es.map (·.o)=ops.toList)(q:es.map (·.i)=List.range es.length){j:Nat}{o:Oper}(h:ops[j]? = some o):∃e,e∈es/\es[j]? = some e/\e.i=j/\e.o=o:=by
 have f:(es.map (·.o))[j]? = some o:=by rw[g];simpa using h
 simp at f;obtain⟨e,p,rfl⟩:=f;have r:(es.map (·.i))[j]? = some e.i:=by simp[p]
 grind
def Xdu(h:es.map (·.i)=List.range es.length){e:En}(f:e∈es):e.i<es.length/\es[e.i]? = some e:=by
 obtain⟨j,g,rfl⟩:=Wv f;have o:(es.map (·.i))[j]? = some es[j].i:=by simp[g]
 grind
def Xlt(e:es.map (·.i)=List.range es.length):es.Pairwise λa b=>a.i<b.i:=by have:=List.pairwise_lt_range (n:=es.length);grind
def Xdv(I:es.map (·.i)=List.range es.length)(h:∀e∈es,Xp9 es e=true){listed:Array Bool}(q:∀e∈es,listed.getD e.i false=true->∀x∈e.anc,listed.getD x false=true){e:En}(J:e∈es)(p:∀d∈e.o.after,Region.binds .any d=true->listed.getD d.on false=true):∀x∈e.anc,listed.getD x false=true:=by
 intro x L;have r:=h e J;unfold Xp9 at r;simp only[WV]at r;have E:=r x L;simp only[Om,WH,Ip,beq_iff_eq]at E;have⟨d,hd,hb,f⟩:=E;have G:listed.getD d.on false=true:=p d (by simpa using hd) hb;rcases f with rfl|f
 .exact G
 cases g:es[d.on]? with
 |none=>rw[g]at f;simp at f
 |some z=>
  rw[g]at f;have N:=W5 g;have v:z.i=d.on:=by
   have A:d.on<es.length:=by
    rcases Ux d.on es.length with B|B
    .exact B
    rw[WN B]at g;cases g
   have H:(es.map (·.i))[d.on]? = some z.i:=by simp[g]
   rw[I,List.getElem?_range A]at H;simpa using H.symm
  exact q z N (by rw[v];exact G) x (by simpa using f)
def Xsk(ho:es.map (·.o)=ops.toList)(hi:es.map (·.i)=List.range es.length)(hc:XiZ es=true){m r:Nat}(p:Xdt m es=true)(hQ:∀(listed:Array Bool)st a w,listed.size=es.length->(∀x,listed.getD x false=decide (x<m))->RelD P C (λv=>v<k0+m) st a w->K st->wpAny P .any ops Q r listed a w):
 ∀(fuel:Nat) (listed:Array Bool) (a:Act) (w:World) (st:St),(JH m es listed).length=fuel->listed.size=es.length->(∀x,m<=x->listed.getD x false=false)->RelD P C (UD k0 listed) st a w ->
  (∀e∈es,listed.getD e.i false=true->∀x∈e.anc,listed.getD x false=true)->dr P C ops k0 (JH m es listed) st K->wpAny P .any ops Q (r+fuel) listed a w:=by
 unfold XiZ at hc;simp at hc;have⟨⟨hedge,hanc⟩,hpair⟩:=hc;have B:=Xlt hi;unfold Xdt at p;simp only[WH,decide_eq_true_eq,WV,Ip,List.mem_range,UG]at p;have⟨hml,p⟩:=p;have getD_flip:∀(listed:Array Bool) (x:Nat),x<listed.size->(listed.getD x true=listed.getD x false):=by intro listed x g;simp[g]
 have es_i:∀j(h:j<es.length),es[j].i=j:=by
  intro j h;have q:(es.map (·.i))[j]? = some es[j].i:=by simp[h]
  rw[hi,List.getElem?_range h]at q;simpa using q.symm
 have done:∀{listed:Array Bool},listed.size=es.length->JH m es listed=[]->∀x,x<m->listed.getD x false=true:=by
  intro listed hs hn x g;cases E:listed.getD x false with
  |true=>rfl
  |false=>have:es[x]'ab∈JH m es listed:=WY.2 ⟨Wt _,by rw[es_i,getD_flip _ _ ab,E];simpa using g⟩;rw[hn]at this;cases this
 intro fuel;induction fuel with
 |zero=>
  intro listed a w st f G W hr hcl hd;have H:JH m es listed=[]:=WG f;rw[H]at hd;have hd1:=done G H;refine hQ listed st a w G (λx=>?_) ?_ hd
  .by_cases h:x<m
   .rw[hd1 x h,Wg h]
   rw[W x ab,We h]
  have⟨z,q,M,β,h0,h3,I⟩:=hr;refine⟨z,q,M,β,h0,h3,I.mono λv E=>?_⟩;rcases E with E|⟨i,Y,rfl⟩
  .exact I7 E (Nat.le_add_right _ _)
  rcases Ux i m with h|h
  .exact Nat.add_lt_add_left h _
  rw[W i h]at Y;cases Y
 |succ fuel ih=>
  intro listed a w st f G W hr hcl hd;refine⟨λH=>?_,λj hj=>?_⟩
  ·
   cases J:JH m es listed with
   |nil=>simp_all
   |cons e l=>
    have L:e∈JH m es listed:=by rw[J];simp
    have⟨he,A⟩:=WY.1 L;simp only[WH,decide_eq_true_eq]at A;have N:(JH m es listed).Pairwise λa b=>a.i<b.i:=B.filter _;rw[J,U8]at N;have⟨hlt,O⟩:=Xdu hi he;have hoe:ops[e.i]? = some e.o:=by
     have:(es.map (·.o))[e.i]? = some e.o:=by simp[O]
     rw[ho]at this;simpa using this
    have:e.i∈Region.ready .any ops listed:=by
     refine mem_ready.2 ⟨by simpa using A.2,e.o,hoe,λd hd hb=>?_⟩;have z:=hedge e he;unfold XjV at z;simp only[WV]at z;have q:=z d (by simpa using hd);simp only[hb,Wi,Iu,decide_eq_true_eq]at q;cases E:listed.getD d.on false with
     |true=>rfl
     |false=>
      have e1:=es_i d.on ab;have S:es[d.on]'ab∈JH m es listed:=by refine WY.2 ⟨Wt _,?_⟩;rw[e1,getD_flip _ _ ab,E];simp;omega
      rw[J]at S;rcases Ig.1 S with h|h
      .rw[h]at e1;omega
      have:=N.1 _ h;omega
    simp_all
  have⟨A,o,hoj,hall⟩:=mem_ready.1 hj;obtain⟨e,he,O,hei,rfl⟩:=XmT ho hi hoj;have hal:=Xdv hi hanc hcl he hall;have hjm:j<m:=by
   rcases Ux j m with h|h
   .exact h
   exfalso;have hno:JH m es listed=[]:=by
    refine List.filter_eq_nil_iff.2 λx g=>?_;have Z:=(Xdu hi g).1;by_cases hxm:x.i<m
    .have:=hal x.i ((p e he).resolve_left ab x.i hxm);rw[getD_flip _ _ ab,this];simp
    simp[hxm]
   rw[hno]at f;cases f
  have L:e∈JH m es listed:=WY.2 ⟨he,by rw[hei,A];simpa using hjm⟩;have⟨l1,l2,hsplit⟩:=List.append_of_mem L;have N:(JH m es listed).Pairwise λa b=>a.i<b.i:=B.filter _;rw[hsplit]at N;have⟨hs1,hs2,hs3⟩:=Og.1 N;rw[U8]at hs2;have T:j<listed.size:=ab;have hap:∀x∈l1,Xds x e=true:=by
   intro x g;have Z:x∈JH m es listed:=by rw[hsplit];exact WU _ g
   obtain⟨hxe,hxun⟩:=WY.1 Z;have hlt:x.i<e.i:=hs3 x g e ac;have z:=hpair e he;unfold XrC at z;simp only[WV]at z;have q:=z x hxe;simp only[hlt,decide_true,Wi,Iu,Ip]at q;rcases q with q|q
   .have Z:=hal x.i (by simpa using q);have:x.i<listed.size:=by rw[G];exact(Xdu hi hxe).1
    rw[getD_flip _ _ this,Z]at hxun;simp at hxun
   exact q
  rw[hsplit]at hd;have hst:=Xcu hap hd;have V:JH m es (listed.setIfInBounds j true)=l1++l2:=by
   have z:JH m es (listed.setIfInBounds j true)=(JH m es listed).filter λx=>x.i != j:=by
    unfold JH;rw[List.filter_filter];refine List.filter_congr λx g=>?_;by_cases hxj:x.i=j
    .rw[hxj];simp[T]
    rw[getD_set_ne true (Ne.symm hxj)];simp[hxj]
   rw[z,hsplit,IJ,List.filter_cons];have q:(e.i != j)=false:=by simp[hei]
   rw[q];have h3:l1.filter (λx=>x.i != j)=l1:=In.2 λx g=>by have:=hs3 x g e ac;simp;omega
   have h4:l2.filter (λx=>x.i != j)=l2:=In.2 λx g=>by have:=hs2.1 x g;simp;omega
   rw[h3,h4];simp
  have hnotU:¬UD k0 listed (k0+e.i):=by
   rintro(h|⟨i,Y,h⟩)
   .omega
   have:i=j:=ab;subst this;rw[getD_flip _ _ T,Y]at A;cases A
  have hone:=XmS (Q:=Q) (K:=wpAny P .any ops Q (r+fuel) (listed.setIfInBounds j true)) hr hnotU hst λst' a' w' hr' hF=>by
   refine ih (listed.setIfInBounds j true) a' w' st' ?_ (by simpa using G) (λx g=>by rw[getD_set_ne false ab];exact W x g) ?_ ?_ (by rw[V];exact hF)
   .rw[V];rw[hsplit]at f;simp at f⊢;omega
   .have⟨z,q,M,β,h0,h3,I⟩:=hr';refine⟨z,q,M,β,h0,h3,I.mono λv E=>?_⟩;rcases E with(E|⟨i,Y,rfl⟩)|rfl
    .exact .inl E
    .exact .inr ⟨i,getD_set_true Y,rfl⟩
    exact .inr ⟨j,by simp[T],by rw[hei]⟩
   intro y hy Y x g;by_cases hyj:y.i=j
   .have hye:y=e:=by have z:=(Xdu hi hy).2;rw[hyj,O]at z;simpa using z.symm
    subst hye;exact getD_set_true (hal x g)
   rw[getD_set_ne false (Ne.symm hyj)]at Y;exact getD_set_true (hcl y hy Y x g)
  unfold wpOp;grind
def Xhi(P:Program)(C:Cx)(x:Option (FuncId×List D))(dst:Option Nat)(st:St)(K:St->Prop)[Tag (C,dst,st,K)](_:Prf x):Prop:=match (generalizing:=false) x with
 |some (f,args)=>CallX P C f args dst st K trivial
 |none=>False
def XfY(P:Program)(C:Cx)(x:Option Call)(dst:Option Nat)(st:St)(K:St->Prop)[Tag (C,dst,st,K)](_:Prf x):Prop:=match (generalizing:=false) x with
 |some c=>Xhi P C (callee (ev st.t C.G) c) dst st K trivial
 |none=>False
def Xqa{st:St}{a:Act}{w:World}{o:Oper}{F:St->Prop}{K:AW}(N:Rel P C st a w)(h:XfY P C (ZM o.op) o.dst st F trivial)(hK:∀st a w,Rel P C st a w->F st->K a w):o.wp P a w K Q:=by
 have⟨O,S,M,β,H,J,I⟩:=N;have z:=XbU I J;unfold XfY at h;split at h
 .rename_i c L;have B:o.op=.call c:=by
   unfold ZM at L;split at L
   .grind
   grind
  unfold Xhi at h;split at h
  .rename_i f args p;have⟨⟨fn,T,E,V⟩,W⟩:=h;unfold callee at p;split at p
   .rename_i x Y;split at p
    .rename_i g first caps A
     obtain⟨rfl,rfl⟩:=p;have q:=z x;rw[A]at q;have⟨Z,vb,q,ha,hb⟩:=q;unfold Oper.wp;rw[JU B Y q T E V w];have r:RepL P M β (first++(c.args.toList.map (ev st.t C.G)++caps)) (Z++(c.args.toList.map a.eval++vb)):=
      ha.append ((RepL.map z _).append hb)
     refine(W M β w _ H I r).mono ?_;rintro e w' ⟨v,d,s',k',M',β',rfl,I',hv,hM,hB,hk⟩;exact hK _ _ _ (OD O S H J hM hB I' hv) hk
    cases p
   simp_all
  exact h.elim
 exact h.elim
def XjW(f:es.map (·.i)=List.range es.length):Xdt es.length es=true:=by unfold Xdt;simp only[WH,decide_eq_true_eq,WV,Ip];exact⟨Uh _,λe g=>.inl (Xdu f g).1⟩
def Xe3{l:List Oper}{listed:Array Bool}(v:listed.size=l.length)(h:∀x,listed.getD x false=decide (x<l.length)):Region.ready .any ⟨l⟩ listed=[]:=by
 refine List.eq_nil_iff_forall_not_mem.2 λj q=>?_;have⟨e,o,f,_⟩:=mem_ready.1 q;have r:j<l.length:=by
  rcases Ux j l.length with g|g
  .exact g
  simp[g]at f
 have:=h j;have p:j<listed.size:=ab;simp[p,r]at this e;rw[this]at e;cases e
def DrawnG.of{R:St->Prop}{id:Nat}{k:List It}{st:St}{l:List Oper}(N:P.follows .mixedOrders=true)(es:List En)(n:Nat)(J:es.map (·.o)=l)(B:es.map (·.i)=List.range es.length)(O:XiZ es=true)(h:dr P C ⟨l⟩ st.k es st λf=>run P C R n k ⟨f.t,f.s,f.n,st.k+es.length⟩)(t:Prf (⟨l⟩:Array Oper))(hrd:C.rd=none:=by rfl):DrawnG P C R id ⟨l⟩ k st t:=by
 intro a w S;rw[show fz C.rd=Fence.wide by rw[hrd];rfl];refine wpIn_wide.2 (wp_region_any N ?_);have g:es.length=l.length:=by rw[←J];simp
 have hrd:RelD P C (UD st.k (Array.replicate (⟨l⟩:Array Oper).size false)) st a {w with drawn:=w.drawn+1}:=by refine RelD.drew ?_ _;obtain⟨E,G,M,β,q,H,I⟩:=S;exact⟨E,G,M,β,q,H,I.mono λv T=>.inl T⟩
 have q:∀x,(Array.replicate (⟨l⟩:Array Oper).size false).getD x false=false:=λx=>by simp only[Array.getD_eq_getD_getElem?,Array.getElem?_replicate];split<;>rfl
 have p:JH es.length es (Array.replicate (⟨l⟩:Array Oper).size false)=es:=by unfold JH;refine In.2 λe L=>?_;have:=(Xdu B L).1;simp[g▸this,this]
 have:=Xsk (r:=0) (Q:=Jw (Zp P C R) (sem P C (Zp P C R) k)) (es:=es) (k0:=st.k) J B O (XjW B) ?_ _ _ a _ st (by rw[p]) (by simp[g]) (λx _=>q x) hrd (λe L A=>by rw[q]at A;cases A) (by rw[p];exact h)
 .rw[UE,g]at this;exact this
 rintro listed f V w' W A ⟨E,G,M,β,q,H,I⟩ hK;exact⟨Xe3 ab (g▸A),Yj n k (st:=⟨f.t,f.s,f.n,st.k+es.length⟩) ⟨E,G,M,β,q,H,I⟩ hK⟩
def Xlu{m:Nat}{q:En->Bool}(e:∀x∈es.take m,q x=true)(f:∀x∈es.drop m,q x=false):es.filter q=es.take m:=by
 have:es.filter q=(es.take m++es.drop m).filter q:=by rw[If]
 rw[this,IJ,In.2 e,List.filter_eq_nil_iff.2 (λx g=>by simp[f x g]),Ih]
def Xlv{m:Nat}{q:En->Bool}(e:∀x∈es.take m,q x=false)(f:∀x∈es.drop m,q x=true):es.filter q=es.drop m:=by
 have:es.filter q=(es.take m++es.drop m).filter q:=by rw[If]
 rw[this,IJ,In.2 f,List.filter_eq_nil_iff.2 (λx g=>by simp[e x g]),W8]
def Xqb(es:List En):Bool:=es.all λe=>e.anc.all λx=>decide (x<e.i)
def OU{R:St->Prop}{id:Nat}{k:List It}{st:St}{l:List Oper}(hm:P.follows .mixedOrders=true)(es:List En)(n m:Nat)(o:Oper)(ho:es.map (·.o)=l)(T:es.map (·.i)=List.range es.length)(A:(XiZ es&&(Xqb es&&(Xdt m es&&Xdt (m+1) es)))=true)(J:l[m]? = some o)(hgd:o.guard=none)(h:dr P C ⟨l⟩ st.k (es.take m) st λf=>XfY P C (ZM o.op) o.dst ⟨f.t,f.s,f.n,st.k+m⟩ (λp=>dr P C ⟨l⟩ p.k (es.drop (m+1)) p λf=>run P C R n k ⟨f.t,f.s,f.n,p.k+es.length⟩) trivial)(t:Prf (⟨l⟩:Array Oper))(hrd:C.rd=none:=by rfl):DrawnG P C R id ⟨l⟩ k st t:=by
 intro a w hr;rw[show fz C.rd=Fence.wide by rw[hrd];rfl];refine wpIn_wide.2 (wp_region_any hm ?_);simp only[WH]at A;obtain⟨A,B,hc1,V⟩:=A;have z:es.length=l.length:=by rw[←ho];simp
 have hml:m<l.length:=by
  rcases Ux m l.length with h'|h'
  .exact h'
  simp[h']at J
 have hrd:RelD P C (UD st.k (Array.replicate (⟨l⟩:Array Oper).size false)) st a {w with drawn:=w.drawn+1}:=by refine RelD.drew ?_ _;obtain⟨W,L,M,β,h0,h3,I⟩:=hr;exact⟨W,L,M,β,h0,h3,I.mono λv hv=>.inl hv⟩
 have h0:∀x,(Array.replicate (⟨l⟩:Array Oper).size false).getD x false=false:=λx=>by simp only[Array.getD_eq_getD_getElem?,Array.getElem?_replicate];split<;>rfl
 have es_i:∀j(h:j<es.length),es[j].i=j:=by
  intro j h;have L:(es.map (·.i))[j]? = some es[j].i:=by simp[h]
  rw[T,List.getElem?_range h]at L;simpa using L.symm
 have tk:∀{j},∀x∈es.take j,x.i<j/\x.i<es.length:=λ{j} x g=>by obtain⟨i,hi',rfl⟩:=List.mem_take_iff_getElem.1 g;rw[es_i];omega
 have dp:∀{j},∀x∈es.drop j,j<=x.i/\x.i<es.length:=λ{j} x g=>by obtain⟨i,hi',rfl⟩:=List.mem_drop_iff_getElem.1 g;rw[es_i];omega
 have N:JH m es (Array.replicate (⟨l⟩:Array Oper).size false)=es.take m:=
  Xlu (λx g=>by have:=tk x g;simp[this,←z]) (λx g=>by have:=dp x g;simp;intro h;omega)
 have O:∀e∈es,Xp9 es e=true/\XjV e=true:=by have A:=A;unfold XiZ at A;simp at A;exactλe E=>⟨A.1.2 e E,A.1.1 e E⟩
 have getD_flip:∀(listed:Array Bool) (x:Nat),x<listed.size->(listed.getD x true=listed.getD x false):=by intro listed x g;simp[g]
 have S:∀{listed:Array Bool} {j:Nat},(∀x,listed.getD x false=decide (x<j))->∀e∈es,listed.getD e.i false=true->∀x∈e.anc,listed.getD x false=true:=λ{listed j} hd e E h x g=>by unfold Xqb at B;simp only[WV,decide_eq_true_eq]at B;rw[hd,decide_eq_true_eq]at h⊢;have:=B e E x g;omega
 have hA:=Xsk (r:=l.length-m) (Q:=Jw (Zp P C R) (sem P C (Zp P C R) k)) (es:=es) (ops:=⟨l⟩) (k0:=st.k) ho T A hc1 ?_ _ _ a _ st (by rw[N]) (by simp[z]) (λx _=>h0 x) hrd (λe E J=>by rw[h0]at J;cases J) (by rw[N];exact h)
 .rw[Ws,Oa ab,Nat.sub_add_cancel ab]at hA;exact hA
 rintro listed f a' w' hs hd ⟨g1,g2,M,β,g0,g3,I⟩ hK;obtain⟨r',hr'⟩:∃r',l.length-m=r'+1:=⟨l.length-m-1,ab⟩
 rw[hr'];have hem:=es_i m ab;have hun:listed.getD m true=false:=by have:=hd m;have G:m<listed.size:=ab;simp[G]at this⊢;exact this
 have hoe:es[m]'ab∈es:=Wt _;have hgo:(es[m]'ab).o=o:=by
  have:(es.map (·.o))[m]? = some (es[m]'ab).o:=by simp[z,hml]
  rw[ho,J]at this;exact(Wz this).symm
 have hrm:m∈Region.ready .any ⟨l⟩ listed:=by refine mem_ready.2 ⟨hun,o,by simpa using J,λd hdd hb=>?_⟩;have W:=(O _ hoe).2;unfold XjV at W;simp only[WV,hgo]at W;have L:=W d (by simpa using hdd);simp only[hb,Wi,Iu,decide_eq_true_eq,hem]at L;rw[hd,Wg L]
 refine⟨λhn=>(by rw[hn]at hrm;cases hrm),λj hj=>?_⟩;have⟨hju,oj,hoj,Y⟩:=mem_ready.1 hj;obtain⟨e,E,hget,hei,rfl⟩:=XmT (ops:=⟨l⟩) ho T hoj;have hjl:=(Xdu T E).1;have hjm:j=m:=by
  have hd':listed.getD j false=false:=by have G:j<listed.size:=ab;simp[G]at hju⊢;exact hju
  rw[hd,Ix]at hd';rcases Ux m j with h'|h'
  .exfalso;unfold Xdt at V;simp only[WH,decide_eq_true_eq,WV,Ip,List.mem_range,UG]at V;have:=Xdv T (λe E=>(O e E).1) (S hd) E Y m ((V.2 e E).resolve_left ab m ab);rw[hd]at this;simp at this
  omega
 subst hjm;unfold wpOp;have e2:(⟨l⟩:Array Oper)[j]? = some o:=by simpa using J
 rw[e2];have hw:Region.wanted o (yielded (⟨l⟩:Array Oper) a'.tmps)=true:=by unfold Region.wanted;rw[hgd]
 simp only[hw,if_true];refine .inl (Xqa (st:=⟨f.t,f.s,f.n,st.k+j⟩) ⟨g1,g2,M,β,g0,g3,I⟩ hK λp a2 w2 ⟨f1,f2,M2,β2,f0,f3,I2⟩ hF=>?_);have Z:∀x,(listed.setIfInBounds j true).getD x false=decide (x<j+1):=λx=>by
  by_cases g:x=j
  .subst g;rw[Wg ab];have G:x<listed.size:=ab;simp[G]
  rw[getD_set_ne false (Ne.symm g),hd];congr 1;exact propext ⟨λh=>ab,λh=>ab⟩
 have H:JH es.length es (listed.setIfInBounds j true)=es.drop (j+1):=by
  have q:∀x:Nat,x<es.length->(listed.setIfInBounds j true).getD x true=decide (x<j+1):=λx g=>by rw[←Z];exact getD_flip _ _ ai
  exact Xlv (λx g=>by have:=tk x g;rw[q _ this.2];simp;omega) (λx g=>by have:=dp x g;rw[q _ this.2];simp;omega)
 have hB:=Xsk (r:=0) (Q:=Jw (Zp P C R) (sem P C (Zp P C R) k)) (es:=es) (ops:=⟨l⟩) (k0:=p.k) ho T A (XjW T) ?_ _ (listed.setIfInBounds j true) a2 w2 p (by rw[H]) (by simpa using hs) (λx g=>by rw[Z,We];omega) ⟨f1,f2,M2,β2,f0,f3,I2.mono λv hv=>.inl hv⟩ (S Z) (by rw[H];exact hF)
 .rw[WA,show 0+(es.length-(j+1))=r' by omega]at hB;exact hB
 rintro listed f a' w' hs J ⟨W,L,M,β,h0,h3,I⟩ hK;exact⟨Xe3 ab (z▸J),Yj n k (st:=⟨f.t,f.s,f.n,p.k+es.length⟩) ⟨W,L,M,β,h0,h3,I⟩ hK⟩
end
variable {P:Program}
def XtI:Nat->List Oper->List (List Nat×List Nat×List Nat×List Nat)->List En
 |i,o::l,(a,w,m,k)::x=>⟨i,o,a,w,m,k⟩::XtI (i+1) l x
 |_,_,_=>[]
def CallD(P:Program)(G:Nat->Option (List D))(f:FuncId)(args:List D)(obs:List Ob)(K:D->List Ob->Prop)[Tag (G,K)](_:Prf args):Prop:=
 ∃eargs R,ZZ args eargs/\YV P G f eargs obs R/\(∃r ls,R r ls)/\∀r ls,R r ls->K r ls
def doT(P:Program)(C:Cx)(e:En)(ver:Nat)(s:Heap)(x:Option Kd)(st:St)(F:St->Prop)[Tag (C,e,s,st,F)](_:Prf x):Prop:=
 doK P C e ver s x λd u=>F (nx st (XH e.o.dst st.n) d u st.n st.k)
def XrD(P:Program)(C:Cx)(s:Heap)(f:FuncId)(args:List D)(K:D->Prop)[Tag (C,s,K)](_:Prf args):Prop:=
 ∃eargs R,RoA P C s args eargs/\YV P C.G f eargs [] R/\(∃r ls,R r ls)/\∀r ls,R r ls->scal r=true/\K r
section
variable {C:Cx}{full:Array Oper}{k0:Nat}{st:St}{K F:St->Prop}{e:En}{es:List En}{ver:Nat}{s:Heap}
def Xsl:dr P C full k0 [] st K=K st:=propext Iff.rfl
def Xqc:dr P C full k0 (e::es) st K=doT P C e (k0+e.i) (YX e.mi st.s) (kdE P C full (k0+e.i) e.o (Zu e.ms st.t) (YX e.mi st.s)) st (λst=>dr P C full k0 es st K) trivial:=propext Iff.rfl
def Xqd{c:Prop}{d:D}{u:Up}{f:Prf (some (Kd.det c d u))}:doT P C e ver s (some (.det c d u)) st F f=(c/\KP u e.ws/\Xg4 (XH e.o.dst st.n) st.n st.k (λdst n k=>F (nx st dst d u n k)) trivial):=propext Iff.rfl
def XmU{c:Prop}{f:FuncId}{as:List D}{ids:List Nat}{obs:List Ob}{fz:List Nat}{g:Prf (some (Kd.call c f as ids obs fz))}:doT P C e ver s (some (.call c f as ids obs fz)) st F g=(c/\CallD P C.G f as obs (λr ls=>
 Xr7 (aft s ids fz r ls ver (64*(C.off+e.o.dst.getD 0))) (XH e.o.dst st.n) st.n st.k (λdst d u n k=>KP u e.ws/\F (nx st dst d u n k)) trivial) trivial):=propext Iff.rfl
def Xsm{f:FuncId}{args:List D}{g:Prf (some (Kd.ro f args))}:doT P C e ver s (some (.ro f args)) st F g=XrD P C s f args (λr=>Xg4 (XH e.o.dst st.n) st.n st.k (λdst n k=>F (nx st dst r [] n k)) trivial) trivial:=propext Iff.rfl
def Xsn{r:Nat}{x:Option Kd}:kdG (.v (.bool true)) r true x=x:=rfl
def Xso{r:Nat}{x:Option Kd}:kdG (.v (.bool false)) r false x=x:=rfl
def Xsp{r:Nat}{x:Option Kd}:kdG (.v (.bool true)) r false x=some (.det True (.v undef) []):=rfl
def Xsq{r:Nat}{x:Option Kd}:kdG (.v (.bool false)) r true x=some (.det True (.v undef) []):=rfl
def XtJ{r:Nat}{want:Bool}{x:Option Kd}{f:Array Value}:kdG (.v (.tuple f)) r want x=some (.det True (.v undef) []):=rfl
def XmV{dst:Option Nat}{op:Op}{ty:Nat}{pos:String}{af:Array Edge}{t:Nat->D}:kdE P C full ver ⟨dst,op,ty,pos,af,none⟩ t s=kdO P C ver ⟨dst,op,ty,pos,af,none⟩ t s:=rfl
def kdF(r:Option Nat)(t:Nat->D)(want:Bool)(x:Option Kd):Option Kd:=match r with
 |some r=>kdG (t r) r want x
 |none=>none
def XmW{r:Nat}{t:Nat->D}{want:Bool}{x:Option Kd}:kdF (some r) t want x=kdG (t r) r want x:=rfl
def XmX{dst:Option Nat}{op:Op}{ty:Nat}{pos:String}{af:Array Edge}{t:Nat->D}{g:Nat}{want:Bool}:kdE P C full ver ⟨dst,op,ty,pos,af,some (g,want)⟩ t s=kdF ((full[g]?).bind (·.dst)) t want (kdO P C ver ⟨dst,op,ty,pos,af,some (g,want)⟩ t s):=by rfl
def kdI(P:Program)(C:Cx)(x:Option Call)(ver:Nat)(o:Oper)(t:Nat->D)(s:Heap):Option Kd:=match x with
 |some c=>kd3 C.G s (callee (ev t C.G) c)
 |none=>kd1 (opF P (Xg3 C.off o.dst) ver (ev t C.G) s o.op)
def Xsr{o:Oper}{t:Nat->D}:kdO P C ver o t s=kdI P C (ZM o.op) ver o t s:=by rfl
def XmY{o:Oper}{t:Nat->D}:kdI P C none ver o t s=kd1 (opF P (Xg3 C.off o.dst) ver (ev t C.G) s o.op):=rfl
def XmZ{o:Oper}{t:Nat->D}{c:Call}:kdI P C (some c) ver o t s=kd3 C.G s (callee (ev t C.G) c):=rfl
def Xm0{c:Prop}{d:D}{u:Up}:kd1 (some (c,d,u))=some (.det c d u):=rfl
def Xm1{f:Nat}{args:List D}{g:Prop}{as:List D}{ids:List Nat}{obs:List Ob}{fz:List Nat}:kd2 f args (some (g,as,ids,obs,fz))=some (.call g f as ids obs fz):=rfl
def Xm2{f:Nat}{args:List D}:kd2 f args none=some (.ro f args):=rfl
def Xm3{G:Nat->Option (List D)}{f:Nat}{args:List D}:kd3 G s (some (f,args))=kd2 f args (XfW G f (Zf s args)):=rfl
def Xss{G:Nat->Option (List D)}{f:Nat}{α:Type}{x:Option α}(h:G (roK f)=none):XfW G f x=x:=by unfold XfW;simp_all
def Xst{G:Nat->Option (List D)}{f:Nat}{α:Type}{x:Option α}{y:List D}(h:G (roK f)=some y):XfW G f x=none:=by unfold XfW;simp_all
def Xlw{ws:List Nat}:KP [] ws=True:=by simp[KP]
def Xi0{i v:Nat}{o:Ob}{u:Up}{ws:List Nat}:KP ((i,v,o)::u) ws=(i∈ws/\KP u ws):=by simp[KP]
def Xm4{ms:List Nat}{t:Nat->D}{x:Nat}:Zu ms t x=if ms.contains x then .any else t x:=rfl
def Xm5{ms:List Nat}{x:Nat}:YX ms s x=if ms.contains x then none else s x:=rfl
def YN{b:Bool}{r:Nat}{x:Option Kd}(f:st.t r=.v (.bool b))(g:b=true->doT P C e ver s x (XaR st r (.v (.bool true))) F trivial)(h:b=false->doT P C e ver s (some (.det True (.v undef) [])) (XaR st r (.v (.bool false))) F trivial)(t':Prf (kdG (.v (.bool b)) r true x)):doT P C e ver s (kdG (.v (.bool b)) r true x) st F t':=by
 cases b
 .have:=h rfl;rw[Zm f]at this;exact this
 have:=g rfl;rw[Zm f]at this;exact this
def YO{b:Bool}{r:Nat}{x:Option Kd}(f:st.t r=.v (.bool b))(g:b=true->doT P C e ver s (some (.det True (.v undef) [])) (XaR st r (.v (.bool true))) F trivial)(h:b=false->doT P C e ver s x (XaR st r (.v (.bool false))) F trivial)(t':Prf (kdG (.v (.bool b)) r false x)):doT P C e ver s (kdG (.v (.bool b)) r false x) st F t':=by
 cases b
 .have:=h rfl;rw[Zm f]at this;exact this
 have:=g rfl;rw[Zm f]at this;exact this
def CallD.of{G:Nat->Option (List D)}{f:FuncId}{args eargs:List D}{obs:List Ob}{R K:D->List Ob->Prop}(h:YV P G f eargs obs R)(o:ZZ args eargs)(g:∃r ls,R r ls)(hK:∀r ls,R r ls->K r ls)(t':Prf args):CallD P G f args obs K t':=
 ⟨eargs,R,o,h,g,hK⟩
def Xlx{c:Call}{dst:Option Nat}{f:Prf (some c)}:XfY P C (some c) dst st K f=Xhi P C (callee (ev st.t C.G) c) dst st K trivial:=propext Iff.rfl
def Xi1{f:Nat}{args:List D}{dst:Option Nat}{g:Prf (some (f,args))}:Xhi P C (some (f,args)) dst st K g=CallX P C f args dst st K trivial:=propext Iff.rfl
end
def Xqe{ls:List Ob}:Jk ls 1000000=(ls[0]?).map (λo=>(0,o)):=Jn (j:=0)
def Xqf{ls:List Ob}:Jk ls 1000001=(ls[1]?).map (λo=>(0,o)):=Jn (j:=1)
def Xqg{ls:List Ob}:Jk ls 1000002=(ls[2]?).map (λo=>(0,o)):=Jn (j:=2)
def Xqh{ls:List Ob}:Jk ls 1000003=(ls[3]?).map (λo=>(0,o)):=Jn (j:=3)
def Xqi{ls:List Ob}:Jk ls 1000004=(ls[4]?).map (λo=>(0,o)):=Jn (j:=4)
def Xqj{ls:List Ob}:Jk ls 1000005=(ls[5]?).map (λo=>(0,o)):=Jn (j:=5)
attribute [go_sem] LB Xqe Xqf Xqg Xqh Xqi Xqj
attribute [go_sem ↓] Xsl Xqc XmV XmX Xsr
attribute [go_sem] Xlx Xi1 Xqd XmU Xsm Xm2 Xsn Xso Xsp Xsq XtJ XmW XmY XmZ Xm0 Xm1 Xm3 Xlw Xi0 Xm4 Xm5 XtI List.contains_cons List.contains_nil Bool.or_false Bool.or_true Iu Bool.true_or
variable {P:Program}
def XjX:Operand->Option Nat
 |.tmp x=>some x
 |_=>none
def rdO(full:Array Oper)(o:Oper):List Nat:=o.op.operands.toList.filterMap XjX++match o.guard with
 |some (g,_)=>((full[g]?).bind (·.dst)).toList
 |none=>[]
def mkS:Nat->List Oper->List (Nat×List Nat×List Nat)->List En
 |_,[],_=>[]
 |i,o::l,[]=>⟨i,o,[],[],[],[]⟩::mkS (i+1) l []
 |i,o::l,(j,w,k)::x=>if i=j then⟨i,o,[],w,[],k⟩::mkS (i+1) l x else⟨i,o,[],[],[],[]⟩::mkS (i+1) l ((j,w,k)::x)
def bits(n m:Nat):List Nat:=(List.range n).filter λi=>m / 2 ^ i % 2==1
def Xa7:List Oper->List Nat->List Nat
 |[],acc=>acc
 |o::l,acc=>Xa7 l (acc++[o.after.toList.foldl (λm d=>bif Region.binds .any d then m |||2 ^ d.on |||acc.getD d.on 0 else m) 0])
def unO(A:List Nat)(i j:Nat):Bool:=i != j&&(A.getD i 0 / 2 ^ j % 2==0&&A.getD j 0 / 2 ^ i % 2==0)
def mkF(l:List Oper)(A:List Nat)(aux:List (Nat×List Nat×List Nat)):List En:=(mkS 0 l aux).map λe=>{e with anc:=bits l.length (A.getD e.i 0),ms:=(List.range l.length).filterMap λj=>bif unO A e.i j then(l[j]?).bind (·.dst)else none}
def rdB(full:Array Oper)(e:En):Bool:=(rdO full e.o).all λx=>!e.ms.contains x
def XfZ(l:List Oper)(A:List Nat)(aux:List (Nat×List Nat×List Nat)):Bool:=XiZ (mkF l A aux)&&(mkF l A aux).all (rdB ⟨l⟩)
def XjY:∀{l:List Oper} {i:Nat} {aux:List (Nat×List Nat×List Nat)},(mkS i l aux).map (·.o)=l
 |[],_,_=>by simp[mkS]
 |o::l,i,[]=>by simp[mkS,XjY (l:=l)]
 |o::l,i,(j,w,k)::x=>by unfold mkS;split<;>simp[XjY (l:=l)]
def Xm6:∀{l:List Oper} {i:Nat} {aux:List (Nat×List Nat×List Nat)},(mkS i l aux).map (·.i)=List.range' i l.length
 |[],_,_=>by simp[mkS]
 |o::l,i,[]=>by simp[mkS,Xm6 (l:=l),List.range'_succ]
 |o::l,i,(j,w,k)::x=>by unfold mkS;split<;>simp[Xm6 (l:=l),List.range'_succ]
def Xqk{l:List Oper}{i:Nat}{aux:List (Nat×List Nat×List Nat)}:(mkS i l aux).length=l.length:=by have:=congrArg List.length (XjY (l:=l) (i:=i) (aux:=aux));simpa using this
def Xi2:∀{l:List Oper} {i:Nat} {aux:List (Nat×List Nat×List Nat)},∀e∈mkS i l aux,e.anc=[]/\e.ms=[]
 |[],_,_=>by simp[mkS]
 |o::l,i,[]=>by simpa [mkS]using Xi2 (l:=l)
 |o::l,i,(j,w,k)::x=>by unfold mkS;split<;>simpa using Xi2 (l:=l)
def Xsu{C:Cx}{t f:Nat->D}{x:Operand}(h:∀y,XjX x=some y->t y=f y):ev t C.G x=ev f C.G x:=by cases x<;>simp_all[ev,XjX]
def Xql{dst:Option Nat}{ver:Nat}{s:Heap}{t t':Operand->D}{op:Op}(h:∀x∈op.operands,t x=t' x):opF P dst ver t s op=opF P dst ver t' s op:=by
 have q:∀ps:Array (Nat×Operand),(∀x∈ps.toList.map (·.2),t x=t' x)->ps.toList.map (λp=>(p.1,t p.2))=ps.toList.map (λp=>(p.1,t' p.2)):=λps h=>IY λp hp=>by rw[h p.2 (WI.2 ⟨p,hp,rfl⟩)]
 have o:∀r:Option Operand,(∀x,r=some x->t x=t' x)->ivO t r=ivO t' r:=λr h=>by cases r<;>simp_all[ivO]
 cases op with
 |build T ps=>simp only[opF,q ps (by simpa [Op.operands]using h)]
 |buildSlice T n ps=>simp only[opF,q ps (by simpa [Op.operands]using h)]
 |makeMap T r=>simp only[opF,o r (by simpa [Op.operands]using h)]
 |slice T x l v m=>simp only[Op.operands,Array.mem_append,Array.mem_singleton,Option.mem_toArray]at h;simp only[opF,o l (λx g=>h x (.inl (.inl (.inr g)))),o v (λx g=>h x (.inl (.inr g))),o m (λx g=>h x (.inr g)),h x (.inl (.inl (.inl rfl)))]
 |call c=>
  have⟨f,⟨args⟩,types⟩:=c;cases f with
  |value f=>rfl
  |invoke r m=>rfl
  |builtin b=>have z:args.map t=args.map t':=IY λx g=>h x (by simpa [Op.operands,Call.operands]using g);cases b<;>first|rfl|simp only[opF,z]
 |_=>simp_all[opF,Op.operands]
section
variable {C:Cx}{full:Array Oper}{k0:Nat}{st:St}{K F:St->Prop}{t t':Nat->D}{s:Heap}{ver:Nat}{o:Oper}
def Xqm(h:∀x∈o.op.operands.toList.filterMap XjX,t x=t' x):kdO P C ver o t s=kdO P C ver o t' s:=by
 have g:∀x∈o.op.operands,ev t C.G x=ev t' C.G x:=λx q=>Xsu λy v=>h y (List.mem_filterMap.2 ⟨x,by simpa using q,v⟩);unfold kdO;cases p:ZM o.op with
 |none=>simp only[Xql g]
 |some c=>
  have e:o.op=.call c/\∃f,c.callee=.value f:=by
   unfold ZM at p;split at p
   .split at p
    .rename_i z _ _ A;simp at p;subst p;exact⟨z,_,A⟩
    cases p
   cases p
  obtain⟨e,f,r⟩:=e;rw[e]at g;simp only[Op.operands,Call.operands,r]at g;have B:c.args.toList.map (ev t C.G)=c.args.toList.map (ev t' C.G):=IY λx q=>g x (by simp at q⊢;exact .inr q);have E:=g f ac;simp only[callee,r,E,B]
def Xqn(h:∀x∈rdO full o,t x=t' x):kdE P C full ver o t s=kdE P C full ver o t' s:=by
 have f:kdO P C ver o t s=kdO P C ver o t' s:=Xqm λx p=>h x (WU _ p);unfold kdE;rw[f];split
 .rfl
 rename_i g want q;split
 .rename_i r v;rw[h r (Ui _ (by rw[q];simp[v]))]
 rfl
def Xi3{e:En}{anc ms:List Nat}(g:e.ms=[])(f:rdB full {e with anc:=anc,ms:=ms}=true)(h:KQ P C full k0 e st F):KQ P C full k0 {e with anc:=anc,ms:=ms} st F:=by
 unfold KQ at h⊢;have:kdE P C full (k0+e.i) e.o (Zu ms st.t) (YX e.mi st.s)=kdE P C full (k0+e.i) e.o (Zu e.ms st.t) (YX e.mi st.s):=Xqn λx p=>by unfold rdB at f;simp only[WV,Ic]at f;have:=f x p;unfold Zu;rw[g,this];simp
 show doK P C _ (k0+e.i) (YX e.mi st.s) (kdE P C full (k0+e.i) e.o (Zu ms st.t) (YX e.mi st.s)) _;rw[this];revert h;generalize kdE P C full (k0+e.i) e.o (Zu e.ms st.t) (YX e.mi st.s)=x;intro h;cases x with
 |none=>exact h
 |some x=>cases x<;>exact h
def XcP{f g:En->List Nat}:∀{es:List En} {st:St},(∀e∈es,e.ms=[]/\rdB full {e with anc:=f e,ms:=g e}=true)->dr P C full k0 es st K->dr P C full k0 (es.map λe=>{e with anc:=f e,ms:=g e}) st K
 |[],st,_,h=>h
 |e::es,st,p,h=>Xi3 (p e ac).1 (p e ac).2 (Xa6 (λst h=>XcP (λe h=>p e (WT _ h)) h) h)
def XjZ{K':St->Prop}(hK:∀st,K st->K' st):∀{es:List En} {st:St},dr P C full k0 es st K->dr P C full k0 es st K'
 |[],st,h=>hK _ h
 |e::es,st,h=>Xa6 (λst h=>XjZ hK h) h
def Xly{x:Option Call}{dst:Option Nat}{K':St->Prop}(hK:∀st,K st->K' st)(h:XfY P C x dst st K trivial):XfY P C x dst st K' trivial:=by
 cases x with
 |none=>exact h
 |some c=>
  unfold XfY Xhi at h⊢;simp only at h⊢;revert h;generalize callee (ev st.t C.G) c=x;intro h;cases x with
  |none=>exact h
  |some x=>exact⟨h.1,λM β w f g I p=>(h.2 M β w f g I p).mono λe w' ⟨v,d,s',q,M',β',r,z,A,B,E,H⟩=>⟨v,d,s',q,M',β',r,z,A,B,E,hK _ H⟩⟩
variable {R:St->Prop}{id:Nat}{k:List It}{l:List Oper}{aux:List (Nat×List Nat×List Nat)}
def Xj0{A:List Nat}(f:XfZ l A aux=true):XiZ (mkF l A aux)=true/\(mkF l A aux).map (·.o)=l/\(mkF l A aux).map (·.i)=List.range (mkF l A aux).length/\(mkF l A aux).length=l.length/\∀e∈mkS 0 l aux,e.ms=[]/\rdB ⟨l⟩ {e with anc:=bits l.length (A.getD e.i 0),ms:=(List.range l.length).filterMap λj=>bif unO A e.i j then(l[j]?).bind (·.dst)else none}=true:=by
 unfold XfZ at f;rw[WH,WV]at f;have g:(mkF l A aux).length=l.length:=by unfold mkF;rw[Ug,Xqk]
 refine⟨f.1,?_,?_,g,λe h=>⟨(Xi2 e h).2,f.2 _ (WI.2 ⟨e,h,rfl⟩)⟩⟩
 .unfold mkF;rw[IU];exact XjY
 rw[g,List.range_eq_range'];unfold mkF;rw[IU];exact Xm6
def DrawnG.auto(n:Nat)(g:P.follows .mixedOrders=true)(p:XfZ l (Xa7 l []) aux=true)(h:dr P C ⟨l⟩ st.k (mkS 0 l aux) st λf=>run P C R n k ⟨f.t,f.s,f.n,st.k+l.length⟩)(t:Prf (⟨l⟩:Array Oper))(hrd:C.rd=none:=by rfl):DrawnG P C R id ⟨l⟩ k st t:=by have⟨q,r,v,z,A⟩:=Xj0 p;exact DrawnG.of g _ n r v q (by rw[z];exact XcP A h) t hrd
def OQ(n m:Nat)(o:Oper)(A:P.follows .mixedOrders=true)(p:(XfZ l (Xa7 l []) aux&&(Xqb (mkF l (Xa7 l []) aux)&&(Xdt m (mkF l (Xa7 l []) aux)&&Xdt (m+1) (mkF l (Xa7 l []) aux))))=true)(B:l[m]? = some o)(q:o.guard=none)(h:dr P C ⟨l⟩ st.k ((mkS 0 l aux).take m) st λf=>XfY P C (ZM o.op) o.dst ⟨f.t,f.s,f.n,st.k+m⟩ (λg=>dr P C ⟨l⟩ g.k ((mkS 0 l aux).drop (m+1)) g λf=>run P C R n k ⟨f.t,f.s,f.n,g.k+l.length⟩) trivial)(t:Prf (⟨l⟩:Array Oper))(hrd:C.rd=none:=by rfl):DrawnG P C R id ⟨l⟩ k st t:=by rw[WH]at p;have⟨E,G,H,v,z⟩:=Xj0 p.1;refine OU A (mkF l (Xa7 l []) aux) n m o G H (by rw[E,p.2];rfl) B q ?_ t hrd;unfold mkF at v⊢;rw[v,←List.map_take];refine XcP (λe r=>z e (WQ r)) (XjZ (λf h=>?_) h);refine Xly (λg h=>?_) h;rw[←List.map_drop];exact XcP (λe r=>z e (WR r)) h
end
attribute [go_sem] mkS
attribute [go_sem ↓] XpO XmG XpP XmH Xr8 XmI XpQ XmJ Xli XmK Xlj Xlk XpR XmL XiS Xll Xg8 Xg9 Xlq
attribute [go_sem] Xha Xlm Xln Xlo Xlp XmM XpS XpT XiT XmN XiU XiV XiW Xhb Xhc Xhd XcN Xhe Xtv Xtw Xtx Xr9 Xty Xtz XtA XtB XtC Xsa XpV XtD XfU Xg3 XpU Xvi Xvj Xvk Xtt Xtu Xvl XtE XtF XtG XtH XfV Xdr XiX Xlr Jn Xsf Xsg Xsh Xsi
attribute [go_sem] Xdd XiF XfG XeH Xde Xdf XiG Option.isSome_some Option.isSome_none Option.isNone_some Option.isNone_none
attribute [go_sem] undef ZM callee opF ev ofV Xmn okV XH Xcr Xmo ivD ivO XfE JQ elems Ji Xdb Xdc Kl D.cells D.one Value.oneCell' OF.isAgg OF.isIface KS XeG XaZ Xa0 snap ZO VO Xbk XeF Zf ZI lend Jl pos ZP aft scal JT VT imp VK JW Xg7 XmF XiR shut Xct Xbq XpM Yf XfF Xs
attribute [go_sem] Ul IQ UA Il List.getElem?_cons_zero Ij List.getElem?_nil Ii Option.getD_none Ol UZ I9 Ie true_and and_true ne_eq false_implies Uh UE Ug WK W9 WL Int.toNat_natCast Wc Wa Wi Ub if_true if_false ite_true ite_false Ir List.isEmpty_nil List.isEmpty_cons Bool.and_true Bool.and_false Uf UK Ih W8 List.cons_append List.getD_cons_zero List.getD_cons_succ WX List.drop_succ_cons List.take_succ_cons Ou List.head?_cons List.headD_cons Oc List.all_nil IH List.set_cons_succ Ig List.not_mem_nil or_false or_true false_or not_false_eq_true not_true_eq_false List.nodup_nil Oq implies_true forall_const decide_true decide_false and_self Xsb Xsc XpW XpX XpY XpZ Xp0 Xp1 Xsd Xse Xp2 Xp3 Xp4 Xp5 Xp6 Xp7 List.replicate_succ List.replicate_zero
variable {P:Program}
def Xqo(n:Int):IntKind.wrap .i64 n=wI n:=rfl
def Xqp(n:Int):IntKind.wrap .u64 n=wU n:=rfl
def Xqq(n:Int):IntKind.wrap .u32 n=wW n:=rfl
section
variable {k k':IntKind}{a b:Int}{T:Nat}{p q:Bool}{xs ys:List D}
def Xm7:YU P .add T (.v (.int k a)) (.v (.int k b))=some (True,.v (.int k (k.wrap (a+b)))):=by simp[YU,VJ]
def Xm8:YU P .sub T (.v (.int k a)) (.v (.int k b))=some (True,.v (.int k (k.wrap (a-b)))):=by simp[YU,VJ]
def Xm9:YU P .mul T (.v (.int k a)) (.v (.int k b))=some (True,.v (.int k (k.wrap (a*b)))):=by simp[YU,VJ]
def Xna:YU P .quo T (.v (.int k a)) (.v (.int k b))=some (b≠0,.v (.int k (k.wrap (a.tdiv b)))):=by simp[YU,VJ]
def Xnb:YU P .rem T (.v (.int k a)) (.v (.int k b))=some (b≠0,.v (.int k (a.tmod b))):=by simp[YU,VJ]
def Xnc:YU P .and T (.v (.int k a)) (.v (.int k b))=some (True,.v (.int k (Y6 k a b))):=by simp[YU,VJ,Y6]
def Xqr:YU P .or T (.v (.int k a)) (.v (.int k b))=some (True,.v (.int k (bOr k a b))):=by simp[YU,VJ,bOr]
def Xnd:YU P .xor T (.v (.int k a)) (.v (.int k b))=some (True,.v (.int k (Xr0 k a b))):=by simp[YU,VJ,Xr0]
def Xhj:YU P .andNot T (.v (.int k a)) (.v (.int k b))=some (True,.v (.int k (XcM k a b))):=by simp[YU,VJ,XcM]
def Xne:YU P .eql T (.v (.int k a)) (.v (.int k b))=some (True,.v (.bool (a==b))):=by simp[YU,VJ]
def Xnf:YU P .neq T (.v (.int k a)) (.v (.int k b))=some (True,.v (.bool (a != b))):=by simp[YU,VJ]
def Xng:YU P .lss T (.v (.int k a)) (.v (.int k b))=some (True,.v (.bool (a<b))):=by simp[YU,VJ]
def Xnh:YU P .leq T (.v (.int k a)) (.v (.int k b))=some (True,.v (.bool (a<=b))):=by simp[YU,VJ]
def Xni:YU P .gtr T (.v (.int k a)) (.v (.int k b))=some (True,.v (.bool (a>b))):=by simp[YU,VJ]
def Xnj:YU P .geq T (.v (.int k a)) (.v (.int k b))=some (True,.v (.bool (a>=b))):=by simp[YU,VJ]
def Xnk:YU P .shl T (.v (.int k a)) (.v (.int k' b))=some (0<=b,.v (.int k (Ke k a b))):=by rfl
def Xnl:YU P .shr T (.v (.int k a)) (.v (.int k' b))=some (0<=b,.v (.int k (Yy k a b))):=by rfl
def isB:Option OF->Option (Prop×D)->Option (Prop×D)
 |some ⟨_,_,_,.bool⟩,x=>x
 |_,_=>none
def XtK{x y:Nat}{z:Value}{r:Option (Prop×D)}:isB (some ⟨x,y,z,.bool⟩) r=r:=rfl
def Xnm:YU P .eql T (.v (.bool p)) (.v (.bool q))=isB (Xm P T) (some (True,.v (.bool (p==q)))):=by simp only[YU];unfold isB;grind
def Xnn:YU P .neq T (.v (.bool p)) (.v (.bool q))=isB (Xm P T) (some (True,.v (.bool (!(p==q))))):=by simp only[YU];unfold isB;grind
def eqA(neg:Bool):Option (List (Option IntKind))->List D->List D->Option (Prop×D)
 |some f,xs,ys=>(Yf f xs ys).map λb=>(True,.v (.bool (bif neg then !b else b)))
 |none,_,_=>none
def Xno{neg:Bool}{f:List (Option IntKind)}:eqA neg (some f) xs ys=(Yf f xs ys).map λb=>(True,.v (.bool (bif neg then !b else b))):=rfl
def Xnp:YU P .eql T (.agg xs) (.agg ys)=eqA false (YJ P T) xs ys:=by
 simp only[YU];cases YJ P T with
 |none=>rfl
 |some f=>simp only[eqA];cases Yf f xs ys<;>rfl
def Xnq:YU P .neq T (.agg xs) (.agg ys)=eqA true (YJ P T) xs ys:=by
 simp only[YU];cases YJ P T with
 |none=>rfl
 |some f=>simp only[eqA];cases Yf f xs ys<;>rfl
end
def Xlz{c:Prop}[Decidable c]{x y:Option (Prop×D×Up)}{dst:Option Nat}{m j:Nat}{f:Option Nat->D->Up->Nat->Nat->Prop}{t':Prf (if c then x else y)}:Xcp (if c then x else y) dst m j f t'=(if c then Xcp x dst m j f trivial else Xcp y dst m j f trivial):=by grind
def Xqs{c:Prop}[Decidable c]{x y:Option (Prop×D×Up)}:kd1 (if c then x else y)=(if c then kd1 x else kd1 y):=by grind
def Xqt{C:Cx}{e:En}{ver:Nat}{s:Heap}{c:Prop}[Decidable c]{x y:Option Kd}{st:St}{F:St->Prop}{t':Prf (if c then x else y)}:doT P C e ver s (if c then x else y) st F t'=(if c then doT P C e ver s x st F trivial else doT P C e ver s y st F trivial):=by grind
def Xnr{α β:Type}{c:Prop}[Decidable c]{f:α->β}{x y:Option α}:Option.map f (if c then x else y)=if c then Option.map f x else Option.map f y:=by split<;>rfl
def XtL{c a b:Prop}[Decidable c](f:c->a)(g:¬c->b):if c then a else b:=by simp_all
def Eqs(e:D)(ls:List Ob)(d:D)(os:List Ob):Prop:=d=e/\os=ls
def Xsv{e:D}{ls:List Ob}:∃d os,Eqs e ls d os:=⟨_,_,rfl,rfl⟩
def YG{a b:Prop}(h:a)(f:b):a/\b:=⟨h,f⟩
def Xns{α:Type}{l:List α}{n:Nat}(h:l.length<=n):l.take n=l:=Uy h
def Xnt{C:Cx}{R:St->Prop}{c:Code}{k:List It}{st:St}{α β:Type}{o:Option α}{f:α->Option β}{r:β}{I:(α->Prop)->Nat->St->Prop}(z:bnd o f=some r)(m n:Nat)(A:∀g,o=some g->f g=some r->I (λy=>f y=some r) n st)(round:∀n st,I (λy=>f y=some r) n st->run P C R m (.code c::.stop (λh=>∃v,v<n/\I (λy=>f y=some r) v h)::k) st)(t':Prf c):LoopG P C R c k st t':=
 Xbj z λg B E=>LoopG.of (I (λy=>f y=some r)) m n (A g B E) round t'
def Xf0{α:Type}{x:α}{l:List α}{n:Nat}:List.take (1+n) (x::l)=x::List.take n l:=by grind
def CallG.ofE{G:Nat->Option (List D)}{f:FuncId}{args eargs:List D}{obs ls:List Ob}{e:D}{K:D->List Ob->Prop}(h:YV P G f eargs obs (Eqs e ls))(g:ZZ args eargs)(hK:K e ls)(t':Prf args):CallG P G f args obs K t':=
 CallG.of h g (λ_ _ ⟨r,v⟩=>r▸v▸hK) t'
def CallD.ofE{G:Nat->Option (List D)}{f:FuncId}{args eargs:List D}{obs ls:List Ob}{e:D}{K:D->List Ob->Prop}(h:YV P G f eargs obs (Eqs e ls))(g:ZZ args eargs)(hK:K e ls)(t':Prf args):CallD P G f args obs K t':=
 CallD.of h g Xsv (λ_ _ ⟨r,v⟩=>r▸v▸hK) t'
def ZJ{d e:D}{obs ls:List Ob}(h:fitsR d e/\obs=ls):RetG d obs (Eqs e ls):=⟨_,h.1,rfl,h.2⟩
def Xsw{a c:Nat}{b d:Ob}:(some (a,b)=some (c,d))=(a=c/\b=d):=by simp
def XtM{a b:D}{l m:List D}:(a::l=b::m)=(a=b/\l=m):=by simp
def Xsx{a b:List D}{l m:List (List D)}:(a::l=b::m)=(a=b/\l=m):=by simp
def Xsy{a b:Ob}{l m:List Ob}:(a::l=b::m)=(a=b/\l=m):=by simp
attribute [go_sem] fits ZZ fitsR Vn XtM Xsx Xsy Xsw D.osl.injEq D.ept.injEq Ob.arr.injEq exists_eq_left' exists_eq_left exists_eq exists_eq' exists_and_left exists_const or_self true_or or_true false_or or_false false_and and_false eq_self
attribute [go_sem] Xnr Xlz Xqs Xqt Xf0 Nat.sub_zero Xns Xqo Xqp Xqq Xm7 Xm8 Xm9 Xna Xnb Xnc Xqr Xnd Xhj Xne Xnf Xng Xnh Xni Xnj Xnk Xnl Xnm Xnn XtK Xno Xnp Xnq UI List.map_set List.map_take List.map_drop List.map_replicate
end Go.Sx
