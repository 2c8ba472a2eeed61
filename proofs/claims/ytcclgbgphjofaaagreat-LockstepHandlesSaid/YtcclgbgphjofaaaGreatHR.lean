import Derived.Maps.RangeRun
import Derived.ProofKit
import Derived.LaidMore
import Derived.OpenShut
import Derived.Stop.Joined
import Derived.ChangeSame
import Derived.Carry
import Derived.RangeFuncLeaves
import Derived.RangeFuncRecord
import Derived.RangeFuncIn
import Derived.Test.YtcclgbgphjofaaaGreatHB
set_option linter.all false
namespace Go.Sx
open Go.MapKept
variable {P:Program}{C:Cx}
def XcI{R:AW}{Q:St->Prop}{k2:List It}(g:∀st a w,Rel P C st a w->Q st->sem P C R k2 none a w):∀(k1:List Code) (e:Option Nat) (a:Act) (w:World),sem P C R (k1.map It.code++[.stop Q]) e a w->sem P C R (k1.map It.code++k2) e a w
 |[],none,a,w,h=>by have⟨st,l,f⟩:=h;grind
 |[],some i,a,w,h=>h.elim
 |c::k1,none,a,w,h=>by
  refine wpIn_mono h ?_;intro e j w' f;cases e with
  |normal=>exact XcI g k1 none j w' f
  |exit i=>exact XcI g k1 (some i) j w' f
  |_=>exact f
 |_::k1,some i,a,w,h=>XcI g k1 (some i) a w h
def Xdo:Nat->Code->List Code
 |n+1,.seq x y=>x::Xdo n y
 |_,c=>[c]
def Vu{R:AW}{k:List It}:∀(n:Nat) (c:Code) (e:Option Nat) (a:Act) (w:World),sem P C R ((Xdo n c).map It.code++k) e a w->sem P C R (.code c::k) e a w
 |0,c,e,a,w,h=>by assumption
 |n+1,.seq x y,none,a,w,h=>by
  refine wpIn_seq (wpIn_mono h ?_);intro e g w' f;cases e with
  |normal=>exact Vu n y none g w' f
  |exit i=>exact Vu n y (some i) g w' f
  |_=>exact f
 |n+1,.seq x y,some i,a,w,h=>Vu n y (some i) a w h
 |n+1,.region _ _ _,e,a,w,h=>h
 |n+1,.skip,e,a,w,h=>h
 |n+1,.cond _ _ _,e,a,w,h=>h
 |n+1,.block _ _,e,a,w,h=>h
 |n+1,.loop _,e,a,w,h=>h
 |n+1,.rangeFunc ..,e,a,w,h=>h
 |n+1,.exit _,e,a,w,h=>h
 |n+1,.scope _,e,a,w,h=>h
 |n+1,.label _,e,a,w,h=>h
 |n+1,.goto _,e,a,w,h=>h
 |n+1,.ret,e,a,w,h=>h
 |n+1,.refuse _,e,a,w,h=>h
def Xo8(w w':World):Prop:=(∀k,k<w.heap.size->w'.heap[k]? = w.heap[k]?)/\w.heap.size<=w'.heap.size/\w'.os=w.os/\w'.tape=w.tape/\w'.output=w.output
def Rel.same{st:St}{a f:Act}{w w':World}(q:Rel P C st a w)(hw:Xo8 w w')(hd:f.defers=C.df)(g:f.tmps.size=a.tmps.size){j:Nat->D}(ht:∀M β,(∀x,Rep P M β (st.t x) (a.tmps.getD x undef))->∀x,Rep P M β (j x) (f.tmps.getD x undef)):Rel P C ⟨j,st.s,st.n,st.k⟩ f w':=by
 have⟨A,r,M,β,u,y,I⟩:=q;have⟨g1,g2,g3,g4,g5⟩:=hw;refine⟨hd,g.trans r,M,β,u,ht M β y,?_⟩;have h:∀b o x,M b o=some x->b<w.heap.size:=λb o x e=>I.mem.lt e;constructor
 .intro b o x e;have:=I.mem b o x e;refine⟨?_,this.2⟩;rw[←this.1];simp[World.cell?,g1 b (h b o x e)]
 .exact I.used
 .intro id v ob g;have⟨x,e,l⟩:=I.obs id v ob g;refine⟨x,e,l.mono (MLe.refl _) (BLe.refl _) ?_ (λ_ _ _ _=>rfl)⟩;rintro b B rfl;exact g1 b l.lt
 .exact I.own
 .exact I.inj
 .exact⟨g3.trans I.keep.os,g4.trans I.keep.tape,g5.trans I.keep.output,Ii I.keep.size g2,λk p z=>by rw[g1 k (Nat.lt_of_lt_of_le p I.keep.size)];exact I.keep.block k p z⟩
 .exact I.old
 .exact I.le
 exact I.glob
open Go.RowKit Go.WideShapes Go.ChangeShapes
variable {P:Program}
def KY(w:World):Mem:=λb o=>match w.cell? ⟨b,o,none⟩with
 |some x=>bif x.oneCell' then some x else none
 |none=>none
def Xkv(w:World):MemOK (KY w) w:=by intro b o x h;unfold KY at h;grind
def Xkw{w:World}{b o:Nat}{x:Value}(h:w.cell? ⟨b,o,none⟩=some x)(e:x.oneCell'=true):KY w b o=some x:=by unfold KY;simp_all
def ShF(g:TypeId->List D->Prop):List TypeId->List D->Prop
 |[],e=>e=[]
 |f::h,e=>∃a b,e=a++b/\g f a/\ShF g h b
def Sh(P:Program):Nat->TypeId->List D->Prop
 |0,_,_=>False
 |m+1,t,f=>match P.underlying t with
  |some .bool=>∃b,f=[.v (.bool b)]
  |some (.int k)=>∃n,f=[.v (.int k n)]/\k.min<=n/\n<=k.max
  |some (.slice e)=>∃g,f=[.isl e (P.cellsOf e) g]/\g.length<=Xw/\g.length*P.bytesOf e<=Xw/\∀x∈g,Sh P m e x
  |some (.struct h)=>ShF (Sh P m) (h.toList.map (·.type)) f
  |_=>False
def V3(P:Program):Nat->List Field->Option Nat
 |n,[]=>some n
 |n,f::e=>if f.offset=n then V3 P (n+P.cellsOf f.type) e else none
def okS(P:Program):Nat->TypeId->Bool
 |0,_=>false
 |m+1,t=>match P.underlying t with
  |some .bool=>true
  |some (.int _)=>true
  |some (.slice e)=>decide (0<P.cellsOf e)&&decide (0<P.bytesOf e)&&okS P m e
  |some (.struct g)=>(V3 P 0 g.toList==some (P.cellsOf t))&&g.toList.all λf=>okS P m f.type
  |_=>false
def Xjb{j:TypeId->List D->Prop}(h:∀t e,j t e->∀d∈e,d.one=true):∀(g:List TypeId) (e:List D),ShF j g e->∀d∈e,d.one=true
 |[],e,l,d,hd=>by simp_all[ShF]
 |f::g,e,l,d,hd=>by
  obtain⟨a,b,rfl,p,o⟩:=l;rcases Ws.1 hd with hd|hd
  .grind
  exact Xjb h g b o d hd
def Xmo:∀(m:Nat) (t:TypeId) (e:List D),Sh P m t e->∀d∈e,d.one=true
 |0,_,_,h=>by simp_all[Sh]
 |m+1,t,e,h=>by
  unfold Sh at h;split at h
  .obtain⟨b,rfl⟩:=h;intro d hd;simp at hd;subst hd;rfl
  .obtain⟨n,rfl,_⟩:=h;intro d hd;simp at hd;subst hd;rfl
  .obtain⟨f,rfl,_⟩:=h;intro d hd;simp at hd;subst hd;rfl
  .exact Xjb (Xmo m) _ _ h
  simp_all
def XeJ{α β:Type}{g:α->Option β}:∀{l:List α} {e:List β},l.mapM g=some e->e.length=l.length/\∀(i:Nat)y,l[i]? = some y->∃x,g y=some x/\e[i]? = some x
 |[],e,h=>by simp_all
 |y::l,e,h=>by simp only[List.mapM_cons,Option.bind_eq_bind,Option.bind_eq_some_iff,Option.pure_def,Wq]at h;obtain⟨x,o,j,f,rfl⟩:=h;have⟨p,q⟩:=XeJ f;grind
def Xjc{α:Type}{p:Nat->α->Prop}:∀(n:Nat),(∀i,i<n->∃x,p i x)->∃l:List α,l.length=n/\∀(i:Nat)x,l[i]? = some x->p i x
 |0,_=>⟨[],rfl,λi x h=>by grind⟩
 |n+1,h=>by have⟨l,e,f⟩:=Xjc n λi g=>h i aa;have⟨x,j⟩:=h n aa;refine⟨l++[x],by simp[e],λi y o=>?_⟩;grind
def Xie{w:World}{base n:Nat}{a:Addr}{e:List Value}(h:w.cells? base a n=some e):e.length=n/\∀j,j<n->∃x,w.cell? (a.add j)=some x/\e[j]? = some x:=by
 unfold World.cells? at h;split at h
 .have⟨f,g⟩:=XeJ h;refine⟨by simpa using f,λj l=>g j j (by simp[l])⟩
 simp_all
def Xkx{w:World}{a:Addr}{x:Value}(h:w.cell? a=some x):a=⟨a.block,a.off,none⟩:=by
 have⟨b,o,s⟩:=a;cases s with
 |none=>rfl
 |some s=>unfold World.cell? at h;grind
variable {H:Type}{enc:TypeId×Value->H}
def Xrs{k:IntKind}{n:Int}(h:(Lit.int k n).wf=true):k.min<=n/\n<=k.max:=by simp_all[Lit.wf]
def Xdp{w:World}{base:Nat}{spare:Nat->Bool}{O:Bool}:∀(m:Nat) (t:TypeId),okS P m t=true->∀(fuel:Nat) (J:List Value) (d:DataW H) (ps:List MemPlace),
 DataW.trod enc P w base spare O fuel t J=some (d,ps)->(∀x∈d.weights P t,x<=reachBytes)->∃q,Sh P m t q/\RepL P (KY w) YH q J
 |0,t,I,_,_,_,_,_,_=>by simp_all[okS]
 |m+1,t,I,0,J,d,ps,h,_=>by simp_all[DataW.trod]
 |m+1,t,I,fuel+1,J,d,ps,h,hw=>by
  unfold okS at I;split at I
  ·
   rename_i B;obtain⟨b,rfl,_⟩:=DataW.trod_bool B h;exact⟨[.v (.bool b)],by simp[Sh,B],by simp[RepL,Rep,wfV]⟩
  ·
   rename_i k B;obtain⟨n,rfl,_,S⟩:=DataW.trod_int B h;have S:=Xrs S;exact⟨[.v (.int k n)],by simp only[Sh,B];exact⟨n,rfl,S⟩,by simp[RepL,Rep,wfV,S]⟩
  ·
   rename_i e B;simp at I;have⟨⟨hz,hby⟩,I⟩:=I;rcases DataW.trod_slice B h with⟨rfl,_⟩|⟨a,len,cap,elems,rest,n,S,rfl,hd,hb,hlc,hcm,l1,l2,_,_⟩
   .refine⟨[.isl e (P.cellsOf e) []],by simp[Sh,B],?_⟩;simp only[RepL,Rep];exact⟨_,_,rfl,⟨ab,ab,ab,none,0,rfl,Uu _,.inl trivial⟩,rfl⟩
   obtain rfl:fuel=n:=aa;obtain⟨rfl,_⟩:=hd;simp only[DataW.weights,B,UK,Us,Ws,forall_eq_or_imp]at hw;have⟨hw1,hw2⟩:=hw;have hbytes:len*P.bytesOf e<=reachBytes:=by refine Ii (Ui _ ?_) hw1;omega
   have hreach:reachBytes<=Xw:=ae;have hlen47:len<=Xw:=Ii (Nat.le_mul_of_pos_right _ hby) (Ii hbytes hreach);have key:∀i,i<len->∃q E,Sh P m e q/\RepL P (KY w) YH q E/\E.length=P.cellsOf e/\∀j,j<P.cellsOf e->∃x,w.cell? ((a.add (i*P.cellsOf e)).add j)=some x/\E[j]? = some x:=by
    intro i T;have A:=l2 i T;rw[Wb aa]at A;obtain⟨E,hvs,A⟩:=Option.bind_eq_some_iff.1 A;obtain⟨c1,c2⟩:=Xie hvs;have hwx:∀y∈(elems[i]).1.weights P e,y<=reachBytes:=by
     intro y K;refine hw2 y (.inl ?_);have u:(elems[i]).1∈elems.map (·.1):=WG.2 ⟨_,Wt _,rfl⟩;generalize elems.map (·.1)=L at u;induction L with
     |nil=>cases u
     |cons z L U=>
      simp only[DataW.weightsAll,Ws];rcases Us.1 u with rfl|u
      .exact .inl K
      exact .inr (U u)
    obtain⟨q,s1,s2⟩:=Xdp m e I fuel E _ _ A hwx;exact⟨q,E,s1,s2,c1,c2⟩
   rcases Ux len with rfl|V
   .refine⟨[.isl e (P.cellsOf e) []],by simp[Sh,B],?_⟩;simp only[RepL,Rep];exact⟨_,_,rfl,⟨ab,ab,ab,some a,cap,rfl,UY _,.inl trivial⟩,rfl⟩
   have hplain:a=⟨a.block,a.off,none⟩:=by obtain⟨_,_,_,_,_,c2⟩:=key 0 V;obtain⟨x,A,_⟩:=c2 0 hz;simp only[Nat.zero_mul,Addr.add,if_true]at A;exact Xkx A
   have⟨b,o,s⟩:=a;simp at hplain;subst hplain;have⟨W,e1,e2⟩:=Xjc (α:=List D) (p:=λi q=>∃E,Sh P m e q/\RepL P (KY w) YH q E/\E.length=P.cellsOf e/\∀j,j<P.cellsOf e->∃x,w.cell? (((⟨b,o,none⟩:Addr).add (i*P.cellsOf e)).add j)=some x/\E[j]? = some x) len (λi T=>by
    obtain⟨q,E,h⟩:=key i T;exact⟨q,E,h⟩)
   have elen:∀x∈W,x.length=P.cellsOf e:=by intro x A;obtain⟨i,T,rfl⟩:=Wv A;obtain⟨E,_,h2,h3,_⟩:=e2 i W[i] ab;rw[←h2.length,h3]
   refine⟨[.isl e (P.cellsOf e) W],?_,?_⟩
   .simp only[Sh,B];refine⟨W,rfl,aa,by rw[e1];omega,λx A=>?_⟩;obtain⟨i,T,rfl⟩:=Wv A;exact(e2 i W[i] ab).choose_spec.1
   refine⟨_,_,rfl,⟨elen,aa,by rw[e1];omega,some ⟨b,o,none⟩,cap,by rw[e1],aa,.inr ⟨b,o,rfl,?_⟩⟩,rfl⟩;refine RepE.of (z:=P.cellsOf e) elen λi x A=>?_;have⟨E,h1,h2,h3,h4⟩:=e2 i x A;refine RepC.of λj dd Y=>?_;have⟨y,K,hr⟩:=h2.get j dd Y;have hj:j<P.cellsOf e:=by
    rcases UM j E.length with h'|h'
    .omega
    rw[W3 h']at K;cases K
   have⟨y',Z,hy2⟩:=h4 j hj;rw[K]at hy2;obtain rfl:y=y':=by simpa using hy2
   refine⟨y,Xkw ?_ (Xc9 (Xmo m e x h1 dd (WW Y)) hr).1,hr⟩;rw[If,If]at Z;exact Z
  ·
   rename_i fs B;simp only[Wr,beq_iff_eq,WP]at I;have⟨hcon,hall⟩:=I;have⟨M,n,S,hd,hlen,G,hxs⟩:=DataW.trod_struct B h;obtain rfl:fuel=n:=aa;obtain⟨rfl,_⟩:=hd;have hw':∀x∈DataW.weightsEach P (fs.toList.map (·.type)) (M.map (·.1)),x<=reachBytes:=by simpa only[DataW.weights,B]using hw
   have mono:∀(l:List Field)n k,V3 P n l=some k->n<=k:=by
    intro l;induction l with
    |nil=>intro n k h;simp only[V3,Wq]at h;omega
    |cons g l U=>
     intro n k h;simp only[V3]at h;split at h
     .have:=U _ _ h;omega
     cases h
   have main:∀(l:List Field) (off:Nat) (M:List (DataW H×List MemPlace)),V3 P off l=some (P.cellsOf t)->(∀f∈l,okS P m f.type=true)->M.length=l.length ->
    (∀(i:Nat) (f:Field),l[i]? = some f->DataW.trod enc P w base spare O fuel f.type ((J.drop f.offset).take (P.cellsOf f.type))=M[i]?)->(∀x∈DataW.weightsEach P (l.map (·.type)) (M.map (·.1)),x<=reachBytes) ->
    ∃q,ShF (Sh P m) (l.map (·.type)) q/\RepL P (KY w) YH q (J.drop off):=by
    intro l
    induction l with
    |nil=>
     intro off M Q _ _ _ _
     simp only[V3,Wq]at Q
     refine⟨[],rfl,?_⟩
     rw[WN aa]
     simp[RepL]
    |cons f l U=>
     intro off M Q hok G A R
     simp only[V3]at Q
     split at Q
     .rename_i hoff
      match M,G with
      |x::xs',G=>
       simp only[UA,DataW.weightsEach,Ws]at R
       have hle2:=mono _ _ _ Q
       have hx1:=A 0 f ab
       simp only[List.getElem?_cons_zero]at hx1
       obtain⟨ds1,s1,r1⟩:=Xdp m f.type (hok f ab) fuel _ x.1 x.2 hx1 (λy K=>R y (.inl K))
       obtain⟨ds2,s2,r2⟩:=U (off+P.cellsOf f.type) xs' Q (λg hg=>hok g (WC _ hg)) (by simpa using G) (λi g hg=>by simpa using A (i+1) g (by simpa using hg)) (λy K=>R y (.inr K))
       refine⟨ds1++ds2,⟨ds1,ds2,rfl,s1,s2⟩,?_⟩
       have hsp:J.drop off=(J.drop f.offset).take (P.cellsOf f.type)++J.drop (off+P.cellsOf f.type):=by
        rw[hoff,←List.drop_drop,Ig]
       rw[hsp]
       exact r1.append r2
     .cases Q
   have⟨q,s,r⟩:=main fs.toList 0 M hcon hall (by simpa using G) (λi f hf=>hxs i f (by simpa using hf)) hw';exact⟨q,by simp only[Sh,B];exact s,by exact r⟩
  simp_all
open Go.RowKit Go.WideShapes Go.ChangeShapes
variable {P:Program}
def Xmp:KW []=YH:=by grind[KW,YH]
def Xr7{G:Nat->Option (List D)}{f:FuncId}{args:List D}(s:ZD P G f args [] (Eqs (.v (.bool true)) [])){W:World}{j:List Value}(t:∀g q,G g=some q->RepC P (KY W) q g 0)(o:RepL P (KY W) YH args j):Calls P f ⟨j⟩ W λe W'=>e=.returned (.bool true)/\Below W.heap.size W W':=by refine(s.2 (KY W) W j [] (Xkv W) t rfl List.nodup_nil (λk ob x h=>ab) (by simp_all[Xmp])).mono ?_;rintro e W' ⟨v,r,ls,M',l,rfl,⟨rfl,rfl⟩,hK,_,_,_,_,p,_⟩;have⟨_,rfl,_⟩:=p;exact⟨rfl,hK.os,hK.tape,hK.output,hK.size,λk u=>hK.block k u ab⟩
section
variable {H:Type}{enc:TypeId×Value->H}
def Xes{f:Func}{s:ChangeSpec}{apart fresh handsOn again:Bool}{W W':World}{args:Array Value}{v:Value}{o q:List (DataW H)}{before pa pv:List MemPlace}(x:DataW.Whole enc P f.params.toList s.vars apart W args.toList o q before)(h:∀(b:Nat) (sp:Nat->Bool) (hd:Bool),DataW.TrodAll enc P W' b sp hd f.resultTypes.toList (v.resultList f.resultTypes.size) (s.fn H (o++q)).results [])(e:∀sp:Nat->Bool,(∀p∈before,sp p.block=true)->DataW.TrodAll enc P W' 0 sp true f.params.toList args.toList (s.fn H (o++q)).args pa)(g:∀sp:Nat->Bool,(∀p∈before,sp p.block=true)->DataW.TrodVars enc P W' sp s.vars (s.fn H (o++q)).vars pv)(u:before=pa++pv)(hb:Below W.heap.size W W')(y:∀(j:Nat) (t:TypeId) (r:Value),f.resultTypes[j]? = some t->(v.resultList f.resultTypes.size)[j]? = some r->Value.okWide P W' .any 0 t r):
 s.post enc P f apart fresh handsOn again W args v W':=by
 have z:∀p∈before,p.block<W.heap.size:=λp hp=>x.lt p hp;have l:∀p∈before,(λb=>decide (b<W.heap.size)) p.block=true:=λp hp=>by simp_all
 refine⟨o,q,before,[],pa,pv,x,h _ _ _,e _ l,g _ l,World.keptBut_mono (λp hp=>⟨hp,?_⟩) (hb.frame (·∈before)),λ_=>?_⟩
 .simp_all
 have⟨_,_,_,_,_,A,B⟩:=x;refine⟨y,_,_,([]++pa)++pv,⟨[]++pa,pv,trodAll_append (e _ (λ_ _=>rfl)) (h _ _ _),g _ (λ_ _=>rfl),rfl,?_,?_⟩,?_⟩
 .intro b off hp;have w:MemPlace.cell b off∈before:=by rw[u];simpa using hp
  rw[hb.frozen (z _ w)];exact A b off w
 .intro D;have:=B D;rw[u]at this;exact this
 simp_all
def XaU{W W':World}(r:laidOutB P=true){sp:Nat->Bool}(hb:Below W.heap.size W W'):∀{j:List TypeId} {l:List Value} {o:List (DataW H)} {ps:List MemPlace},(∀t∈j,P.readableRec t=true/\t<P.types.size) ->
 DataW.TrodAll enc P W 0 (λ_=>true) true j l o ps->(∀x∈ps,x.block<W.heap.size)->(∀x∈ps,sp x.block=true)->DataW.TrodAll enc P W' 0 sp true j l o ps
 |[],[],[],ps,_,h,_,_=>h
 |[],[],_::_,_,_,h,_,_=>h.elim
 |[],_::_,_,_,_,h,_,_=>h.elim
 |_::_,[],_,_,_,h,_,_=>h.elim
 |_::_,_::_,[],_,_,h,_,_=>h.elim
 |t::j,v::l,d::o,ps,s,h,f,g=>by
  obtain⟨p,q,u,w,rfl⟩:=h;have⟨y,z⟩:=s t ab;exact⟨p,q,WideElems.Trod_stays r y z u (λx e=>hb.same (f x (WX _ e))) (λx e=>g x (WX _ e)),
   XaU r hb (λt ht=>s t (WC _ ht)) w (λx e=>f x (Uy _ e)) (λx e=>g x (Uy _ e)),rfl⟩
def Xsy{fn:Func}{s:ChangeSpec}{apart fresh handsOn again:Bool}{W W':World}{args:Array Value}{l o:List (DataW H)}{before:List MemPlace}{tb:TypeId}(y:s.vars=[])(e:fn.resultTypes=#[tb])(g:P.underlying tb=some .bool)(B:laidOutB P=true)(D:∀t∈fn.params.toList,P.readableRec t=true/\t<P.types.size)(z:DataW.Whole enc P fn.params.toList s.vars apart W args.toList l o before)(f:s.fn H (l++o)={results:=[.lit (.bool true)],args:=l})(A:Below W.heap.size W W'):
 s.post enc P fn apart fresh handsOn again W args (.bool true) W':=by
 have h:=z;obtain⟨p,q,E,j,rfl,G,I⟩:=z;rw[y]at j;match o,j with
 |[],j=>
  subst j;have r:∀x∈p++[],x.block<W.heap.size:=λx u=>h.lt x u;refine Xes (pa:=p) (pv:=[]) h ?_ (λsp w=>?_) (λsp _=>?_) rfl A ?_
  .intro b sp hd;rw[e,f];exact trodAll_mk1 (shut_bool g _)
  .rw[f];exact XaU B A D E (λx u=>r x (by simp_all)) (λx u=>w x (by simp_all))
  .rw[y,f];rfl
  exact ok_one e rfl (okWide_bool_mk g _)
end
def XgN{H:Type}{enc:TypeId×Value->H}{W:World}:∀{e:List TypeId} {g:List Value} {f:List (DataW H)} {ps:List MemPlace},DataW.TrodAll enc P W 0 (λ_=>true) true e g f ps->f.length=e.length
 |[],[],[],ps,_=>rfl
 |[],[],_::_,_,h=>h.elim
 |[],_::_,_,_,h=>h.elim
 |_::_,[],_,_,h=>h.elim
 |_::_,_::_,[],_,h=>h.elim
 |t::e,v::g,d::f,ps,h=>by have⟨p,q,_,j,_⟩:=h;simp[XgN j]
def Xrt{M:Mem}{v:Value}(e:v.cells=#[v]){d:D}(h:RepL P M YH [d] v.cells.toList):Rep P M YH d v:=by simp only[RepL]at h;simp_all
def Xr8{M:Mem}{W:World}{base:Nat}{t:TypeId}{a b e s:Nat}{z:Value}(ht:Xt P t=some ⟨a,b,z,.slice e s⟩){v:Value}(f:Value.okWide P W .any base t v){d:D}(h:RepL P M YH [d] v.cells.toList):Rep P M YH d v:=by obtain⟨_,_,_,rfl⟩:=okWide_slice (X9 ht).1 f;exact Xrt rfl h
def Xky{H:Type}{enc:TypeId×Value->H}{W:World}(m:Nat):∀{e:List TypeId} {g:List Value} {f:List (DataW H)} {ps:List MemPlace},(∀t∈e,okS P m t=true)->DataW.TrodAll enc P W 0 (λ_=>true) true e g f ps ->
 (∀x∈DataW.weightsEach P e f,x<=reachBytes)->∃dss:List (List D),dss.length=e.length/\g.length=e.length/\∀(i:Nat)t,e[i]? = some t->∃f v,dss[i]? = some f/\g[i]? = some v/\Sh P m t f/\RepL P (KY W) YH f v.cells.toList
 |[],[],[],ps,_,h,_=>⟨[],rfl,rfl,λi t h=>by grind⟩
 |[],[],_::_,_,_,h,_=>h.elim
 |[],_::_,_,_,_,h,_=>h.elim
 |_::_,[],_,_,_,h,_=>h.elim
 |_::_,_::_,[],_,_,h,_=>h.elim
 |t::e,v::g,d::f,ps,l,h,hw=>by obtain⟨p,q,⟨fuel,o⟩,r,rfl⟩:=h;simp only[DataW.weightsEach,Ws]at hw;have⟨s,w,y⟩:=Xdp m t (l t ab) fuel _ d p o (λx j=>hw x (.inl j));have⟨dss,g1,g2,g3⟩:=Xky m (λt ht=>l t (WC _ ht)) r (λx j=>hw x (.inr j));refine⟨s::dss,by simp[g1],by simp[g2],λi u z=>?_⟩;grind
variable {P:Program}
section
variable {C:Cx}{s:Heap}{U:Nat->Prop}{M:Mem}{β:Loc}{w:World}
def Ij.wide(I:Ij P C s U M β w){id v E z:Nat}{j:List (List D)}(hs:s id=some (v,.arr false E z j 0))(L:j≠[]):Ij P C (upd s id (some (v,.arr true E z j 0))) U M β w:=by
 have g:∀i f ob,upd s id (some (v,.arr true E z j 0)) i=some (f,ob)->∃e,s i=some (f,e)/\(ob=e\/(e=.arr false E z j 0/\ob=.arr true E z j 0)):=by
  intro i f ob h;by_cases O:i=id
  .simp_all[YO,Wq,Wy]
  simp_all[Yi,O]
 constructor
 .exact I.mem
 .exact I.used
 .intro i f ob h;have⟨e,l,G⟩:=g i f ob h;have⟨x,Q,p⟩:=I.obs i f e l;refine⟨x,Q,?_⟩;rcases G with rfl|⟨rfl,rfl⟩
  .omega
  cases x with
  |none=>simp_all[ObRep]
  |some bc=>have⟨R,T,k1,k2,S,V,W,Y,Z,k8,k9,q⟩:=p;refine⟨R,T,k1,k2,S,V,W,Y,Z,k8,k9,λi d hd=>?_⟩;have⟨y,hy,p⟩:=q i d hd;exact⟨y,hy,p.mono (MLe.refl _) (BLe.zero _)⟩
 .intro i f ob b r h hb;have⟨e,l,G⟩:=g i f ob h;rcases I.own i f e b r l hb with o|o
  .exact .inl o
  grind[Ob.bx]
 .intro i f ob J K t b r u h h' hb A;have⟨e,l,_⟩:=g i f ob h;have⟨B,o,_⟩:=g J K t h';exact I.inj i f e J K B b r u l o hb A
 .exact I.keep
 .exact I.old
 .exact I.le
 exact I.glob
end
def LoopG.v{C:Cx}{R:St->Prop}{c:Code}{k:List It}{st:St}{id v:Nat}(_:(st.s id).map (·.1)=some v)(h:∀w,w=v->LoopG P C R c k st trivial)(t:Prf c):LoopG P C R c k st t:=h v rfl
def LoopG.wide{C:Cx}{R:St->Prop}{c:Code}{k:List It}{st:St}{id v E z:Nat}{e:List (List D)}(g:st.s id=some (v,.arr false E z e 0))(f:e≠[])(h:LoopG P C R c k (nxS st none .any (upd st.s id (some (v,.arr true E z e 0))) st.n st.k) trivial)(t:Prf c):LoopG P C R c k st t:=by intro a w j;have⟨l,o,M,β,p,q,I⟩:=j;exact h a w ⟨l,o,M,β,p,q,I.wide g f⟩
def Gh(P:Program)(C:Cx)(Q:St->Prop)(st:St):Prop:=∃e,(∀a w,Rel P C st a w->Rel P C e a w)/\Q e
def Gh.no{C:Cx}{Q:St->Prop}{st:St}(h:Q st):Gh P C Q st:=⟨st,λ_ _ h=>h,h⟩
variable {P:Program}{C:Cx}
section
variable {s:Heap}{U:Nat->Prop}{M:Mem}{β:Loc}{w:World}
def Ij.newRaw(h:Ij P C s U M β w){ver:Nat}(u:¬U ver)(id:Nat)(o:Obj):
 Ij P C (upd s id (some (ver,.raw o))) (λv=>U v\/v=ver) M (ZJ β id ver (some (w.heap.size,0))) (w.alloc o)/\BLe β (ZJ β id ver (some (w.heap.size,0))):=by
 have r:BLe β (ZJ β id ver (some (w.heap.size,0))):=Zn (h.fresh u id);have e:∀o,M w.heap.size o=none:=by
  intro o;cases g:M w.heap.size o with
  |none=>rfl
  |some x=>exact absurd (h.mem.lt g) (IU _)
 have f:∀k,k≠w.heap.size->(w.alloc o).heap[k]? = w.heap[k]?:=by intro k z;show(w.heap.push _)[k]? = _;rw[Array.getElem?_push,Wg z]
 have j:(w.alloc o).heap[w.heap.size]? = some o:=World.alloc_heap_new w o;refine⟨h.set id ver (.raw o) w.heap.size 0 (MLe.refl M) r f (λ_ _ _=>rfl) ?_ (XP ..) ⟨rfl,e,j⟩ ?_ (.inl h.keep.size) ?_ rfl rfl rfl ?_ Zy,r⟩
 .intro o x g;rw[e o]at g;cases g
 .intro l A p q _ B g;have⟨y,t,D⟩:=h.obs l A p B;rw[g]at t;obtain rfl:some (w.heap.size,q)=y:=by simpa using t
  exact absurd D.lt (IU _)
 .intro E;exact absurd h.keep.size aa
 simp
def Ij.raw(h:Ij P C s U M β w){id ver b e:Nat}{o:Obj}(f:s id=some (ver,.raw o))(hb:β id ver=some (some (b,e))):e=0/\(∀i,M b i=none)/\w.heap[b]? = some o:=by
 have⟨x,j,g⟩:=h.obs id ver _ f;obtain rfl:some (b,e)=x:=by simp_all
 exact g
def Ij.putRaw(h:Ij P C s U M β w){id ver b x:Nat}{o:Obj}(f:s id=some (ver,.raw o))(hb:β id ver=some (some (b,x)))(o':Obj):
 Ij P C (upd s id (some (ver,.raw o'))) U M β (w.putObj b o'):=by
 obtain⟨rfl,y,z⟩:=h.raw f hb;have g:b<w.heap.size:=(Array.getElem?_eq_some_iff.1 z).1;have:=h.set (M':=M) (β':=β) (w':=w.putObj b o') id ver (.raw o') b 0 (MLe.refl M) (BLe.refl β) (λk A=>World.putObj_heap_other A) (λ_ _ _=>rfl) ?_ hb ⟨rfl,y,World.putObj_heap_same g⟩ ?_ (by have:=h.own id ver _ b 0 f hb;exact this) (λ_ _=>rfl) rfl rfl rfl ab (λ_ _ _ e=>.inl e)
 .exact this.mono λv u=>by
   rcases u with u|rfl
   .omega
   exact h.used id _ _ hb
 .simp_all
 intro j B l p q r t;exact q (h.inj j B l id ver _ b p 0 r f t hb)
end
@[reducible] def Cx.inR(C:Cx)(l:Nat)(x:Mem×Loc):Cx:=⟨C.G,C.M0,C.w0,C.lb,x.2,x.1,C.off,some l,[]⟩
@[reducible] def Cx.mk'(C:Cx)(b:Loc)(D:Nat):Cx:=⟨C.G,C.M0,C.w0,C.lb,b,C.M1,C.off,C.rd,[{target:=.collected D,args:=#[]}]⟩
def YieldX.of{args:List D}{dst:Option Nat}{st:St}{K:St->Prop}{l kr v:Nat}{r:Loop}{cA cB:Code}{p1 p2:Nat}{q B:D}(tO:Nat->D)(nO m:Nat)(hs:st.s kr=some (v,.raw (.loop r)))(Z:r.state=.ready)(hA:r.assign=cA)(hB:r.body=cB)(hps:r.params=#[p1,p2])(E:p1<nO)(hp2:p2<nO)(u:args=[q,B])(hb:C.b0 kr v=some (some (l,0)))(y:r.tmps.size=nO)(hO:∀x,Rep P C.M1 C.b0 (tO x) (r.tmps.getD x undef))(h:∀x,run P (C.inR l x) (λ_=>False) m [.code cA,.stop λf=>f.s kr=some (v,.raw (.loop r)) /\
  run P (C.inR l x) (λsc=>sc.s kr=some (v,.raw (.loop {r with state:=.busy}))/\K (nxS st (XX dst st.n) (.v (.bool false)) (upd sc.s kr (some (v,.raw (.loop {r with state:=.done,pending:=some .ret})))) st.n sc.k)) m
   [.code cB,.stop λsc=>sc.s kr=some (v,.raw (.loop {r with state:=.busy}))/\K (nxS st (XX dst st.n) (.v (.bool true)) (upd sc.s kr (some (v,.raw (.loop {r with state:=.ready,pending:=none})))) st.n sc.k)]
   ⟨f.t,upd f.s kr (some (v,.raw (.loop {r with state:=.busy}))),f.n,f.k⟩] ⟨upd (upd tO p1 q) p2 B,st.s,nO,st.k⟩)(t:Prf args):YieldX P C l args dst st K t:=by
 intro M β w vs Y I G;subst u;obtain⟨j,_,rfl,hr1,L,_,rfl,hr2,rfl⟩:=G;have hl:=(I.raw hs (Y _ _ _ hb)).2.2;refine⟨r.fn,_,r.assign,r.body,run_yield hl (by simp_all),roundIn_of_wpIn trivial ?_⟩;have A:Rel P (C.inR l (M,β)) ⟨upd (upd tO p1 q) p2 B,st.s,nO,st.k⟩ ((({tmps:=r.tmps,defers:=[]}:Act).put (some p1) j).put (some p2) L) w:=by
  have hb:∀x,Rep P M β (tO x) (r.tmps.getD x undef):=λx=>(hO x).mono I.le Y;have hI:Ij P (C.inR l (M,β)) st.s (·<st.k) M β w:=⟨I.mem,I.used,I.obs,I.own,I.inj,I.keep,I.old,MLe.refl M,λg cs hg=>RepC.mono I.le (I.glob g cs hg)⟩
  have h1:=OH (C:=C.inR l (M,β)) (st:=⟨tO,st.s,nO,st.k⟩) (a:={tmps:=r.tmps,defers:=[]}) (dst:=some p1) (d:=q) (v:=j) rfl y (BLe.refl β) hb (MLe.refl M) (BLe.refl β) hI hr1;simp only[XX,Wj E,nxS]at h1;have O:(({tmps:=r.tmps,defers:=[]}:Act).put (some p1) j).tmps.size=nO:=by simpa [Act.put]using y
  have hb1:∀x,Rep P M β (upd tO p1 q x) ((({tmps:=r.tmps,defers:=[]}:Act).put (some p1) j).tmps.getD x undef):=λx=>by
   have e:(({tmps:=r.tmps,defers:=[]}:Act).put (some p1) j).tmps.getD x undef=if x=p1 then j else r.tmps.getD x undef:=by
    simp only[Act.put];by_cases hy:x=p1
    .subst hy;rw[Wj rfl];simp[y,E]
    rw[Wg hy];simp[Ne.symm hy]
   rw[e];unfold upd;grind
  have h2:=OH (C:=C.inR l (M,β)) (st:=⟨upd tO p1 q,st.s,nO,st.k⟩) (a:=({tmps:=r.tmps,defers:=[]}:Act).put (some p1) j) (dst:=some p2) (d:=B) (v:=L) rfl O (BLe.refl β) hb1 (MLe.refl M) (BLe.refl β) hI hr2;simpa only[XX,Wj hp2,nxS]using h2
 have Q:Rel P (C.inR l (M,β)) ⟨upd (upd tO p1 q) p2 B,st.s,nO,st.k⟩ {tmps:=(r.params.zip #[j,L]).foldl (λtmps (t,a)=>tmps.setIfInBounds t a) r.tmps,defers:=[]} w:=by rw[hps,show(#[p1,p2].zip #[j,L])=#[(p1,j),(p2,L)] by simp];exact A
 rw[hA,hB];refine wpIn_mono (YJ m _ Q (h (M,β))) ?_;intro e a1 w1 o;cases e with
 |normal=>
  have⟨f,⟨g1,g2,M1,β1,g0,g3,J⟩,R,S⟩:=o;have T:=g0 _ _ _ (Y _ _ _ hb);have hl1:=(J.raw R T).2.2;refine⟨_,run_beginRound hl1 Z,?_⟩;refine wpIn_mono (YJ m _ (st:=⟨f.t,upd f.s kr (some (v,.raw (.loop {r with state:=.busy}))),f.n,f.k⟩) ⟨g1,g2,M1,β1,g0,g3,J.putRaw R T _⟩ S) ?_;intro e a2 w2 o;have fin:∀(jump:Option Code) (sc:St),Rel P (C.inR l (M,β)) sc a2 w2->sc.s kr=some (v,.raw (.loop {r with state:=.busy})) ->
   K (nxS st (XX dst st.n) (.v (.bool jump.isNone)) (upd sc.s kr (some (v,.raw (.loop {r with state:=if jump.isNone then .ready else .done,pending:=jump})))) st.n sc.k) ->
   ∃v' w',(Instr.endRound l jump).run P w2=.ok v' w'/\∃v d s' k' M' β',Ending.returned v'=.returned v/\Ij P C s' (·<k') M' β' w'/\Rep P M' β' d v/\MLe M M'/\BLe β β'/\K (nxS st (XX dst st.n) d s' st.n k'):=by
   rintro jump sc ⟨k1,k2,M2,β2,k0,k3,J2⟩ V W
   have p:=k0 _ _ _ (Y _ _ _ hb)
   have hl2:=(J2.raw V p).2.2
   refine⟨_,_,run_endRound jump hl2,_,.v (.bool jump.isNone),_,sc.k,M2,β2,rfl,?_,by simp[Rep,wfV],J2.le,k0,W⟩
   have J3:=J2.putRaw V p (.loop {r with state:=if jump.isNone then .ready else .done,pending:=jump})
   exact⟨J3.mem,J3.used,J3.obs,J3.own,J3.inj,J3.keep,J3.old,I.le.trans J3.le,I.glob⟩
  cases e with
  |normal=>have⟨sc,G,hc,W⟩:=o;exact fin none sc G hc W
  |ret=>have⟨sc,G,hc,W⟩:=o;exact fin (some .ret) sc G hc W
  |exit id=>exact o.elim
  |_=>exact o.elim
 |ret=>have⟨_,_,hf⟩:=o;assumption
 |exit id=>assumption
 |_=>exact o.elim
def Xsz(FN FR:Loop->St->Prop)(e v:Nat)(st:St):Prop:=
 ∃r:Loop,st.s e=some (v,.raw (.loop r))/\r.state≠.busy/\((r.pending=none/\FN r st)\/(r.pending=some .ret/\FR r st))
def Xru{a:Act}{w:World}{st:St}{R:AW}{k:List It}{g:Operand}{ps:Array Tmp}{cA cB:Code}(hrd:C.rd=none)(hdf:C.df=[])(hr:Rel P C st a w){gf:FuncId}{caps:List D}(hg:ev st.t C.G g=.clo (.func gf) [] caps)(j kd:Nat)(hne:j≠kd){fn:Func}{nt:Nat}(z:(P.funcs[gf]?,fn.body,fn.name== "runtime.NumGoroutine",fn.results,fn.ntmps,(caps.length+1).ble nt)=(some fn,some (fn.body.get!),false,⟨[]⟩,nt,true))(off m:Nat)(h:∀(l D:Nat) (r:Loop) (x:Mem×Loc),r.state=.ready->r.pending=none->r.params=ps->r.assign=cA->r.body=cB->r.tmps.size=st.n->x.2 j (st.k+1)=some (some (l,0))->x.2 kd st.k=some (some (D,0)) ->
  (∀y,Rep P x.1 x.2 (st.t y) (r.tmps.getD y undef))->BLe C.b0 x.2 ->
  run P (C.sub off x) (Xsz
      (λq f=>∀p w',Rel P (C.mk' x.2 D) ⟨st.t,upd f.s j (some (st.k+1,.raw (.loop {q with state:=.exhausted}))),st.n,f.k⟩ p w'->sem P C R k none p w')
      (λq f=>∀p w',Rel P (C.mk' x.2 D) ⟨st.t,upd f.s j (some (st.k+1,.raw (.loop {q with state:=.exhausted}))),st.n,f.k⟩ p w'->R p w') j (st.k+1)) m
   [.code (fn.body.get!)] (stI (.clo (.yield l) [] []::caps) (upd (upd st.s kd (some (st.k,.raw (.deferred (some []))))) j (some (st.k+1,.raw (.loop r)))) nt (st.k+2))):
 (Code.rangeFunc g ps cA cB).wpIn (fz C.rd) 0 P (VZ R (sem P C R k)) a w:=by
 injection z with L z;injection z with hb z;injection z with hn z;injection z with hrs z;injection z with hnt u;have u:=Ol u;have⟨h1,h2,M,β,h0,h3,I⟩:=hr;have A:=Xde I h3 g;rw[hg]at A;have⟨_,O,A,rfl,K⟩:=A;refine wpIn_rangeFunc ?_;intro fi _;rw[show(fz C.rd).round=none from hrd];have⟨r,E⟩:∃r:Loop,r={state:=.ready,pending:=none,fn:=fi,tmps:=a.tmps,params:=ps,assign:=cA,body:=cB,defers:=w.heap.size}:=⟨_,rfl⟩
 have⟨W1,Q⟩:∃W1,(w.alloc (.deferred (some []))).alloc (.loop r)=W1:=⟨_,rfl⟩
 refine⟨w.heap.size+1,[{target:=.collected w.heap.size,args:=#[]}],W1,{target:=.fn (.func gf) ⟨O⟩,args:=#[.func (.yield (w.heap.size+1)) #[] #[]]},W1,gf,
  #[.func (.yield (w.heap.size+1)) #[] #[]]++⟨O⟩,W1,?_,?_,λ_ _=>trivial,?_,λe=>(by cases e),?_⟩
 .rw[←Q,E];exact run_enterLoop_outer _ _ _ _ _
 .simp only[resolve,A];simp[go_sem,Deferred.ofValue,pure]
 .have hn':¬fn.name = "runtime.NumGoroutine":=by simpa using hn
  have hb':¬fn.body=none:=by intro h0;rw[h0]at hb;simp at hb
  simp[go_sem,invoke,callFunc,L,hb',hn']
 refine Xdh (calls_of_wp L hb ?_);have⟨I1,hB1⟩:=I.newRaw (ver:=st.k) (λh=>absurd h (IU _)) kd (.deferred (some []));have⟨I2,B⟩:=I1.newRaw (ver:=st.k+1) (λh=>aa) j (.loop r);rw[World.size_alloc]at I2 B;rw[Q]at I2;have S:=hB1.trans B;generalize hβ2:ZJ (ZJ β kd st.k (some (w.heap.size,0))) j (st.k+1) (some (w.heap.size+1,0))=β2 at I2 B S;have T:β2 j (st.k+1)=some (some (w.heap.size+1,0)):=by rw[←hβ2];exact XP ..
 have hkd:β2 kd st.k=some (some (w.heap.size,0)):=B _ _ _ (XP ..);have I3:Ij P (C.sub off (M,β2)) (upd (upd st.s kd (some (st.k,.raw (.deferred (some []))))) j (some (st.k+1,.raw (.loop r)))) (·<st.k+2) M β2 W1:=
  ⟨I2.mem,λi v x e=>by rcases I2.used i v x e with(h|h)|h<;>omega,I2.obs,I2.own,I2.inj,I2.keep,I2.old,MLe.refl M,λg cs hg=>RepC.mono I.le (I.glob g cs hg)⟩
 have hvs:RepL P M β2 (.clo (.yield (w.heap.size+1)) [] []::caps) (.func (.yield (w.heap.size+1)) #[] #[]::O):=by simp only[RepL,Rep];exact⟨_,_,rfl,⟨[],[],rfl,rfl,rfl⟩,K.mono (MLe.refl M) S⟩
 have e0:(#[.func (.yield (w.heap.size+1)) #[] #[]]++(⟨O⟩:Array Value))=(⟨.func (.yield (w.heap.size+1)) #[] #[]::O⟩:Array Value):=by simp
 rw[e0];have V:Rel P (C.sub off (M,β2)) (stI (.clo (.yield (w.heap.size+1)) [] []::caps) (upd (upd st.s kd (some (st.k,.raw (.deferred (some []))))) j (some (st.k+1,.raw (.loop r)))) nt (st.k+2)) _ W1:=Xat rfl (BLe.refl _) hvs hnt aa I3;have W:=YJ m _ V (h (w.heap.size+1) w.heap.size r (M,β2) (by grind) (by grind) (by grind) (by grind) (by grind) (by grind) T hkd (λy=>by rw[E];exact(h3 y).mono (MLe.refl M) S) (h0.trans S));refine wp_mono ((wpIn_wide (n:=0)).1 W) ?_
 have fin:∀a1 w1,KX P (C.sub off (M,β2)) (Xsz
  (λq f=>∀p w',Rel P (C.mk' β2 w.heap.size) ⟨st.t,upd f.s j (some (st.k+1,.raw (.loop {q with state:=.exhausted}))),st.n,f.k⟩ p w'->sem P C R k none p w')
  (λq f=>∀p w',Rel P (C.mk' β2 w.heap.size) ⟨st.t,upd f.s j (some (st.k+1,.raw (.loop {q with state:=.exhausted}))),st.n,f.k⟩ p w'->R p w') j (st.k+1)) a1 w1 ->
  a1.defers=[]/\∃v,(results fn a1.tmps).run P w1=.ok v w1/\rangePost (fz C.rd) 0 P (w.heap.size+1) (VZ R (sem P C R k)) {a with defers:=[{target:=.collected w.heap.size,args:=#[]}]++a.defers} (.returned v) w1:=by
  rintro a1 w1 ⟨f,⟨g1,g2,M',β',g0,g3,J⟩,q,Y,Z,hor⟩
  obtain⟨v,hv,_⟩:=Xa3 J g3 hrs (ds:=[]) (c:=True) rfl trivial
  have hl:=g0 _ _ _ T
  refine⟨g1,v,hv,_,_,run_endLoop (J.raw Y hl).2.2 Z,?_⟩
  have J2:=J.putRaw Y hl (.loop {q with state:=.exhausted})
  have o:Rel P (C.mk' β2 w.heap.size) ⟨st.t,upd f.s j (some (st.k+1,.raw (.loop {q with state:=.exhausted}))),st.n,f.k⟩ {a with defers:=[{target:=.collected w.heap.size,args:=#[]}]++a.defers} (w1.putObj (w.heap.size+1) (.loop {q with state:=.exhausted})):=by
   refine⟨by grind,h2,M',β',g0,λx=>(h3 x).mono J.le (S.trans g0),⟨J2.mem,J2.used,J2.obs,J2.own,J2.inj,J2.keep,J2.old,I.le.trans J2.le,I.glob⟩⟩
  generalize w1.putObj (w.heap.size+1) (.loop {q with state:=.exhausted})=w4 at o⊢
  rcases hor with⟨hp,L⟩|⟨hp,L⟩
  .rw[hp];exact L _ _ o
  .rw[hp];exact wpIn_ret (L _ _ o)
 intro e p w' hq;cases e with
 |normal=>exact fin p w' hq
 |ret=>exact fin p w' hq
 |exit id=>assumption
 |_=>exact hq.elim
def Xif(P:Program)(C:Cx)(Q:St->Prop):AW:=λa w=>∃D kd v b1,BLe C.b0 b1/\b1 kd v=some (some (D,0)) /\
 KX P (C.mk' b1 D) (λst=>st.s kd=some (v,.raw (.deferred (some [])))/\Q ⟨st.t,upd st.s kd (some (v,.raw (.deferred none))),st.n,st.k⟩) a w
def Xdq{G:Nat->Option (List D)}{f:FuncId}{fn:Func}{body:Code}{rs:List ResultVar}{args:List D}{lent:List Ob}{R':D->List Ob->Prop}(fr:List Nat)(nt:Nat)(K:P.funcs[f]? = some fn)(hb:fn.body=some body)(R:(fn.name== "runtime.NumGoroutine")=false)(o:fn.results=⟨rs⟩)(z:fn.ntmps=nt)(l:args.length<=nt)(h:∀(C:Cx)x,C.G=G->C.lb.length=lent.length->WfL P args->∀a w,Rel P (C.sub 0 x) (st0 args lent nt) a w ->
  sem P (C.sub 0 x) (λa w=>KX P (C.sub 0 x) (XaP P rs fr lent.length R') a w\/Xif P (C.sub 0 x) (XaP P rs fr lent.length R') a w) [.code body] none a w):ZD P G f args lent R':=by
 refine⟨⟨fn,K,by grind,R⟩,λM w Z lb S T g A B p=>?_⟩;refine callsIn_wide.1 (callsIn_of_wp_marks (F:=Fence.wide) (n:=0) K hb trivial ?_);have I0:=XeF (G:=G) S T g A B;have q:Rel P ⟨G,M,w,lb.map (·.1),KW lb,M,0,none,[]⟩ (st0 args lent nt) _ w:=Xat rfl (BLe.refl _) p z l I0;have r:=h ⟨G,M,w,lb.map (·.1),KW lb,M,0,none,[]⟩ (M,KW lb) rfl (by simp_all) p.wf _ _ q;refine wpIn_mono r ?_;have fin:∀a w',(KX P ⟨G,M,w,lb.map (·.1),KW lb,M,0,none,[]⟩ (XaP P rs fr lent.length R') a w'\/Xif P ⟨G,M,w,lb.map (·.1),KW lb,M,0,none,[]⟩ (XaP P rs fr lent.length R') a w') ->
  LeavesInM Fence.wide 0 P fn a.tmps (Xoq P M w lb R') a.defers .returning w':=by
  rintro a w' (j|⟨D,kd,v,b1,E,J,j⟩)
  .have hd:a.defers=[]:=by obtain⟨st,y,_⟩:=j;exact y.1
   rw[hd]
   exact Xdk rfl (BLe.refl _) g o a w' j
  .have⟨st,⟨y,V,M',β',L,W,I⟩,O,u⟩:=j
   rw[y]
   have Q:=L _ _ _ J
   have Y:=(I.raw O Q).2.2
   refine⟨ab,.inl ⟨D,_,rfl,run_takeDeferred Y,?_⟩⟩
   exact Xdk (C:=Cx.mk' ⟨G,M,w,lb.map (·.1),KW lb,M,0,none,[]⟩ b1 D) rfl E g o a _ ⟨⟨st.t,upd st.s kd (some (v,.raw (.deferred none))),st.n,st.k⟩,⟨y,V,M',β',L,W,I.putRaw O Q _⟩,u⟩
 intro e a w' j;cases e with
 |normal=>exact fin a w' j
 |ret=>exact fin a w' j
 |exit id=>assumption
 |_=>exact j.elim
variable {P:Program}{C:Cx}
def Xkz{R:AW}{id:Nat}{c:Code}{k:List It}{a:Act}{w:World}(h:sem P C R (.code c::.blk id::k) none a w):sem P C R (.code (.block id c)::k) none a w:=by
 refine wpIn_block (wpIn_mono h ?_);intro e g w' f;cases e with
 |exit i=>
  simp only[Exit.inBlock];have f:sem P C R (.blk id::k) (some i) g w':=f;unfold sem at f;split at f<;>rename_i e
  .rw[Wj e];exact f
  rw[Wg e];exact f
 |_=>exact f
def Xmq:List It->Bool
 |[]=>true
 |.stop _::_=>false
 |.ops _ _::_=>false
 |_::k=>Xmq k
def Jx{C':Cx}(f:C'.rd=C.rd){R R':AW}(l:∀a w,R' a w->R a w):∀(k:List It),Xmq k=true->∀e a w,sem P C' R' k e a w->sem P C R k e a w
 |[],_,none,a,w,h=>l a w h
 |[],_,some _,a,w,h=>h.elim
 |.blk j::k,g,none,a,w,h=>Jx f l k g none a w h
 |.blk j::k,g,some i,a,w,h=>by
  unfold sem at h⊢;split
  .rename_i e;rw[Wj e]at h;exact Jx f l k g none a w h
  rename_i e;rw[Wg e]at h;exact Jx f l k g (some i) a w h
 |.code c::k,g,some i,a,w,h=>Jx f l k g (some i) a w h
 |.code c::k,g,none,a,w,h=>by
  have h:c.wpIn (fz C'.rd) 0 P (VZ R' (sem P C' R' k)) a w:=h;rw[f]at h;refine wpIn_mono h ?_;intro e p w' o;cases e with
  |normal=>exact Jx f l k g none p w' o
  |exit i=>exact Jx f l k g (some i) p w' o
  |ret=>exact l p w' o
  |_=>exact o
def XqB:List It->Bool
 |[]=>true
 |.ops _ _::_=>false
 |_::k=>XqB k
def KQ{R R':AW}(g:∀a w,R' a w->R a w):∀(k:List It),XqB k=true->∀e a w,sem P C R' k e a w->sem P C R k e a w
 |[],_,none,a,w,h=>g a w h
 |[],_,some _,a,w,h=>h.elim
 |.stop _::k,_,none,a,w,h=>h
 |.stop _::k,f,some i,a,w,h=>KQ g k f (some i) a w h
 |.blk j::k,f,none,a,w,h=>KQ g k f none a w h
 |.blk j::k,f,some i,a,w,h=>by
  unfold sem at h⊢;split
  .rename_i e;rw[Wj e]at h;exact KQ g k f none a w h
  rename_i e;rw[Wg e]at h;exact KQ g k f (some i) a w h
 |.code c::k,f,some i,a,w,h=>KQ g k f (some i) a w h
 |.code c::k,f,none,a,w,h=>by
  refine wpIn_mono h ?_;intro e o w' l;cases e with
  |normal=>exact KQ g k f none o w' l
  |exit i=>exact KQ g k f (some i) o w' l
  |ret=>exact g o w' l
  |_=>exact l
def Xbq{R:AW}{g j:List It}(h:∀e a w,sem P C R g e a w->sem P C R j e a w):∀(k1:List Code) (e:Option Nat) (a:Act) (w:World),sem P C R (k1.map It.code++g) e a w->sem P C R (k1.map It.code++j) e a w
 |[],e,a,w,f=>h e a w f
 |c::k1,none,a,w,f=>by
  refine wpIn_mono f ?_;intro e l w' f;cases e with
  |normal=>exact Xbq h k1 none l w' f
  |exit i=>exact Xbq h k1 (some i) l w' f
  |_=>exact f
 |_::k1,some i,a,w,f=>Xbq h k1 (some i) a w f
def Xo9{R:AW}{x y:Code}{k:List It}(e:Option Nat)(a:Act)(w:World)(h:sem P C R (.code x::.code y::k) e a w):sem P C R (.code (.seq x y)::k) e a w:=by
 cases e with
 |some i=>exact h
 |none=>refine wpIn_seq (wpIn_mono h ?_);intro e g w' f;cases e<;>exact f
open Go
def mkL:Nat->List (Int×Int)->List MapEntry
 |_,[]=>[]
 |i,x::l=>⟨.int .u64 x.1,.int .u64 x.2,i⟩::mkL (i+1) l
def mkE(m:List (Int×Int)):Array MapEntry:=(mkL 0 m).toArray
def Xpa:mkE []=#[]:=rfl
def XfG:∀(m:List (Int×Int)) (i:Nat),(mkL i m).length=m.length
 |[],_=>rfl
 |_::m,i=>congrArg (·+1) (XfG m (i+1))
def Xbr:∀(m l:List (Int×Int)) (i:Nat),mkL i (m++l)=mkL i m++mkL (i+m.length) l
 |[],l,i=>rfl
 |x::m,l,i=>by rw[IA,mkL,mkL,Xbr m l (i+1),IA,Uq,Oj,Nat.add_comm 1]
def XcJ(n:Int):∀(m:List (Int×Int)) (i j:Nat),∃q:Nat,Instr.findNow (.int .u64) (.int .u64 n) (mkL i m) j=some ((mG m n).map λx=>(q,.int .u64 x))
 |[],i,j=>⟨0,rfl⟩
 |x::m,i,j=>by
  have f:Instr.sameNow (.int .u64) (.int .u64 n) (.int .u64 x.1)=some (n==x.1):=VV .u64 n x.1;have e:mG (x::m) n=if n=x.1 then some x.2 else mG m n:=rfl
  by_cases h:n=x.1
  .refine⟨j,?_⟩;rw[e,Wj h];subst h;simp only[mkL,Instr.findNow,f,beq_self_eq_true,Im]
  obtain⟨q,g⟩:=XcJ n m (i+1) (j+1);have hb:(n==x.1)=false:=by simpa using h
  refine⟨q,?_⟩;rw[e,Wg h];simp only[mkL,Instr.findNow,f,hb,g]
def Xpb(m:List (Int×Int))(n:Int):Xoa (mkE m) .u64 n=True:=by obtain⟨q,e⟩:=XcJ n m 0 0;unfold Xoa mkE;rw[e];simp
def Xpc(m:List (Int×Int))(n:Int):Xfo (mkE m) .u64 n (.int .u64 0)=.int .u64 ((mG m n).getD 0):=by obtain⟨q,e⟩:=XcJ n m 0 0;unfold Xfo mkE;rw[e];cases mG m n<;>rfl
def Xpd(m:List (Int×Int))(n:Int):Xgh (mkE m) .u64 n=(mG m n).isSome:=by obtain⟨q,e⟩:=XcJ n m 0 0;unfold Xgh mkE;rw[e];cases mG m n<;>rfl
def Xpe(m:List (Int×Int))(n x:Int):(mkE m).push ⟨.int .u64 n,.int .u64 x,m.length⟩=mkE (m++[(n,x)]):=by unfold mkE;rw[Xbr,Ue];simp[mkL]
def Xmr(m:List (Int×Int))(n x:Int):((mkE (m++[(n,x)])).findIdx? λe=>(e.born:Int)==(m.length:Int))=some m.length:=by
 unfold mkE;rw[Xbr,Ue,List.findIdx?_toArray];have f:∀(m:List (Int×Int)) (i k:Nat),i+m.length<=k->(mkL i m).findIdx? (λe=>(e.born:Int)==(k:Int))=none:=by
  intro m;induction m with
  |nil=>intro i k _;rfl
  |cons x m g=>
   intro i k h;simp only[Uq]at h;rw[mkL,IY,g (i+1) k aa];have:((i:Int)==(k:Int))=false:=by simp;omega
   simp[this]
 rw[List.findIdx?_append,f m 0 m.length aa,XfG];simp[mkL]
def Xpf(m:List (Int×Int))(n x:Int):XqT (mkE (m++[(n,x)])) (m.length:Int)=True:=by unfold XqT;rw[Xmr];simp
def Xpg(m:List (Int×Int))(n x y:Int):Xlj (mkE (m++[(n,x)])) (m.length:Int) (.int .u64 y)=mkE (m++[(n,y)]):=by
 unfold Xlj;rw[Xmr,Ie];unfold mkE;rw[Xbr,Xbr,Ue];refine Array.ext' ?_;rw[Array.toList_modify];show List.modify (mkL 0 m++mkL m.length [(n,x)]) m.length _=_;refine Om λi=>?_;rw[List.getElem?_modify,Oo,Oo,XfG];by_cases h:i<m.length
 .rw[Wj h,Wj h];have e:¬m.length=i:=aa;simp only[e,if_false];cases (mkL 0 m)[i]?<;>rfl
 rw[Wg h,Wg h];by_cases f:i=m.length
 .subst f;simp[mkL]
 have j:i-m.length≠0:=aa;obtain⟨k,g⟩:∃k,i-m.length=k+1:=⟨i-m.length-1,aa⟩
 rw[g];simp[mkL]
def Xrv(x:Int):wfV (.int .u64 x)=(0<=x/\x<=18446744073709551615):=by simp only[wfV,IntKind.min,IntKind.max,IntKind.bits,IntKind.signed];simp
def Yb{α β:Type}{i:Int}{f:α->Option β}{r:β}{Q:Prop}(h:bnd (Xd [] i) f=some r):Q:=by
 have e:Xd ([]:List α) i=none:=by unfold Xd;split<;>rfl
 rw[e]at h;unfold bnd at h;cases h
def Yc{α:Type}{n:Nat}{Q:Prop}(h:n<([]:List α).length):Q:=absurd h (Nat.not_lt_zero _)
attribute [go_sem] Xpa Xpb Xpc Xpd Xpe Xpf Xpg Xrv
end Go.Sx
