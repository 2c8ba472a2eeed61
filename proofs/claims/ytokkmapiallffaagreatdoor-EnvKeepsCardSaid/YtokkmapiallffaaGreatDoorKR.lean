import Derived.Maps.RangeRun
import Derived.ProofKit
import Derived.LaidMore
import Derived.OpenShut
import Derived.Stop.Joined
import Derived.ChangeSame
import Derived.Carry
import Derived.RangeFuncLeaves
import Derived.RangeFuncRecord
import Derived.RangeFuncIn
import Derived.RecoverIn
import Derived.Test.YtokkmapiallffaaGreatDoorKB
set_option linter.all false
namespace Go.Sx
open Go.MapKept
variable {P:Program}{C:Cx}
def XcQ{R:AW}{Q:St->Prop}{k2:List It}(g:∀st a w,Rel P C st a w->Q st->sem P C R k2 none a w):∀(k1:List Code) (e:Option Nat) (a:Act) (w:World),sem P C R (k1.map It.code++[.stop Q]) e a w->sem P C R (k1.map It.code++k2) e a w
 |[],none,a,w,h=>by have⟨st,k,f⟩:=h;grind
 |[],some i,a,w,h=>h.elim
 |c::k1,none,a,w,h=>by
  refine wpIn_mono h ?_;intro e j w' f;cases e with
  |normal=>exact XcQ g k1 none j w' f
  |exit i=>exact XcQ g k1 (some i) j w' f
  |_=>exact f
 |_::k1,some i,a,w,h=>XcQ g k1 (some i) a w h
def Xdw:Nat->Code->List Code
 |n+1,.seq x y=>x::Xdw n y
 |_,c=>[c]
def Vp{R:AW}{k:List It}:∀(n:Nat) (c:Code) (e:Option Nat) (a:Act) (w:World),sem P C R ((Xdw n c).map It.code++k) e a w->sem P C R (.code c::k) e a w
 |0,c,e,a,w,h=>by assumption
 |n+1,.seq x y,none,a,w,h=>by
  refine wpIn_seq (wpIn_mono h ?_);intro e g w' f;cases e with
  |normal=>exact Vp n y none g w' f
  |exit i=>exact Vp n y (some i) g w' f
  |_=>exact f
 |n+1,.seq x y,some i,a,w,h=>Vp n y (some i) a w h
 |n+1,.region _ _ _,e,a,w,h=>h
 |n+1,.skip,e,a,w,h=>h
 |n+1,.cond _ _ _,e,a,w,h=>h
 |n+1,.block _ _,e,a,w,h=>h
 |n+1,.loop _,e,a,w,h=>h
 |n+1,.rangeFunc ..,e,a,w,h=>h
 |n+1,.exit _,e,a,w,h=>h
 |n+1,.scope _,e,a,w,h=>h
 |n+1,.label _,e,a,w,h=>h
 |n+1,.goto _,e,a,w,h=>h
 |n+1,.ret,e,a,w,h=>h
 |n+1,.refuse _,e,a,w,h=>h
def Vq{r:Option Nat}{ops:Array Oper}{Q:Exit->AW}{rest:List Oper}{o:Oper}{a:Act}{w w':World}{v:Value}(e:o.guard=none)(h:(execOp a.eval o).run P w=.ok (.value v) w')(k:wpListIn (fz r) 0 P ops Q rest (a.put o.dst v) w')(hd:∀c,o.op≠.defer c:=by intro c h;cases h):wpListIn (fz r) 0 P ops Q (o::rest) a w:=by
 refine wpListIn_step λK hK=>?_;have hw:Region.wanted o (yielded ops a.tmps)=true:=by unfold Region.wanted;rw[e]
 rw[Wm hw];refine XmD hd ?_;unfold Oper.wp;rw[h];exact hK _ _ k
def Xqu(w w':World):Prop:=(∀k,k<w.heap.size->w'.heap[k]? = w.heap[k]?)/\w.heap.size<=w'.heap.size/\w'.os=w.os/\w'.tape=w.tape/\w'.output=w.output
def Rel.same{st:St}{a f:Act}{w w':World}(r:Rel P C st a w)(hw:Xqu w w')(hd:f.defers=C.df)(g:f.tmps.size=a.tmps.size){j:Nat->D}(ht:∀M β,(∀x,Rep P M β (st.t x) (a.tmps.getD x undef))->∀x,Rep P M β (j x) (f.tmps.getD x undef)):Rel P C ⟨j,st.s,st.n,st.k⟩ f w':=by
 have⟨A,h2,M,β,u,y,I⟩:=r;have⟨g1,g2,g3,g4,g5⟩:=hw;refine⟨hd,g.trans h2,M,β,u,ht M β y,?_⟩;have h:∀b o x,M b o=some x->b<w.heap.size:=λb o x e=>I.mem.lt e;constructor
 .intro b o x e;have:=I.mem b o x e;refine⟨?_,this.2⟩;rw[←this.1];simp[World.cell?,g1 b (h b o x e)]
 .exact I.used
 .intro id v ob g;have⟨x,e,p⟩:=I.obs id v ob g;refine⟨x,e,p.mono (MLe.refl _) (BLe.refl _) ?_ (λ_ _ _ _=>rfl)⟩;rintro b B rfl;exact g1 b p.lt
 .exact I.own
 .exact I.inj
 .exact⟨g3.trans I.keep.os,g4.trans I.keep.tape,g5.trans I.keep.output,UL I.keep.size g2,λk q z=>by rw[g1 k (I7 q I.keep.size)];exact I.keep.block k q z⟩
 .exact I.old
 .exact I.le
 exact I.glob
open Go.RowKit Go.WideShapes Go.ChangeShapes
variable {P:Program}
def Z6(w:World):Mem:=λb o=>match w.cell? ⟨b,o,none⟩with
 |some x=>bif x.oneCell' then some x else none
 |none=>none
def XlA(w:World):MemOK (Z6 w) w:=by intro b o x h;unfold Z6 at h;grind
def Xe4{w:World}{b o:Nat}{x:Value}(h:w.cell? ⟨b,o,none⟩=some x)(e:x.oneCell'=true):Z6 w b o=some x:=by unfold Z6;simp_all
def ShF(g:TypeId->List D->Prop):List TypeId->List D->Prop
 |[],e=>e=[]
 |f::h,e=>∃a b,e=a++b/\g f a/\ShF g h b
def Sh(P:Program):Nat->TypeId->List D->Prop
 |0,_,_=>False
 |m+1,t,f=>match P.underlying t with
  |some .bool=>∃b,f=[.v (.bool b)]
  |some (.int k)=>∃n,f=[.v (.int k n)]/\k.min<=n/\n<=k.max
  |some (.slice e)=>∃g,f=[.isl e (P.cellsOf e) g]/\g.length<=Xs/\g.length*P.bytesOf e<=Xs/\∀x∈g,Sh P m e x
  |some (.struct h)=>ShF (Sh P m) (h.toList.map (·.type)) f
  |_=>False
def VY(P:Program):Nat->List Field->Option Nat
 |n,[]=>some n
 |n,f::e=>if f.offset=n then VY P (n+P.cellsOf f.type) e else none
def okS(P:Program):Nat->TypeId->Bool
 |0,_=>false
 |m+1,t=>match P.underlying t with
  |some .bool=>true
  |some (.int _)=>true
  |some (.slice e)=>decide (0<P.cellsOf e)&&decide (0<P.bytesOf e)&&okS P m e
  |some (.struct g)=>(VY P 0 g.toList==some (P.cellsOf t))&&g.toList.all λf=>okS P m f.type
  |_=>false
def Xj1{j:TypeId->List D->Prop}(h:∀t e,j t e->∀d∈e,d.one=true):∀(g:List TypeId) (e:List D),ShF j g e->∀d∈e,d.one=true
 |[],e,k,d,hd=>by simp_all[ShF]
 |f::g,e,k,d,hd=>by
  obtain⟨a,b,rfl,p,o⟩:=k;rcases Wr.1 hd with hd|hd
  .grind
  exact Xj1 h g b o d hd
def Xnu:∀(m:Nat) (t:TypeId) (e:List D),Sh P m t e->∀d∈e,d.one=true
 |0,_,_,h=>by simp_all[Sh]
 |m+1,t,e,h=>by
  unfold Sh at h;split at h
  .obtain⟨b,rfl⟩:=h;intro d hd;simp at hd;subst hd;rfl
  .obtain⟨n,rfl,_⟩:=h;intro d hd;simp at hd;subst hd;rfl
  .obtain⟨f,rfl,_⟩:=h;intro d hd;simp at hd;subst hd;rfl
  .exact Xj1 (Xnu m) _ _ h
  simp_all
def Xe5{α β:Type}{g:α->Option β}:∀{l:List α} {e:List β},l.mapM g=some e->e.length=l.length/\∀(i:Nat)y,l[i]? = some y->∃x,g y=some x/\e[i]? = some x
 |[],e,h=>by simp_all
 |y::l,e,h=>by simp only[List.mapM_cons,Option.bind_eq_bind,Option.bind_eq_some_iff,Option.pure_def,Wo]at h;obtain⟨x,k,j,f,rfl⟩:=h;have⟨o,p⟩:=Xe5 f;grind
def Xj2{α:Type}{p:Nat->α->Prop}:∀(n:Nat),(∀i,i<n->∃x,p i x)->∃l:List α,l.length=n/\∀(i:Nat)x,l[i]? = some x->p i x
 |0,_=>⟨[],rfl,λi x h=>by grind⟩
 |n+1,h=>by have⟨l,e,f⟩:=Xj2 n λi g=>h i ab;have⟨x,j⟩:=h n ab;refine⟨l++[x],by simp[e],λi y k=>?_⟩;grind
def Xi4{w:World}{base n:Nat}{a:Addr}{e:List Value}(h:w.cells? base a n=some e):e.length=n/\∀j,j<n->∃x,w.cell? (a.add j)=some x/\e[j]? = some x:=by
 unfold World.cells? at h;split at h
 .have⟨f,g⟩:=Xe5 h;refine⟨by simpa using f,λj k=>g j j (by simp[k])⟩
 simp_all
def XlB{w:World}{a:Addr}{x:Value}(h:w.cell? a=some x):a=⟨a.block,a.off,none⟩:=by
 have⟨b,o,s⟩:=a;cases s with
 |none=>rfl
 |some s=>unfold World.cell? at h;grind
variable {H:Type}{enc:TypeId×Value->H}
def Xsz{k:IntKind}{n:Int}(h:(Lit.int k n).wf=true):k.min<=n/\n<=k.max:=by simp_all[Lit.wf]
def Xdx{w:World}{base:Nat}{spare:Nat->Bool}{N:Bool}:∀(m:Nat) (t:TypeId),okS P m t=true->∀(fuel:Nat) (J:List Value) (d:DataW H) (ps:List MemPlace),
 DataW.trod enc P w base spare N fuel t J=some (d,ps)->(∀x∈d.weights P t,x<=reachBytes)->∃q,Sh P m t q/\RepL P (Z6 w) Yz q J
 |0,t,I,_,_,_,_,_,_=>by simp_all[okS]
 |m+1,t,I,0,J,d,ps,h,_=>by simp_all[DataW.trod]
 |m+1,t,I,fuel+1,J,d,ps,h,hw=>by
  unfold okS at I;split at I
  ·
   rename_i B;obtain⟨b,rfl,_⟩:=DataW.trod_bool B h;exact⟨[.v (.bool b)],by simp[Sh,B],by simp[RepL,Rep,wfV]⟩
  ·
   rename_i k B;obtain⟨n,rfl,_,S⟩:=DataW.trod_int B h;have S:=Xsz S;exact⟨[.v (.int k n)],by simp only[Sh,B];exact⟨n,rfl,S⟩,by simp[RepL,Rep,wfV,S]⟩
  ·
   rename_i e B;simp at I;have⟨⟨hz,hby⟩,I⟩:=I;rcases DataW.trod_slice B h with⟨rfl,_⟩|⟨a,len,cap,elems,rest,n,S,rfl,hd,hb,hlc,hcm,l1,l2,_,_⟩
   .refine⟨[.isl e (P.cellsOf e) []],by simp[Sh,B],?_⟩;simp only[RepL,Rep];exact⟨_,_,rfl,⟨ac,ac,ac,none,0,rfl,Uh _,.inl trivial⟩,rfl⟩
   obtain rfl:fuel=n:=ab;obtain⟨rfl,_⟩:=hd;simp only[DataW.weights,B,Ug,Ig,Wr,forall_eq_or_imp]at hw;have⟨hw1,hw2⟩:=hw;have hbytes:len*P.bytesOf e<=reachBytes:=by refine UL (Ua _ ?_) hw1;omega
   have hreach:reachBytes<=Xs:=ag;have hlen47:len<=Xs:=UL (Nat.le_mul_of_pos_right _ hby) (UL hbytes hreach);have key:∀i,i<len->∃q E,Sh P m e q/\RepL P (Z6 w) Yz q E/\E.length=P.cellsOf e/\∀j,j<P.cellsOf e->∃x,w.cell? ((a.add (i*P.cellsOf e)).add j)=some x/\E[j]? = some x:=by
    intro i T;have A:=l2 i T;rw[Wb ab]at A;obtain⟨E,hvs,A⟩:=Option.bind_eq_some_iff.1 A;obtain⟨c1,c2⟩:=Xi4 hvs;have hwx:∀y∈(elems[i]).1.weights P e,y<=reachBytes:=by
     intro y K;refine hw2 y (.inl ?_);have u:(elems[i]).1∈elems.map (·.1):=WI.2 ⟨_,Wt _,rfl⟩;generalize elems.map (·.1)=L at u;induction L with
     |nil=>cases u
     |cons z L U=>
      simp only[DataW.weightsAll,Wr];rcases Ig.1 u with rfl|u
      .exact .inl K
      exact .inr (U u)
    obtain⟨q,s1,s2⟩:=Xdx m e I fuel E _ _ A hwx;exact⟨q,E,s1,s2,c1,c2⟩
   rcases Um len with rfl|V
   .refine⟨[.isl e (P.cellsOf e) []],by simp[Sh,B],?_⟩;simp only[RepL,Rep];exact⟨_,_,rfl,⟨ac,ac,ac,some a,cap,rfl,IS _,.inl trivial⟩,rfl⟩
   have hplain:a=⟨a.block,a.off,none⟩:=by obtain⟨_,_,_,_,_,c2⟩:=key 0 V;obtain⟨x,A,_⟩:=c2 0 hz;simp only[Nat.zero_mul,Addr.add,if_true]at A;exact XlB A
   have⟨b,o,s⟩:=a;simp at hplain;subst hplain;have⟨W,e1,e2⟩:=Xj2 (α:=List D) (p:=λi q=>∃E,Sh P m e q/\RepL P (Z6 w) Yz q E/\E.length=P.cellsOf e/\∀j,j<P.cellsOf e->∃x,w.cell? (((⟨b,o,none⟩:Addr).add (i*P.cellsOf e)).add j)=some x/\E[j]? = some x) len (λi T=>by
    obtain⟨q,E,h⟩:=key i T;exact⟨q,E,h⟩)
   have elen:∀x∈W,x.length=P.cellsOf e:=by intro x A;obtain⟨i,T,rfl⟩:=Wv A;obtain⟨E,_,h2,h3,_⟩:=e2 i W[i] ac;rw[←h2.length,h3]
   refine⟨[.isl e (P.cellsOf e) W],?_,?_⟩
   .simp only[Sh,B];refine⟨W,rfl,ab,by rw[e1];omega,λx A=>?_⟩;obtain⟨i,T,rfl⟩:=Wv A;exact(e2 i W[i] ac).choose_spec.1
   refine⟨_,_,rfl,⟨elen,ab,by rw[e1];omega,some ⟨b,o,none⟩,cap,by rw[e1],ab,.inr ⟨b,o,rfl,?_⟩⟩,rfl⟩;refine RepE.of (z:=P.cellsOf e) elen λi x A=>?_;have⟨E,h1,h2,h3,h4⟩:=e2 i x A;refine RepC.of λj dd Y=>?_;have⟨y,K,hr⟩:=h2.get j dd Y;have hj:j<P.cellsOf e:=by
    rcases Ux j E.length with h'|h'
    .omega
    rw[WN h']at K;cases K
   have⟨y',Z,hy2⟩:=h4 j hj;rw[K]at hy2;obtain rfl:y=y':=by simpa using hy2
   refine⟨y,Xe4 ?_ (Xdh (Xnu m e x h1 dd (W5 Y)) hr).1,hr⟩;rw[U1,U1]at Z;exact Z
  ·
   rename_i fs B;simp only[WH,beq_iff_eq,WV]at I;have⟨hcon,hall⟩:=I;have⟨M,n,S,hd,hlen,G,hxs⟩:=DataW.trod_struct B h;obtain rfl:fuel=n:=ab;obtain⟨rfl,_⟩:=hd;have hw':∀x∈DataW.weightsEach P (fs.toList.map (·.type)) (M.map (·.1)),x<=reachBytes:=by simpa only[DataW.weights,B]using hw
   have mono:∀(l:List Field)n k,VY P n l=some k->n<=k:=by
    intro l;induction l with
    |nil=>intro n k h;simp only[VY,Wo]at h;omega
    |cons g l U=>
     intro n k h;simp only[VY]at h;split at h
     .have:=U _ _ h;omega
     cases h
   have main:∀(l:List Field) (off:Nat) (M:List (DataW H×List MemPlace)),VY P off l=some (P.cellsOf t)->(∀f∈l,okS P m f.type=true)->M.length=l.length ->
    (∀(i:Nat) (f:Field),l[i]? = some f->DataW.trod enc P w base spare N fuel f.type ((J.drop f.offset).take (P.cellsOf f.type))=M[i]?)->(∀x∈DataW.weightsEach P (l.map (·.type)) (M.map (·.1)),x<=reachBytes) ->
    ∃q,ShF (Sh P m) (l.map (·.type)) q/\RepL P (Z6 w) Yz q (J.drop off):=by
    intro l
    induction l with
    |nil=>
     intro off M O _ _ _ _
     simp only[VY,Wo]at O
     refine⟨[],rfl,?_⟩
     rw[WZ ab]
     simp[RepL]
    |cons f l U=>
     intro off M O hok G A R
     simp only[VY]at O
     split at O
     .rename_i hoff
      match M,G with
      |x::xs',G=>
       simp only[UA,DataW.weightsEach,Wr]at R
       have hle2:=mono _ _ _ O
       have hx1:=A 0 f ac
       simp only[List.getElem?_cons_zero]at hx1
       obtain⟨ds1,s1,r1⟩:=Xdx m f.type (hok f ac) fuel _ x.1 x.2 hx1 (λy K=>R y (.inl K))
       obtain⟨ds2,s2,r2⟩:=U (off+P.cellsOf f.type) xs' O (λg hg=>hok g (WT _ hg)) (by simpa using G) (λi g hg=>by simpa using A (i+1) g (by simpa using hg)) (λy K=>R y (.inr K))
       refine⟨ds1++ds2,⟨ds1,ds2,rfl,s1,s2⟩,?_⟩
       have hsp:J.drop off=(J.drop f.offset).take (P.cellsOf f.type)++J.drop (off+P.cellsOf f.type):=by
        rw[hoff,←Ov,If]
       rw[hsp]
       exact r1.append r2
     .cases O
   have⟨q,s,r⟩:=main fs.toList 0 M hcon hall (by simpa using G) (λi f hf=>hxs i f (by simpa using hf)) hw';exact⟨q,by simp only[Sh,B];exact s,by exact r⟩
  simp_all
open Go.RowKit Go.WideShapes Go.ChangeShapes
variable {P:Program}
def Xnv:Kf []=Yz:=by grind[Kf,Yz]
def Xtm{G:Nat->Option (List D)}{f:FuncId}{args:List D}(s:YV P G f args [] (Eqs (.v (.bool true)) [])){W:World}{j:List Value}(u:∀g q,G g=some q->RepC P (Z6 W) q g 0)(o:RepL P (Z6 W) Yz args j):Calls P f ⟨j⟩ W λe W'=>e=.returned (.bool true)/\Below W.heap.size W W':=by refine(s.2 (Z6 W) W j [] (XlA W) u rfl List.nodup_nil (λk ob x h=>ac) (by simp_all[Xnv])).mono ?_;rintro e W' ⟨v,r,ls,M',l,rfl,⟨rfl,rfl⟩,hK,_,_,_,_,p,_⟩;have⟨_,rfl,_⟩:=p;exact⟨rfl,hK.os,hK.tape,hK.output,hK.size,λk w=>hK.block k w ac⟩
section
variable {H:Type}{enc:TypeId×Value->H}
def XeN{f:Func}{s:ChangeSpec}{apart fresh handsOn again:Bool}{W W':World}{args:Array Value}{v:Value}{o q:List (DataW H)}{before pa pv:List MemPlace}(x:DataW.Whole enc P f.params.toList s.vars apart W args.toList o q before)(h:∀(b:Nat) (sp:Nat->Bool) (hd:Bool),DataW.TrodAll enc P W' b sp hd f.resultTypes.toList (v.resultList f.resultTypes.size) (s.fn H (o++q)).results [])(e:∀sp:Nat->Bool,(∀p∈before,sp p.block=true)->DataW.TrodAll enc P W' 0 sp true f.params.toList args.toList (s.fn H (o++q)).args pa)(g:∀sp:Nat->Bool,(∀p∈before,sp p.block=true)->DataW.TrodVars enc P W' sp s.vars (s.fn H (o++q)).vars pv)(u:before=pa++pv)(hb:Below W.heap.size W W')(y:∀(j:Nat) (t:TypeId) (r:Value),f.resultTypes[j]? = some t->(v.resultList f.resultTypes.size)[j]? = some r->Value.okWide P W' .any 0 t r):
 s.post enc P f apart fresh handsOn again W args v W':=by
 have z:∀p∈before,p.block<W.heap.size:=λp hp=>x.lt p hp;have k:∀p∈before,(λb=>decide (b<W.heap.size)) p.block=true:=λp hp=>by simp_all
 refine⟨o,q,before,[],pa,pv,x,h _ _ _,e _ k,g _ k,World.keptBut_mono (λp hp=>⟨hp,?_⟩) (hb.frame (·∈before)),λ_=>?_⟩
 .simp_all
 have⟨_,_,_,_,_,A,B⟩:=x;refine⟨y,_,_,([]++pa)++pv,⟨[]++pa,pv,trodAll_append (e _ (λ_ _=>rfl)) (h _ _ _),g _ (λ_ _=>rfl),rfl,?_,?_⟩,?_⟩
 .intro b off hp;have w:MemPlace.cell b off∈before:=by rw[u];simpa using hp
  rw[hb.frozen (z _ w)];exact A b off w
 .intro D;have:=B D;rw[u]at this;exact this
 simp_all
def XaV{W W':World}(r:laidOutB P=true){sp:Nat->Bool}(hb:Below W.heap.size W W'):∀{j:List TypeId} {k:List Value} {o:List (DataW H)} {ps:List MemPlace},(∀t∈j,P.readableRec t=true/\t<P.types.size) ->
 DataW.TrodAll enc P W 0 (λ_=>true) true j k o ps->(∀x∈ps,x.block<W.heap.size)->(∀x∈ps,sp x.block=true)->DataW.TrodAll enc P W' 0 sp true j k o ps
 |[],[],[],ps,_,h,_,_=>h
 |[],[],_::_,_,_,h,_,_=>h.elim
 |[],_::_,_,_,_,h,_,_=>h.elim
 |_::_,[],_,_,_,h,_,_=>h.elim
 |_::_,_::_,[],_,_,h,_,_=>h.elim
 |t::j,v::k,d::o,ps,s,h,f,g=>by
  obtain⟨p,q,u,w,rfl⟩:=h;have⟨y,z⟩:=s t ac;exact⟨p,q,WideElems.Trod_stays r y z u (λx e=>hb.same (f x (WU _ e))) (λx e=>g x (WU _ e)),
   XaV r hb (λt ht=>s t (WT _ ht)) w (λx e=>f x (Ui _ e)) (λx e=>g x (Ui _ e)),rfl⟩
def XtN{fn:Func}{s:ChangeSpec}{apart fresh handsOn again:Bool}{W W':World}{args:Array Value}{k o:List (DataW H)}{before:List MemPlace}{tb:TypeId}(w:s.vars=[])(e:fn.resultTypes=#[tb])(g:P.underlying tb=some .bool)(A:laidOutB P=true)(B:∀t∈fn.params.toList,P.readableRec t=true/\t<P.types.size)(y:DataW.Whole enc P fn.params.toList s.vars apart W args.toList k o before)(f:s.fn H (k++o)={results:=[.lit (.bool true)],args:=k})(z:Below W.heap.size W W'):
 s.post enc P fn apart fresh handsOn again W args (.bool true) W':=by
 have h:=y;obtain⟨p,q,D,j,rfl,E,G⟩:=y;rw[w]at j;match o,j with
 |[],j=>
  subst j;have r:∀x∈p++[],x.block<W.heap.size:=λx u=>h.lt x u;refine XeN (pa:=p) (pv:=[]) h ?_ (λsp v=>?_) (λsp _=>?_) rfl z ?_
  .intro b sp hd;rw[e,f];exact trodAll_mk1 (shut_bool g _)
  .rw[f];exact XaV A z B D (λx u=>r x (by simp_all)) (λx u=>v x (by simp_all))
  .rw[w,f];rfl
  exact ok_one e rfl (okWide_bool_mk g _)
end
def Xhk{H:Type}{enc:TypeId×Value->H}{W:World}:∀{e:List TypeId} {g:List Value} {f:List (DataW H)} {ps:List MemPlace},DataW.TrodAll enc P W 0 (λ_=>true) true e g f ps->f.length=e.length
 |[],[],[],ps,_=>rfl
 |[],[],_::_,_,h=>h.elim
 |[],_::_,_,_,h=>h.elim
 |_::_,[],_,_,h=>h.elim
 |_::_,_::_,[],_,h=>h.elim
 |t::e,v::g,d::f,ps,h=>by have⟨p,q,_,j,_⟩:=h;simp[Xhk j]
def XsA{M:Mem}{v:Value}(e:v.cells=#[v]){d:D}(h:RepL P M Yz [d] v.cells.toList):Rep P M Yz d v:=by simp only[RepL]at h;simp_all
def Xtn{M:Mem}{W:World}{base:Nat}{t:TypeId}{a b e s:Nat}{z:Value}(ht:Xm P t=some ⟨a,b,z,.slice e s⟩){v:Value}(f:Value.okWide P W .any base t v){d:D}(h:RepL P M Yz [d] v.cells.toList):Rep P M Yz d v:=by obtain⟨_,_,_,rfl⟩:=okWide_slice (XX ht).1 f;exact XsA rfl h
def XlC{H:Type}{enc:TypeId×Value->H}{W:World}(m:Nat):∀{e:List TypeId} {g:List Value} {f:List (DataW H)} {ps:List MemPlace},(∀t∈e,okS P m t=true)->DataW.TrodAll enc P W 0 (λ_=>true) true e g f ps ->
 (∀x∈DataW.weightsEach P e f,x<=reachBytes)->∃dss:List (List D),dss.length=e.length/\g.length=e.length/\∀(i:Nat)t,e[i]? = some t->∃f v,dss[i]? = some f/\g[i]? = some v/\Sh P m t f/\RepL P (Z6 W) Yz f v.cells.toList
 |[],[],[],ps,_,h,_=>⟨[],rfl,rfl,λi t h=>by grind⟩
 |[],[],_::_,_,_,h,_=>h.elim
 |[],_::_,_,_,_,h,_=>h.elim
 |_::_,[],_,_,_,h,_=>h.elim
 |_::_,_::_,[],_,_,h,_=>h.elim
 |t::e,v::g,d::f,ps,k,h,hw=>by obtain⟨p,q,⟨fuel,o⟩,r,rfl⟩:=h;simp only[DataW.weightsEach,Wr]at hw;have⟨s,w,y⟩:=Xdx m t (k t ac) fuel _ d p o (λx j=>hw x (.inl j));have⟨dss,g1,g2,g3⟩:=XlC m (λt ht=>k t (WT _ ht)) r (λx j=>hw x (.inr j));refine⟨s::dss,by simp[g1],by simp[g2],λi u z=>?_⟩;grind
variable {P:Program}
section
variable {C:Cx}{s:Heap}{U:Nat->Prop}{M:Mem}{β:Loc}{w:World}
def U7.wide(I:U7 P C s U M β w){id v E z:Nat}{j:List (List D)}(hs:s id=some (v,.arr false E z j 0))(N:j≠[]):U7 P C (upd s id (some (v,.arr true E z j 0))) U M β w:=by
 have g:∀i f ob,upd s id (some (v,.arr true E z j 0)) i=some (f,ob)->∃e,s i=some (f,e)/\(ob=e\/(e=.arr false E z j 0/\ob=.arr true E z j 0)):=by
  intro i f ob h;by_cases O:i=id
  .simp_all[YC,Wo,Wx]
  simp_all[Yb,O]
 constructor
 .exact I.mem
 .exact I.used
 .intro i f ob h;have⟨e,k,J⟩:=g i f ob h;have⟨x,R,p⟩:=I.obs i f e k;refine⟨x,R,?_⟩;rcases J with rfl|⟨rfl,rfl⟩
  .omega
  cases x with
  |none=>simp_all[ObRep]
  |some bc=>have⟨S,T,k1,k2,V,W,Y,Z,k7,k8,k9,q⟩:=p;refine⟨S,T,k1,k2,V,W,Y,Z,k7,k8,k9,λi d hd=>?_⟩;have⟨y,hy,p⟩:=q i d hd;exact⟨y,hy,p.mono (MLe.refl _) (BLe.zero _)⟩
 .intro i f ob b r h hb;have⟨e,k,J⟩:=g i f ob h;rcases I.own i f e b r k hb with o|o
  .exact .inl o
  grind[Ob.bx]
 .intro i f ob K L u b r A h h' hb B;have⟨e,k,_⟩:=g i f ob h;have⟨G,o,_⟩:=g K L u h';exact I.inj i f e K L G b r A k o hb B
 .exact I.keep
 .exact I.old
 .exact I.le
 exact I.glob
end
def LoopG.v{C:Cx}{R:St->Prop}{c:Code}{k:List It}{st:St}{id v:Nat}(_:(st.s id).map (·.1)=some v)(h:∀w,w=v->LoopG P C R c k st trivial)(t:Prf c):LoopG P C R c k st t:=h v rfl
def LoopG.wide{C:Cx}{R:St->Prop}{c:Code}{k:List It}{st:St}{id v E z:Nat}{e:List (List D)}(g:st.s id=some (v,.arr false E z e 0))(f:e≠[])(h:LoopG P C R c k (nxS st none .any (upd st.s id (some (v,.arr true E z e 0))) st.n st.k) trivial)(t:Prf c):LoopG P C R c k st t:=by intro a w j;have⟨o,p,M,β,q,r,I⟩:=j;exact h a w ⟨o,p,M,β,q,r,I.wide g f⟩
def Gh(P:Program)(C:Cx)(Q:St->Prop)(st:St):Prop:=∃e,(∀a w,Rel P C st a w->Rel P C e a w)/\Q e
def Gh.no{C:Cx}{Q:St->Prop}{st:St}(h:Q st):Gh P C Q st:=⟨st,λ_ _ h=>h,h⟩
variable {P:Program}{C:Cx}
section
variable {s:Heap}{U:Nat->Prop}{M:Mem}{β:Loc}{w:World}
def U7.newRaw(h:U7 P C s U M β w){ver:Nat}(A:¬U ver)(id:Nat)(o:Obj):
 U7 P C (upd s id (some (ver,.raw o))) (λv=>U v\/v=ver) M (Zs β id ver (some (w.heap.size,0))) (w.alloc o)/\BLe β (Zs β id ver (some (w.heap.size,0))):=by
 have u:BLe β (Zs β id ver (some (w.heap.size,0))):=Y9 (h.fresh A id);have e:∀o,M w.heap.size o=none:=by
  intro o;cases g:M w.heap.size o with
  |none=>rfl
  |some x=>exact absurd (h.mem.lt g) (IE _)
 have f:∀k,k≠w.heap.size->(w.alloc o).heap[k]? = w.heap[k]?:=by intro k B;show(w.heap.push _)[k]? = _;rw[Array.getElem?_push,Wj B]
 have j:(w.alloc o).heap[w.heap.size]? = some o:=World.alloc_heap_new w o;refine⟨h.set id ver (.raw o) w.heap.size 0 (MLe.refl M) u f (λ_ _ _=>rfl) ?_ (XF ..) ⟨rfl,e,j⟩ ?_ (.inl h.keep.size) ?_ rfl rfl rfl ?_ Zj,u⟩
 .intro o x g;rw[e o]at g;cases g
 .intro p D q r _ E g;have⟨y,z,G⟩:=h.obs p D q E;rw[g]at z;obtain rfl:some (w.heap.size,r)=y:=by simpa using z
  exact absurd G.lt (IE _)
 .intro I;exact absurd h.keep.size ab
 simp
def U7.raw(h:U7 P C s U M β w){id ver b e:Nat}{o:Obj}(f:s id=some (ver,.raw o))(hb:β id ver=some (some (b,e))):e=0/\(∀i,M b i=none)/\w.heap[b]? = some o:=by
 have⟨x,j,g⟩:=h.obs id ver _ f;obtain rfl:some (b,e)=x:=by simp_all
 exact g
def U7.putRaw(h:U7 P C s U M β w){id ver b z:Nat}{o:Obj}(f:s id=some (ver,.raw o))(hb:β id ver=some (some (b,z)))(o':Obj):
 U7 P C (upd s id (some (ver,.raw o'))) U M β (w.putObj b o'):=by
 obtain⟨rfl,A,B⟩:=h.raw f hb;have g:b<w.heap.size:=(Array.getElem?_eq_some_iff.1 B).1;have:=h.set (M':=M) (β':=β) (w':=w.putObj b o') id ver (.raw o') b 0 (MLe.refl M) (BLe.refl β) (λk D=>World.putObj_heap_other D) (λ_ _ _=>rfl) ?_ hb ⟨rfl,A,World.putObj_heap_same g⟩ ?_ (by have:=h.own id ver _ b 0 f hb;exact this) (λ_ _=>rfl) rfl rfl rfl ac (λ_ _ _ e=>.inl e)
 .exact this.mono λv y=>by
   rcases y with y|rfl
   .omega
   exact h.used id _ _ hb
 .simp_all
 intro j E p q r u x;exact r (h.inj j E p id ver _ b q 0 u f x hb)
end
@[reducible] def Cx.inR(C:Cx)(l:Nat)(x:Mem×Loc):Cx:=⟨C.G,C.M0,C.w0,C.lb,x.2,x.1,C.off,some l,[]⟩
@[reducible] def Cx.mk'(C:Cx)(b:Loc)(D:Nat):Cx:=⟨C.G,C.M0,C.w0,C.lb,b,C.M1,C.off,C.rd,[{target:=.collected D,args:=#[]}]⟩
def YieldX.of{args:List D}{dst:Option Nat}{st:St}{K:St->Prop}{l kr v:Nat}{r:Loop}{cA cB:Code}{p1 p2:Nat}{q B:D}(tO:Nat->D)(nO m:Nat)(hs:st.s kr=some (v,.raw (.loop r)))(Z:r.state=.ready)(hA:r.assign=cA)(hB:r.body=cB)(hps:r.params=#[p1,p2])(E:p1<nO)(hp2:p2<nO)(u:args=[q,B])(hb:C.b0 kr v=some (some (l,0)))(y:r.tmps.size=nO)(hO:∀x,Rep P C.M1 C.b0 (tO x) (r.tmps.getD x undef))(h:∀x,run P (C.inR l x) (λ_=>False) m [.code cA,.stop λf=>f.s kr=some (v,.raw (.loop r)) /\
  run P (C.inR l x) (λsc=>sc.s kr=some (v,.raw (.loop {r with state:=.busy}))/\K (nxS st (XH dst st.n) (.v (.bool false)) (upd sc.s kr (some (v,.raw (.loop {r with state:=.done,pending:=some .ret})))) st.n sc.k)) m
   [.code cB,.stop λsc=>sc.s kr=some (v,.raw (.loop {r with state:=.busy}))/\K (nxS st (XH dst st.n) (.v (.bool true)) (upd sc.s kr (some (v,.raw (.loop {r with state:=.ready,pending:=none})))) st.n sc.k)]
   ⟨f.t,upd f.s kr (some (v,.raw (.loop {r with state:=.busy}))),f.n,f.k⟩] ⟨upd (upd tO p1 q) p2 B,st.s,nO,st.k⟩)(t:Prf args):YieldX P C l args dst st K t:=by
 intro M β w vs Y I G;subst u;obtain⟨j,_,rfl,hr1,L,_,rfl,hr2,rfl⟩:=G;have hl:=(I.raw hs (Y _ _ _ hb)).2.2;refine⟨r.fn,_,r.assign,r.body,run_yield hl (by simp_all),roundIn_of_wpIn trivial ?_⟩;have A:Rel P (C.inR l (M,β)) ⟨upd (upd tO p1 q) p2 B,st.s,nO,st.k⟩ ((({tmps:=r.tmps,defers:=[]}:Act).put (some p1) j).put (some p2) L) w:=by
  have hb:∀x,Rep P M β (tO x) (r.tmps.getD x undef):=λx=>(hO x).mono I.le Y;have hI:U7 P (C.inR l (M,β)) st.s (·<st.k) M β w:=⟨I.mem,I.used,I.obs,I.own,I.inj,I.keep,I.old,MLe.refl M,λg cs hg=>RepC.mono I.le (I.glob g cs hg)⟩
  have h1:=OD (C:=C.inR l (M,β)) (st:=⟨tO,st.s,nO,st.k⟩) (a:={tmps:=r.tmps,defers:=[]}) (dst:=some p1) (d:=q) (v:=j) rfl y (BLe.refl β) hb (MLe.refl M) (BLe.refl β) hI hr1;simp only[XH,Wm E,nxS]at h1;have N:(({tmps:=r.tmps,defers:=[]}:Act).put (some p1) j).tmps.size=nO:=by simpa [Act.put]using y
  have hb1:∀x,Rep P M β (upd tO p1 q x) ((({tmps:=r.tmps,defers:=[]}:Act).put (some p1) j).tmps.getD x undef):=λx=>by
   have e:(({tmps:=r.tmps,defers:=[]}:Act).put (some p1) j).tmps.getD x undef=if x=p1 then j else r.tmps.getD x undef:=by
    simp only[Act.put];by_cases hy:x=p1
    .subst hy;rw[Wm rfl];simp[y,E]
    rw[Wj hy];simp[Ne.symm hy]
   rw[e];unfold upd;grind
  have h2:=OD (C:=C.inR l (M,β)) (st:=⟨upd tO p1 q,st.s,nO,st.k⟩) (a:=({tmps:=r.tmps,defers:=[]}:Act).put (some p1) j) (dst:=some p2) (d:=B) (v:=L) rfl N (BLe.refl β) hb1 (MLe.refl M) (BLe.refl β) hI hr2;simpa only[XH,Wm hp2,nxS]using h2
 have O:Rel P (C.inR l (M,β)) ⟨upd (upd tO p1 q) p2 B,st.s,nO,st.k⟩ {tmps:=(r.params.zip #[j,L]).foldl (λtmps (t,a)=>tmps.setIfInBounds t a) r.tmps,defers:=[]} w:=by rw[hps,show(#[p1,p2].zip #[j,L])=#[(p1,j),(p2,L)] by simp];exact A
 rw[hA,hB];refine wpIn_mono (Yj m _ O (h (M,β))) ?_;intro e a1 w1 o;cases e with
 |normal=>
  have⟨f,⟨g1,g2,M1,β1,g0,g3,J⟩,R,S⟩:=o;have T:=g0 _ _ _ (Y _ _ _ hb);have hl1:=(J.raw R T).2.2;refine⟨_,run_beginRound hl1 Z,?_⟩;refine wpIn_mono (Yj m _ (st:=⟨f.t,upd f.s kr (some (v,.raw (.loop {r with state:=.busy}))),f.n,f.k⟩) ⟨g1,g2,M1,β1,g0,g3,J.putRaw R T _⟩ S) ?_;intro e a2 w2 o;have fin:∀(jump:Option Code) (sc:St),Rel P (C.inR l (M,β)) sc a2 w2->sc.s kr=some (v,.raw (.loop {r with state:=.busy})) ->
   K (nxS st (XH dst st.n) (.v (.bool jump.isNone)) (upd sc.s kr (some (v,.raw (.loop {r with state:=if jump.isNone then .ready else .done,pending:=jump})))) st.n sc.k) ->
   ∃v' w',(Instr.endRound l jump).run P w2=.ok v' w'/\∃v d s' k' M' β',Ending.returned v'=.returned v/\U7 P C s' (·<k') M' β' w'/\Rep P M' β' d v/\MLe M M'/\BLe β β'/\K (nxS st (XH dst st.n) d s' st.n k'):=by
   rintro jump sc ⟨k1,k2,M2,β2,k0,k3,J2⟩ V W
   have p:=k0 _ _ _ (Y _ _ _ hb)
   have hl2:=(J2.raw V p).2.2
   refine⟨_,_,run_endRound jump hl2,_,.v (.bool jump.isNone),_,sc.k,M2,β2,rfl,?_,by simp[Rep,wfV],J2.le,k0,W⟩
   have J3:=J2.putRaw V p (.loop {r with state:=if jump.isNone then .ready else .done,pending:=jump})
   exact⟨J3.mem,J3.used,J3.obs,J3.own,J3.inj,J3.keep,J3.old,I.le.trans J3.le,I.glob⟩
  cases e with
  |normal=>have⟨sc,G,hc,W⟩:=o;exact fin none sc G hc W
  |ret=>have⟨sc,G,hc,W⟩:=o;exact fin (some .ret) sc G hc W
  |exit id=>exact o.elim
  |_=>exact o.elim
 |ret=>have⟨_,_,hf⟩:=o;assumption
 |exit id=>assumption
 |_=>exact o.elim
def XtO(FN FR:Loop->St->Prop)(e v:Nat)(st:St):Prop:=
 ∃r:Loop,st.s e=some (v,.raw (.loop r))/\r.state≠.busy/\((r.pending=none/\FN r st)\/(r.pending=some .ret/\FR r st))
def XsB{a:Act}{w:World}{st:St}{R:AW}{k:List It}{g:Operand}{ps:Array Tmp}{cA cB:Code}(hrd:C.rd=none)(hdf:C.df=[])(hr:Rel P C st a w){gf:FuncId}{caps:List D}(hg:ev st.t C.G g=.clo (.func gf) [] caps)(j kd:Nat)(hne:j≠kd){fn:Func}{nt:Nat}(z:(P.funcs[gf]?,fn.body,fn.name== "runtime.NumGoroutine",fn.results,fn.ntmps,(caps.length+1).ble nt)=(some fn,some (fn.body.get!),false,⟨[]⟩,nt,true))(off m:Nat)(h:∀(l D:Nat) (r:Loop) (x:Mem×Loc),r.state=.ready->r.pending=none->r.params=ps->r.assign=cA->r.body=cB->r.tmps.size=st.n->x.2 j (st.k+1)=some (some (l,0))->x.2 kd st.k=some (some (D,0)) ->
  (∀y,Rep P x.1 x.2 (st.t y) (r.tmps.getD y undef))->BLe C.b0 x.2 ->
  run P (C.sub off x) (XtO
      (λq f=>∀p w',Rel P (C.mk' x.2 D) ⟨st.t,upd f.s j (some (st.k+1,.raw (.loop {q with state:=.exhausted}))),st.n,f.k⟩ p w'->sem P C R k none p w')
      (λq f=>∀p w',Rel P (C.mk' x.2 D) ⟨st.t,upd f.s j (some (st.k+1,.raw (.loop {q with state:=.exhausted}))),st.n,f.k⟩ p w'->R p w') j (st.k+1)) m
   [.code (fn.body.get!)] (stI (.clo (.yield l) [] []::caps) (upd (upd st.s kd (some (st.k,.raw (.deferred (some []))))) j (some (st.k+1,.raw (.loop r)))) nt (st.k+2))):
 (Code.rangeFunc g ps cA cB).wpIn (fz C.rd) 0 P (Jw R (sem P C R k)) a w:=by
 injection z with L z;injection z with hb z;injection z with hn z;injection z with hrs z;injection z with hnt u;have u:=Nat.le_of_ble_eq_true u;have⟨h1,h2,M,β,h0,h3,I⟩:=hr;have A:=XbU I h3 g;rw[hg]at A;have⟨_,vb,A,rfl,K⟩:=A;refine wpIn_rangeFunc ?_;intro fi _;rw[show(fz C.rd).round=none from hrd];have⟨r,E⟩:∃r:Loop,r={state:=.ready,pending:=none,fn:=fi,tmps:=a.tmps,params:=ps,assign:=cA,body:=cB,defers:=w.heap.size}:=⟨_,rfl⟩
 have⟨W1,N⟩:∃W1,(w.alloc (.deferred (some []))).alloc (.loop r)=W1:=⟨_,rfl⟩
 refine⟨w.heap.size+1,[{target:=.collected w.heap.size,args:=#[]}],W1,{target:=.fn (.func gf) ⟨vb⟩,args:=#[.func (.yield (w.heap.size+1)) #[] #[]]},W1,gf,
  #[.func (.yield (w.heap.size+1)) #[] #[]]++⟨vb⟩,W1,?_,?_,λ_ _=>trivial,?_,λe=>(by cases e),?_⟩
 .rw[←N,E];exact run_enterLoop_outer _ _ _ _ _
 .simp only[resolve,A];simp[go_sem,Deferred.ofValue,pure]
 .have hn':¬fn.name = "runtime.NumGoroutine":=by simpa using hn
  have hb':¬fn.body=none:=by intro h0;rw[h0]at hb;simp at hb
  simp[go_sem,invoke,callFunc,L,hb',hn']
 refine Xdo (calls_of_wp L hb ?_);have⟨I1,hB1⟩:=I.newRaw (ver:=st.k) (λh=>absurd h (IE _)) kd (.deferred (some []));have⟨I2,B⟩:=I1.newRaw (ver:=st.k+1) (λh=>ab) j (.loop r);rw[World.size_alloc]at I2 B;rw[N]at I2;have O:=hB1.trans B;generalize hβ2:Zs (Zs β kd st.k (some (w.heap.size,0))) j (st.k+1) (some (w.heap.size+1,0))=β2 at I2 B O;have S:β2 j (st.k+1)=some (some (w.heap.size+1,0)):=by rw[←hβ2];exact XF ..
 have hkd:β2 kd st.k=some (some (w.heap.size,0)):=B _ _ _ (XF ..);have I3:U7 P (C.sub off (M,β2)) (upd (upd st.s kd (some (st.k,.raw (.deferred (some []))))) j (some (st.k+1,.raw (.loop r)))) (·<st.k+2) M β2 W1:=
  ⟨I2.mem,λi v x e=>by rcases I2.used i v x e with(h|h)|h<;>omega,I2.obs,I2.own,I2.inj,I2.keep,I2.old,MLe.refl M,λg cs hg=>RepC.mono I.le (I.glob g cs hg)⟩
 have hvs:RepL P M β2 (.clo (.yield (w.heap.size+1)) [] []::caps) (.func (.yield (w.heap.size+1)) #[] #[]::vb):=by simp only[RepL,Rep];exact⟨_,_,rfl,⟨[],[],rfl,rfl,rfl⟩,K.mono (MLe.refl M) O⟩
 have e0:(#[.func (.yield (w.heap.size+1)) #[] #[]]++(⟨vb⟩:Array Value))=(⟨.func (.yield (w.heap.size+1)) #[] #[]::vb⟩:Array Value):=by simp
 rw[e0];have T:Rel P (C.sub off (M,β2)) (stI (.clo (.yield (w.heap.size+1)) [] []::caps) (upd (upd st.s kd (some (st.k,.raw (.deferred (some []))))) j (some (st.k+1,.raw (.loop r)))) nt (st.k+2)) _ W1:=K9 rfl (BLe.refl _) hvs hnt ab I3;have V:=Yj m _ T (h (w.heap.size+1) w.heap.size r (M,β2) (by grind) (by grind) (by grind) (by grind) (by grind) (by grind) S hkd (λy=>by rw[E];exact(h3 y).mono (MLe.refl M) O) (h0.trans O));refine wp_mono ((wpIn_wide (n:=0)).1 V) ?_
 have fin:∀Z w1,Zp P (C.sub off (M,β2)) (XtO
  (λq f=>∀p w',Rel P (C.mk' β2 w.heap.size) ⟨st.t,upd f.s j (some (st.k+1,.raw (.loop {q with state:=.exhausted}))),st.n,f.k⟩ p w'->sem P C R k none p w')
  (λq f=>∀p w',Rel P (C.mk' β2 w.heap.size) ⟨st.t,upd f.s j (some (st.k+1,.raw (.loop {q with state:=.exhausted}))),st.n,f.k⟩ p w'->R p w') j (st.k+1)) Z w1 ->
  Z.defers=[]/\∃v,(results fn Z.tmps).run P w1=.ok v w1/\rangePost (fz C.rd) 0 P (w.heap.size+1) (Jw R (sem P C R k)) {a with defers:=[{target:=.collected w.heap.size,args:=#[]}]++a.defers} (.returned v) w1:=by
  rintro Z w1 ⟨f,⟨g1,g2,M',β',g0,g3,J⟩,q,W,Y,hor⟩
  obtain⟨v,hv,_⟩:=Vo J g3 hrs (ds:=[]) (c:=True) rfl trivial
  have hl:=g0 _ _ _ S
  refine⟨g1,v,hv,_,_,run_endLoop (J.raw W hl).2.2 Y,?_⟩
  have J2:=J.putRaw W hl (.loop {q with state:=.exhausted})
  have o:Rel P (C.mk' β2 w.heap.size) ⟨st.t,upd f.s j (some (st.k+1,.raw (.loop {q with state:=.exhausted}))),st.n,f.k⟩ {a with defers:=[{target:=.collected w.heap.size,args:=#[]}]++a.defers} (w1.putObj (w.heap.size+1) (.loop {q with state:=.exhausted})):=by
   refine⟨by grind,h2,M',β',g0,λx=>(h3 x).mono J.le (O.trans g0),⟨J2.mem,J2.used,J2.obs,J2.own,J2.inj,J2.keep,J2.old,I.le.trans J2.le,I.glob⟩⟩
  generalize w1.putObj (w.heap.size+1) (.loop {q with state:=.exhausted})=w4 at o⊢
  rcases hor with⟨hp,L⟩|⟨hp,L⟩
  .rw[hp];exact L _ _ o
  .rw[hp];exact wpIn_ret (L _ _ o)
 intro e p w' hq;cases e with
 |normal=>exact fin p w' hq
 |ret=>exact fin p w' hq
 |exit id=>assumption
 |_=>exact hq.elim
def Xi5(P:Program)(C:Cx)(Q:St->Prop):AW:=λa w=>∃D kd v e,BLe C.b0 e/\e kd v=some (some (D,0)) /\
 Zp P (C.mk' e D) (λst=>st.s kd=some (v,.raw (.deferred (some [])))/\Q ⟨st.t,upd st.s kd (some (v,.raw (.deferred none))),st.n,st.k⟩) a w
def Xdy{G:Nat->Option (List D)}{f:FuncId}{fn:Func}{body:Code}{rs:List ResultVar}{args:List D}{lent:List Ob}{R':D->List Ob->Prop}(fr:List Nat)(nt:Nat)(L:P.funcs[f]? = some fn)(hb:fn.body=some body)(S:(fn.name== "runtime.NumGoroutine")=false)(p:fn.results=⟨rs⟩)(A:fn.ntmps=nt)(o:args.length<=nt)(h:∀(C:Cx)x,C.G=G->C.lb.length=lent.length->WfL P args->∀a w,Rel P (C.sub 0 x) (st0 args lent nt) a w ->
  sem P (C.sub 0 x) (λa w=>Zp P (C.sub 0 x) (JW P rs fr lent.length R') a w\/Xi5 P (C.sub 0 x) (JW P rs fr lent.length R') a w) [.code body] none a w):YV P G f args lent R':=by
 refine⟨⟨fn,L,by grind,S⟩,λM w vs lb T V g B E q=>?_⟩;refine callsIn_wide.1 (callsIn_of_wp_marks (F:=Fence.wide) (n:=0) L hb trivial ?_);have I0:=Xb1 (G:=G) T V g B E;have r:Rel P ⟨G,M,w,lb.map (·.1),Kf lb,M,0,none,[]⟩ (st0 args lent nt) _ w:=K9 rfl (BLe.refl _) q A o I0;have u:=h ⟨G,M,w,lb.map (·.1),Kf lb,M,0,none,[]⟩ (M,Kf lb) rfl (by simp_all) q.wf _ _ r;refine wpIn_mono u ?_;have fin:∀a w',(Zp P ⟨G,M,w,lb.map (·.1),Kf lb,M,0,none,[]⟩ (JW P rs fr lent.length R') a w'\/Xi5 P ⟨G,M,w,lb.map (·.1),Kf lb,M,0,none,[]⟩ (JW P rs fr lent.length R') a w') ->
  LeavesInM Fence.wide 0 P fn a.tmps (XpJ P M w lb R') a.defers .returning w':=by
  rintro a w' (j|⟨D,kd,v,W,J,K,j⟩)
  .have hd:a.defers=[]:=by obtain⟨st,z,_⟩:=j;exact z.1
   rw[hd]
   exact Xbr rfl (BLe.refl _) g p a w' j
  .have⟨st,⟨z,Y,M',β',N,Z,I⟩,O,y⟩:=j
   rw[z]
   have R:=N _ _ _ K
   have hh:=(I.raw O R).2.2
   refine⟨ac,.inl ⟨D,_,rfl,run_takeDeferred hh,?_⟩⟩
   exact Xbr (C:=Cx.mk' ⟨G,M,w,lb.map (·.1),Kf lb,M,0,none,[]⟩ W D) rfl J g p a _ ⟨⟨st.t,upd st.s kd (some (v,.raw (.deferred none))),st.n,st.k⟩,⟨z,Y,M',β',N,Z,I.putRaw O R _⟩,y⟩
 intro e a w' j;cases e with
 |normal=>exact fin a w' j
 |ret=>exact fin a w' j
 |exit id=>assumption
 |_=>exact j.elim
variable {P:Program}{C:Cx}
def XlD{R:AW}{id:Nat}{c:Code}{k:List It}{a:Act}{w:World}(h:sem P C R (.code c::.blk id::k) none a w):sem P C R (.code (.block id c)::k) none a w:=by
 refine wpIn_block (wpIn_mono h ?_);intro e g w' f;cases e with
 |exit i=>
  simp only[Exit.inBlock];have f:sem P C R (.blk id::k) (some i) g w':=f;unfold sem at f;split at f<;>rename_i e
  .rw[Wm e];exact f
  rw[Wj e];exact f
 |_=>exact f
def Xnw:List It->Bool
 |[]=>true
 |.stop _::_=>false
 |.ops _ _::_=>false
 |_::k=>Xnw k
def Jo{C':Cx}(hrd:C'.rd=C.rd){R R':AW}(g:∀a w,R' a w->R a w):∀(k:List It),Xnw k=true->∀e a w,sem P C' R' k e a w->sem P C R k e a w
 |[],_,none,a,w,h=>g a w h
 |[],_,some _,a,w,h=>h.elim
 |.blk j::k,f,none,a,w,h=>Jo hrd g k f none a w h
 |.blk j::k,f,some i,a,w,h=>by
  unfold sem at h⊢;split
  .rename_i e;rw[Wm e]at h;exact Jo hrd g k f none a w h
  rename_i e;rw[Wj e]at h;exact Jo hrd g k f (some i) a w h
 |.code c::k,f,some i,a,w,h=>Jo hrd g k f (some i) a w h
 |.code c::k,f,none,a,w,h=>by
  have h:c.wpIn (fz C'.rd) 0 P (Jw R' (sem P C' R' k)) a w:=h;rw[hrd]at h;refine wpIn_mono h ?_;intro e p w' o;cases e with
  |normal=>exact Jo hrd g k f none p w' o
  |exit i=>exact Jo hrd g k f (some i) p w' o
  |ret=>exact g p w' o
  |_=>exact o
def XrE:List It->Bool
 |[]=>true
 |.ops _ _::_=>false
 |_::k=>XrE k
def KC{R R':AW}(g:∀a w,R' a w->R a w):∀(k:List It),XrE k=true->∀e a w,sem P C R' k e a w->sem P C R k e a w
 |[],_,none,a,w,h=>g a w h
 |[],_,some _,a,w,h=>h.elim
 |.stop _::k,_,none,a,w,h=>h
 |.stop _::k,f,some i,a,w,h=>KC g k f (some i) a w h
 |.blk j::k,f,none,a,w,h=>KC g k f none a w h
 |.blk j::k,f,some i,a,w,h=>by
  unfold sem at h⊢;split
  .rename_i e;rw[Wm e]at h;exact KC g k f none a w h
  rename_i e;rw[Wj e]at h;exact KC g k f (some i) a w h
 |.code c::k,f,some i,a,w,h=>KC g k f (some i) a w h
 |.code c::k,f,none,a,w,h=>by
  refine wpIn_mono h ?_;intro e p w' o;cases e with
  |normal=>exact KC g k f none p w' o
  |exit i=>exact KC g k f (some i) p w' o
  |ret=>exact g p w' o
  |_=>exact o
def Xbu{R:AW}{g j:List It}(h:∀e a w,sem P C R g e a w->sem P C R j e a w):∀(k1:List Code) (e:Option Nat) (a:Act) (w:World),sem P C R (k1.map It.code++g) e a w->sem P C R (k1.map It.code++j) e a w
 |[],e,a,w,f=>h e a w f
 |c::k1,none,a,w,f=>by
  refine wpIn_mono f ?_;intro e k w' f;cases e with
  |normal=>exact Xbu h k1 none k w' f
  |exit i=>exact Xbu h k1 (some i) k w' f
  |_=>exact f
 |_::k1,some i,a,w,f=>Xbu h k1 (some i) a w f
def Xqv{R:AW}{x y:Code}{k:List It}(e:Option Nat)(a:Act)(w:World)(h:sem P C R (.code x::.code y::k) e a w):sem P C R (.code (.seq x y)::k) e a w:=by
 cases e with
 |some i=>exact h
 |none=>refine wpIn_seq (wpIn_mono h ?_);intro e g w' f;cases e<;>exact f
variable {P:Program}
def XsC{C:Cx}{s:Heap}{id v T z:Nat}{g J:List D}{c:Prop}{l:List Nat}(Z:s id=some (v,.arr true T z [g] 0))(K:ZO s g=some (c,J,l))(hc:c)(V:J.length=z):RoA P C s [.ept id v z 0 0] [.ipt z J 0]:=by
 intro s' U M β w vs p I hr;have q:=p _ _ Z;have r:=Jm p K;obtain⟨y,_,rfl,⟨b,W,hb,rfl⟩,rfl⟩:=hr;have⟨M1,I1,Y,hF⟩:=I.freeze l;have⟨x,hx,L⟩:=I.obs id v _ q;obtain rfl:some (b,W)=x:=by simp_all
 have⟨f,T0,k1,k2,k3,k4,k5,k6,k7,k8,k9,N⟩:=L;have O:g.length=z:=k3 g ac;have R:frz s' l id=some (v,.arr true T z [g] 0):=by
  unfold frz;split
  .rw[q];rfl
  omega
 have⟨x1,hx1,u⟩:=I1.obs id v _ R;obtain rfl:some (b,W)=x1:=by simp_all
 obtain⟨_,_,_,_,_,_,_,_,_,_,j9,_⟩:=u;have A:∀i,i<z->∃d x,g[i]? = some d/\f[i]? = some x/\Rep P M β d x:=λi G=>by have hd:g[i]? = some (g[i]'ab):=Wb _;obtain⟨x,B,k⟩:=N i _ (by rw[List.flatten_cons,List.flatten_nil,Ih];exact hd);exact⟨_,x,hd,B,k⟩
 have hsz:z<=f.size:=by
  rcases Um z with h|h
  .omega
  grind
 have hL:RepL P M β g (f.toList.take z):=by
  refine RepL.of (by simp_all) λi d x B k=>?_;have G:i<z:=by rw[←O];exact(Ia.1 B).1
  obtain⟨d',x',g1,g2,g3⟩:=A i G;rw[B]at g1;cases g1;rw[List.getElem?_take_of_lt G,U2,g2]at k;cases k;exact g3
 have S:=Km I Y r hc hF hL;let M2:Mem:=λj o=>if j=b/\o<z then f[o]? else M1 j o
 have E:MLe M1 M2:=λj o x h=>by grind
 refine⟨M2,Y.trans E,λj o x h=>?_,?_⟩
 .have h:(if j=b/\o<z then f[o]? else M1 j o)=some x:=h;split at h
  .rename_i e;rw[e.1,cell_of_row w b o f T0 (0,0) k1];grind
  exact I1.mem j o x h
 refine⟨_,_,rfl,⟨V,b,0,ac,RepC.of λi d hd=>?_⟩,rfl⟩;have⟨x,B,k⟩:=S.get i d hd;have G:i<z:=by rw[←V];exact(Ia.1 hd).1
 exact⟨x,by grind,k.mono E (BLe.refl _)⟩
variable {P:Program}{C:Cx}{st:St}{a:Act}{w:World}
def XtP{c:Code}{Q:St->Prop}{K:Exit->AW}(hrd:C.rd=none)(j:Rel P C st a w)(m:Nat)(h:run P C (λ_=>False) m [.code c,.stop Q] st)(k:∀st a w,Rel P C st a w->Q st->K .normal a w):c.wpIn Fence.wide 0 P K a w:=by
 have g:c.wpIn (fz C.rd) 0 P (Jw (Zp P C λ_=>False) (sem P C (Zp P C λ_=>False) [.stop Q])) a w:=Yj m _ j h;rw[hrd]at g;refine wpIn_mono g ?_;intro e r w' f;cases e with
 |normal=>have⟨o,p,q⟩:=f;grind
 |ret=>have⟨_,_,u⟩:=f;simp_all
 |_=>exact f.elim
def XtQ{c:Code}{Q:St->Prop}{K:Exit->AW}(hrd:C.rd=none)(j:Rel P C st a w)(m:Nat)(h:run P C Q m [.code c] st)(k:∀a w,Zp P C Q a w->K .normal a w/\K .ret a w):c.wpIn Fence.wide 0 P K a w:=by
 have g:c.wpIn (fz C.rd) 0 P (Jw (Zp P C Q) (sem P C (Zp P C Q) [])) a w:=Yj m _ j h;rw[hrd]at g;refine wpIn_mono g ?_;intro e o w' f;cases e with
 |normal=>exact(k _ _ f).1
 |ret=>exact(k _ _ f).2
 |_=>exact f.elim
@[reducible] def Cx.dfr(C:Cx)(M:Mem)(β:Loc)(l:List Deferred):Cx:=⟨C.G,C.M0,C.w0,C.lb,β,M,C.off,none,l⟩
def U7.dfr{s:Heap}{U:Nat->Prop}{M:Mem}{β:Loc}(l:List Deferred)(I:U7 P C s U M β w):U7 P (C.dfr M β l) s U M β w:=
 ⟨I.mem,I.used,I.obs,I.own,I.inj,I.keep,I.old,MLe.refl _,λg e f=>RepC.mono I.le (I.glob g e f)⟩
def Xnx{o:Oper}{c:Call}{x:Operand}{g:Nat}{caps:List D}(j:o.op=.defer c)(q:c.callee=.value x)(r:c.args=#[])(hd:o.dst=none)(u:ev st.t C.G x=.clo (.func g) [] caps)(hrd:C.rd=none)(v:C.df=[])(y:Rel P C st a w){K:AW}{Q:Exit->AW}(k:∀vb M β,RepL P M β caps vb->BLe C.b0 β->∀a,Rel P (C.dfr M β [⟨.fn (.func g) ⟨vb⟩,#[]⟩]) st a w->K a w):o.wpIn Fence.wide 0 P a w K Q:=by
 have⟨E,z,M,β,A,p,I⟩:=y;have f:=XbU I p x;rw[u]at f;obtain⟨va,vb,e,rfl,hb⟩:=f;refine⟨λ_ _=>trivial,?_⟩;rw[show Fence.wide.round=none from rfl,Oper.semAt_none];have B:(execOp a.eval o).run P w=.ok (.defer ⟨.fn (.func g) ⟨vb⟩,#[]⟩) w:=by have h:=Xcs (P:=P) (g:=g) (va:=[]) (vb:=vb) (vs:=[]) (w:=w);unfold execOp;simp only[j,resolve,q,r,e];simp only[Array.map_empty]at h⊢;simp[go_sem,h]
 rw[B,Oper.uponIn_defer,hd];exact k vb M β hb A _ ⟨by show _::a.defers=_;simp_all,z,M,β,BLe.refl _,p,I.dfr _⟩
def Xi6{fn gn:Func}{g:FuncId}{tmps:Array Value}{R:Ending->World->Prop}{vb:List Value}{u:FrameMode}(o:u≠.run)(p:P.funcs[g]? = some gn)(hb:gn.body.isNone=false)(q:(gn.name== "runtime.NumGoroutine")=false)(h:CallsDIn Fence.wide 0 P g ⟨vb⟩ u w λe f w'=>(∃v,e=.returned v)/\settle f=.returning/\∃v,(results fn tmps).run P w'=.ok v w'/\R (.returned v) w'):
 LeavesIn Fence.wide 0 P fn tmps R [⟨.fn (.func g) ⟨vb⟩,#[]⟩] u w:=by
 have j:¬gn.name = "runtime.NumGoroutine":=by simpa using q
 have k:¬gn.body=none:=by intro r;rw[r]at hb;simp at hb
 refine⟨o,λe=>(by cases e),.func g,⟨vb⟩,g,⟨vb⟩,rfl,by simp[go_sem,invoke,callFunc,p,k,j],λ_ _=>trivial,h.mono ?_⟩;rintro e f w' ⟨⟨v,rfl⟩,x,y⟩;show LeavesIn Fence.wide 0 P fn tmps R [] (settle f) w';rw[x];exact y
def XeO{G:Nat->Option (List D)}{f:FuncId}{fn:Func}{body:Code}{rs:List ResultVar}{args:List D}{lent:List Ob}{R':D->List Ob->Prop}(fr:List Nat)(nt:Nat)(u:P.funcs[f]? = some fn)(hb:fn.body=some body)(y:(fn.name== "runtime.NumGoroutine")=false)(o:fn.results=⟨rs⟩)(p:fn.ntmps=nt)(g:args.length<=nt)(h:∀(C:Cx)x(R:Ending->World->Prop),C.G=G->C.lb.length=lent.length->WfL P args ->
  (∀C':Cx,C'.lb=C.lb->C'.M0=C.M0->C'.w0=C.w0->BLe x.2 C'.b0->∀a w',Zp P C' (JW P rs fr lent.length R') a w'->∃v,(results fn a.tmps).run P w'=.ok v w'/\R (.returned v) w') ->
  ∀a w,Rel P (C.sub 0 x) (st0 args lent nt) a w->body.wpIn Fence.wide 0 P (bodyPostDIn Fence.wide 0 P fn R) a w):YV P G f args lent R':=by refine⟨⟨fn,u,by simp[hb],y⟩,λM w I lb z A e q r j=>?_⟩;refine callsIn_wide.1 (callsIn_of_wp_defers (F:=Fence.wide) (n:=0) u hb trivial ?_);have I0:=Xb1 (G:=G) z A e q r;have k:Rel P ⟨G,M,w,lb.map (·.1),Kf lb,M,0,none,[]⟩ (st0 args lent nt) _ w:=K9 rfl (BLe.refl _) j p g I0;refine h ⟨G,M,w,lb.map (·.1),Kf lb,M,0,none,[]⟩ (M,Kf lb) _ rfl (by rw[←e];exact Ug ..) j.wf (λC' B J e3 e4 a w' E=>?_) _ _ k;have:=Xbr (C:=C') (rs:=rs) (fr:=fr) B e4 e o a w' E;simp_all
variable {P:Program}{C:Cx}{st:St}{a:Act}{w:World}
def XtR:List Code->Code->Code
 |[],c=>c
 |x::l,c=>.seq x (XtR l c)
def XaW{R:AW}{Q:St->Prop}{i:Nat}:∀(l:List Code) {a:Act} {w:World},sem P C R (l.map It.code++[.stop Q]) (some i) a w->False
 |[],_,_,h=>h
 |_::l,_,_,h=>XaW l h
def Xi7{Q:St->Prop}{K:Exit->AW}(hrd:C.rd=none){c:Code}(k:∀st a w,Rel P C st a w->Q st->c.wpIn Fence.wide 0 P K a w):∀(l:List Code) (a:Act) (w:World),
 sem P C (Zp P C λ_=>False) (l.map It.code++[.stop Q]) none a w->(XtR l c).wpIn Fence.wide 0 P K a w
 |[],a,w,h=>by have⟨st,j,f⟩:=h;exact k st a w j f
 |x::l,a,w,h=>by
  have g:x.wpIn (fz C.rd) 0 P (Jw (Zp P C λ_=>False) (sem P C (Zp P C λ_=>False) (l.map It.code++[.stop Q]))) a w:=h;rw[hrd]at g;refine wpIn_seq (wpIn_mono g ?_);intro e o w' f;cases e with
  |normal=>exact Xi7 hrd k l o w' f
  |ret=>have⟨_,_,p⟩:=f;simp_all
  |exit i=>exfalso;exact XaW l f
  |_=>exact f.elim
end Go.Sx
