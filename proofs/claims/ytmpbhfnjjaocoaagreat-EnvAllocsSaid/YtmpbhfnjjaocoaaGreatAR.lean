import Derived.Maps.RangeRun
import Derived.ProofKit
import Derived.LaidMore
import Derived.OpenShut
import Derived.Stop.Joined
import Derived.ChangeSame
import Derived.Carry
import Derived.RangeFuncLeaves
import Derived.RangeFuncRecord
import Derived.RangeFuncIn
import Derived.RecoverIn
import Derived.Test.YtmpbhfnjjaocoaaGreatAB
set_option linter.all false
namespace Go.Sx
open Go.MapKept
variable {P:Program}{C:Cx}
def XbJ{R:AW}{Q:St->Prop}{k2:List It}(hQ:∀st a w,Rel P C st a w->Q st->sem P C R k2 none a w):∀(k1:List Code)(e:Option Nat)(a:Act)(w:World),sem P C R (k1.map It.code++[.stop Q]) e a w->sem P C R (k1.map It.code++k2) e a w
 |[],none,a,w,h=>by have⟨st,hr,hq⟩:=h;grind
 |[],some i,a,w,h=>h.elim
 |c::k1,none,a,w,h=>by
  refine wpIn_mono h ?_;intro e a' w' hq;cases e with
  |normal=>exact XbJ hQ k1 none a' w' hq
  |exit i=>exact XbJ hQ k1 (some i) a' w' hq
  |_=>exact hq
 |_::k1,some i,a,w,h=>XbJ hQ k1 (some i) a w h
def Xcj:Nat->Code->List Code
 |n+1,.seq x y=>x::Xcj n y
 |_,c=>[c]
def JM{R:AW}{k:List It}:∀(n:Nat)(c:Code)(e:Option Nat)(a:Act)(w:World),sem P C R ((Xcj n c).map It.code++k) e a w->sem P C R (.code c::k) e a w
 |0,c,e,a,w,h=>by assumption
 |n+1,.seq x y,none,a,w,h=>by
  refine wpIn_seq (wpIn_mono h ?_);intro e a' w' hq;cases e with
  |normal=>exact JM n y none a' w' hq
  |exit i=>exact JM n y (some i) a' w' hq
  |_=>exact hq
 |n+1,.seq x y,some i,a,w,h=>JM n y (some i) a w h
 |n+1,.region _ _ _,e,a,w,h=>h
 |n+1,.skip,e,a,w,h=>h
 |n+1,.cond _ _ _,e,a,w,h=>h
 |n+1,.block _ _,e,a,w,h=>h
 |n+1,.loop _,e,a,w,h=>h
 |n+1,.rangeFunc ..,e,a,w,h=>h
 |n+1,.exit _,e,a,w,h=>h
 |n+1,.scope _,e,a,w,h=>h
 |n+1,.label _,e,a,w,h=>h
 |n+1,.goto _,e,a,w,h=>h
 |n+1,.ret,e,a,w,h=>h
 |n+1,.refuse _,e,a,w,h=>h
def JN{r:Option Nat}{ops:Array Oper}{Q:Exit->AW}{rest:List Oper}{o:Oper}{a:Act}{w w':World}{v:Value}(hg:o.guard=none)(h:(execOp a.eval o).run P w=.ok (.value v) w')(k:wpListIn (fz r) 0 P ops Q rest (a.put o.dst v) w')(hd:∀c,o.op≠.defer c:=by intro c h;cases h):wpListIn (fz r) 0 P ops Q (o::rest) a w:=by
 refine wpListIn_step λK hK=>?_;have hw:Region.wanted o (yielded ops a.tmps)=true:=by unfold Region.wanted;rw[hg]
 rw[Wq hw];refine Xkg hd ?_;unfold Oper.wp;rw[h];exact hK _ _ k
def XnR(w w':World):Prop:=(∀k,k<w.heap.size->w'.heap[k]? = w.heap[k]?)/\w.heap.size<=w'.heap.size/\w'.os=w.os/\w'.tape=w.tape/\w'.output=w.output
def Rel.same{st:St}{a a':Act}{w w':World}(hr:Rel P C st a w)(hw:XnR w w')(hd:a'.defers=C.df)(hs:a'.tmps.size=a.tmps.size){t':Nat->D}(ht:∀M β,(∀x,Rep P M β (st.t x) (a.tmps.getD x undef))->∀x,Rep P M β (t' x) (a'.tmps.getD x undef)):Rel P C ⟨t',st.s,st.n,st.k⟩ a' w':=by
 have⟨h1,h2,M,β,h0,h3,I⟩:=hr;have⟨g1,g2,g3,g4,g5⟩:=hw;refine⟨hd,hs.trans h2,M,β,h0,ht M β h3,?_⟩;have hlt:∀b o x,M b o=some x->b<w.heap.size:=λb o x hx=>I.mem.lt hx;constructor
 .intro b o x hx;have:=I.mem b o x hx;refine⟨?_,this.2⟩;rw[←this.1];simp[World.cell?,g1 b (hlt b o x hx)]
 .exact I.used
 .intro id v ob hs;have⟨x,hx,ho⟩:=I.obs id v ob hs;refine⟨x,hx,ho.mono (MLe.refl _) (BLe.refl _) ?_ (λ_ _ _ _=>rfl)⟩;rintro b cb rfl;exact g1 b ho.lt
 .exact I.own
 .exact I.inj
 .exact⟨g3.trans I.keep.os,g4.trans I.keep.tape,g5.trans I.keep.output,Um I.keep.size g2,λk hk hl=>by rw[g1 k (IC hk I.keep.size)];exact I.keep.block k hk hl⟩
 .exact I.old
 .exact I.le
 exact I.glob
open Go.RowKit Go.WideShapes Go.ChangeShapes
variable {P:Program}
def Kq(w:World):Mem:=λb o=>match w.cell? ⟨b,o,none⟩with
 |some x=>bif x.oneCell' then some x else none
 |none=>none
def Xjj(w:World):MemOK (Kq w) w:=by intro b o x h;unfold Kq at h;grind
def Xjk{w:World}{b o:Nat}{x:Value}(h:w.cell? ⟨b,o,none⟩=some x)(h1:x.oneCell'=true):Kq w b o=some x:=by unfold Kq;simp_all
def ShF(sh:TypeId->List D->Prop):List TypeId->List D->Prop
 |[],ds=>ds=[]
 |f::fs,ds=>∃a b,ds=a++b/\sh f a/\ShF sh fs b
def Sh(P:Program):Nat->TypeId->List D->Prop
 |0,_,_=>False
 |m+1,t,ds=>match P.underlying t with
  |some .bool=>∃b,ds=[.v (.bool b)]
  |some (.int k)=>∃n,ds=[.v (.int k n)]/\k.min<=n/\n<=k.max
  |some (.slice e)=>∃es,ds=[.isl e (P.cellsOf e) es]/\es.length<=Xp/\es.length*P.bytesOf e<=Xp/\∀x∈es,Sh P m e x
  |some (.struct fs)=>ShF (Sh P m) (fs.toList.map (·.type)) ds
  |_=>False
def Vh(P:Program):Nat->List Field->Option Nat
 |n,[]=>some n
 |n,f::fs=>if f.offset=n then Vh P (n+P.cellsOf f.type) fs else none
def okS(P:Program):Nat->TypeId->Bool
 |0,_=>false
 |m+1,t=>match P.underlying t with
  |some .bool=>true
  |some (.int _)=>true
  |some (.slice e)=>decide (0<P.cellsOf e)&&decide (0<P.bytesOf e)&&okS P m e
  |some (.struct fs)=>(Vh P 0 fs.toList==some (P.cellsOf t))&&fs.toList.all λf=>okS P m f.type
  |_=>false
def Xh6{sh:TypeId->List D->Prop}(h:∀t ds,sh t ds->∀d∈ds,d.one=true):∀(fs:List TypeId)(ds:List D),ShF sh fs ds->∀d∈ds,d.one=true
 |[],ds,hs,d,hd=>by simp_all[ShF]
 |f::fs,ds,hs,d,hd=>by
  obtain⟨a,b,rfl,h1,h2⟩:=hs;rcases WG.1 hd with hd|hd
  .grind
  exact Xh6 h fs b h2 d hd
def Xk6:∀(m:Nat)(t:TypeId)(ds:List D),Sh P m t ds->∀d∈ds,d.one=true
 |0,_,_,h=>by simp_all[Sh]
 |m+1,t,ds,h=>by
  unfold Sh at h;split at h
  .obtain⟨b,rfl⟩:=h;intro d hd;simp at hd;subst hd;rfl
  .obtain⟨n,rfl,_⟩:=h;intro d hd;simp at hd;subst hd;rfl
  .obtain⟨es,rfl,_⟩:=h;intro d hd;simp at hd;subst hd;rfl
  .exact Xh6 (Xk6 m) _ _ h
  simp_all
def XdK{α β:Type}{g:α->Option β}:∀{l:List α}{xs:List β},l.mapM g=some xs->xs.length=l.length/\∀(i:Nat)y,l[i]? = some y->∃x,g y=some x/\xs[i]? = some x
 |[],xs,h=>by simp_all
 |y::l,xs,h=>by simp only[List.mapM_cons,Option.bind_eq_bind,Option.bind_eq_some_iff,Option.pure_def,Ws]at h;obtain⟨x,hx,xs',hxs,rfl⟩:=h;have⟨h1,h2⟩:=XdK hxs;grind
def Xh7{α:Type}{p:Nat->α->Prop}:∀(n:Nat),(∀i,i<n->∃x,p i x)->∃l:List α,l.length=n/\∀(i:Nat)x,l[i]? = some x->p i x
 |0,_=>⟨[],rfl,λi x h=>by grind⟩
 |n+1,h=>by have⟨l,h1,h2⟩:=Xh7 n λi hi=>h i aa;have⟨x,hx⟩:=h n aa;refine⟨l++[x],by simp[h1],λi y hy=>?_⟩;grind
def Xg9{w:World}{base n:Nat}{a:Addr}{vs:List Value}(h:w.cells? base a n=some vs):vs.length=n/\∀j,j<n->∃x,w.cell? (a.add j)=some x/\vs[j]? = some x:=by
 unfold World.cells? at h;split at h
 .have⟨h1,h2⟩:=XdK h;refine⟨by simpa using h1,λj hj=>h2 j j (by simp[hj])⟩
 simp_all
def Xjl{w:World}{a:Addr}{x:Value}(h:w.cell? a=some x):a=⟨a.block,a.off,none⟩:=by
 have⟨b,o,s⟩:=a;cases s with
 |none=>rfl
 |some s=>unfold World.cell? at h;grind
variable {H:Type}{enc:TypeId×Value->H}
def Xp1{k:IntKind}{n:Int}(h:(Lit.int k n).wf=true):k.min<=n/\n<=k.max:=by simp_all[Lit.wf]
def Xck{w:World}{base:Nat}{spare:Nat->Bool}{held:Bool}:∀(m:Nat)(t:TypeId),okS P m t=true->∀(fuel:Nat)(cs:List Value)(d:DataW H)(ps:List MemPlace),
 DataW.trod enc P w base spare held fuel t cs=some (d,ps)->(∀x∈d.weights P t,x<=reachBytes)->∃ds,Sh P m t ds/\RepL P (Kq w) Yu ds cs
 |0,t,ho,_,_,_,_,_,_=>by simp_all[okS]
 |m+1,t,ho,0,cs,d,ps,h,_=>by simp_all[DataW.trod]
 |m+1,t,ho,fuel+1,cs,d,ps,h,hw=>by
  unfold okS at ho;split at ho
  ·
   rename_i hu;obtain⟨b,rfl,_⟩:=DataW.trod_bool hu h;exact⟨[.v (.bool b)],by simp[Sh,hu],by simp[RepL,Rep,wfV]⟩
  ·
   rename_i k hu;obtain⟨n,rfl,_,hn⟩:=DataW.trod_int hu h;have hn:=Xp1 hn;exact⟨[.v (.int k n)],by simp only[Sh,hu];exact⟨n,rfl,hn⟩,by simp[RepL,Rep,wfV,hn]⟩
  ·
   rename_i e hu;simp at ho;have⟨⟨hz,hby⟩,ho⟩:=ho;rcases DataW.trod_slice hu h with⟨rfl,_⟩|⟨a,len,cap,elems,rest,n,hn,rfl,hd,hb,hlc,hcm,l1,l2,_,_⟩
   .refine⟨[.isl e (P.cellsOf e) []],by simp[Sh,hu],?_⟩;simp only[RepL,Rep];exact⟨_,_,rfl,⟨ab,ab,ab,none,0,rfl,Un _,.inl trivial⟩,rfl⟩
   obtain rfl:fuel=n:=aa;obtain⟨rfl,_⟩:=hd;simp only[DataW.weights,hu,W4,UY,WG,forall_eq_or_imp]at hw;have⟨hw1,hw2⟩:=hw;have hbytes:len*P.bytesOf e<=reachBytes:=by refine Um (WZ _ ?_) hw1;omega
   have hreach:reachBytes<=Xp:=ae;have hlen47:len<=Xp:=Um (Nat.le_mul_of_pos_right _ hby) (Um hbytes hreach);have key:∀i,i<len->∃ds vs,Sh P m e ds/\RepL P (Kq w) Yu ds vs/\vs.length=P.cellsOf e/\∀j,j<P.cellsOf e->∃x,w.cell? ((a.add (i*P.cellsOf e)).add j)=some x/\vs[j]? = some x:=by
    intro i hi;have hx:=l2 i hi;rw[Wc aa]at hx;obtain⟨vs,hvs,hx⟩:=Option.bind_eq_some_iff.1 hx;obtain⟨c1,c2⟩:=Xg9 hvs;have hwx:∀y∈(elems[i]).1.weights P e,y<=reachBytes:=by
     intro y hy;refine hw2 y (.inl ?_);have hmem:(elems[i]).1∈elems.map (·.1):=UX.2 ⟨_,WO _,rfl⟩;generalize elems.map (·.1)=L at hmem;induction L with
     |nil=>cases hmem
     |cons z L ih=>
      simp only[DataW.weightsAll,WG];rcases UY.1 hmem with rfl|hmem
      .exact .inl hy
      exact .inr (ih hmem)
    obtain⟨ds,s1,s2⟩:=Xck m e ho fuel vs _ _ hx hwx;exact⟨ds,vs,s1,s2,c1,c2⟩
   rcases Ua len with rfl|hpos
   .refine⟨[.isl e (P.cellsOf e) []],by simp[Sh,hu],?_⟩;simp only[RepL,Rep];exact⟨_,_,rfl,⟨ab,ab,ab,some a,cap,rfl,UN _,.inl trivial⟩,rfl⟩
   have hplain:a=⟨a.block,a.off,none⟩:=by obtain⟨_,_,_,_,_,c2⟩:=key 0 hpos;obtain⟨x,hx,_⟩:=c2 0 hz;simp only[Nat.zero_mul,Addr.add,if_true]at hx;exact Xjl hx
   have⟨b,o,s⟩:=a;simp at hplain;subst hplain;have⟨es,e1,e2⟩:=Xh7 (α:=List D) (p:=λi ds=>∃vs,Sh P m e ds/\RepL P (Kq w) Yu ds vs/\vs.length=P.cellsOf e/\∀j,j<P.cellsOf e->∃x,w.cell? (((⟨b,o,none⟩:Addr).add (i*P.cellsOf e)).add j)=some x/\vs[j]? = some x) len (λi hi=>by
    obtain⟨ds,vs,h⟩:=key i hi;exact⟨ds,vs,h⟩)
   have elen:∀x∈es,x.length=P.cellsOf e:=by intro x hx;obtain⟨i,hi,rfl⟩:=WN hx;obtain⟨vs,_,h2,h3,_⟩:=e2 i es[i] ab;rw[←h2.length,h3]
   refine⟨[.isl e (P.cellsOf e) es],?_,?_⟩
   .simp only[Sh,hu];refine⟨es,rfl,aa,by rw[e1];omega,λx hx=>?_⟩;obtain⟨i,hi,rfl⟩:=WN hx;exact(e2 i es[i] ab).choose_spec.1
   refine⟨_,_,rfl,⟨elen,aa,by rw[e1];omega,some ⟨b,o,none⟩,cap,by rw[e1],aa,.inr ⟨b,o,rfl,?_⟩⟩,rfl⟩;refine RepE.of (z:=P.cellsOf e) elen λi x hx=>?_;have⟨vs,h1,h2,h3,h4⟩:=e2 i x hx;refine RepC.of λj dd hdd=>?_;have⟨y,hy,hr⟩:=h2.get j dd hdd;have hj:j<P.cellsOf e:=by
    rcases Uq j vs.length with h'|h'
    .omega
    rw[WY h']at hy;cases hy
   have⟨y',hy1,hy2⟩:=h4 j hj;rw[hy]at hy2;obtain rfl:y=y':=by simpa using hy2
   refine⟨y,Xjk ?_ (Xb7 (Xk6 m e x h1 dd (Ui hdd)) hr).1,hr⟩;rw[UR,UR]at hy1;exact hy1
  ·
   rename_i fs hu;simp only[W6,beq_iff_eq,Ud]at ho;have⟨hcon,hall⟩:=ho;have⟨xs,n,hn,hd,hlen,hxl,hxs⟩:=DataW.trod_struct hu h;obtain rfl:fuel=n:=aa;obtain⟨rfl,_⟩:=hd;have hw':∀x∈DataW.weightsEach P (fs.toList.map (·.type)) (xs.map (·.1)),x<=reachBytes:=by simpa only[DataW.weights,hu]using hw
   have mono:∀(l:List Field)n k,Vh P n l=some k->n<=k:=by
    intro l;induction l with
    |nil=>intro n k h;simp only[Vh,Ws]at h;omega
    |cons g l ih=>
     intro n k h;simp only[Vh]at h;split at h
     .have:=ih _ _ h;omega
     cases h
   have main:∀(l:List Field)(off:Nat)(xs:List (DataW H×List MemPlace)),Vh P off l=some (P.cellsOf t)->(∀f∈l,okS P m f.type=true)->xs.length=l.length ->
    (∀(i:Nat)(f:Field),l[i]? = some f->DataW.trod enc P w base spare held fuel f.type ((cs.drop f.offset).take (P.cellsOf f.type))=xs[i]?)->(∀x∈DataW.weightsEach P (l.map (·.type)) (xs.map (·.1)),x<=reachBytes) ->
    ∃ds,ShF (Sh P m) (l.map (·.type)) ds/\RepL P (Kq w) Yu ds (cs.drop off):=by
    intro l
    induction l with
    |nil=>
     intro off xs hc _ _ _ _
     simp only[Vh,Ws]at hc
     refine⟨[],rfl,?_⟩
     rw[UE aa]
     simp[RepL]
    |cons f l ih=>
     intro off xs hc hok hxl hx hwt
     simp only[Vh]at hc
     split at hc
     .rename_i hoff
      match xs,hxl with
      |x::xs',hxl=>
       simp only[Ug,DataW.weightsEach,WG]at hwt
       have hle2:=mono _ _ _ hc
       have hx1:=hx 0 f ab
       simp only[List.getElem?_cons_zero]at hx1
       obtain⟨ds1,s1,r1⟩:=Xck m f.type (hok f ab) fuel _ x.1 x.2 hx1 (λy hy=>hwt y (.inl hy))
       obtain⟨ds2,s2,r2⟩:=ih (off+P.cellsOf f.type) xs' hc (λg hg=>hok g (Ul _ hg)) (by simpa using hxl) (λi g hg=>by simpa using hx (i+1) g (by simpa using hg)) (λy hy=>hwt y (.inr hy))
       refine⟨ds1++ds2,⟨ds1,ds2,rfl,s1,s2⟩,?_⟩
       have hsp:cs.drop off=(cs.drop f.offset).take (P.cellsOf f.type)++cs.drop (off+P.cellsOf f.type):=by
        rw[hoff,←IW,List.take_append_drop]
       rw[hsp]
       exact r1.append r2
     .cases hc
   have⟨ds,s,r⟩:=main fs.toList 0 xs hcon hall (by simpa using hxl) (λi f hf=>hxs i f (by simpa using hf)) hw';exact⟨ds,by simp only[Sh,hu];exact s,by exact r⟩
  simp_all
open Go.RowKit Go.WideShapes Go.ChangeShapes
variable {P:Program}
def Xk7:Z3 []=Yu:=by grind[Z3,Yu]
def XqV{G:Nat->Option (List D)}{f:FuncId}{args:List D}(hA:YM P G f args [] (Eqs (.v (.bool true)) [])){W:World}{vs:List Value}(hG:∀g cs,G g=some cs->RepC P (Kq W) cs g 0)(hargs:RepL P (Kq W) Yu args vs):Calls P f ⟨vs⟩ W λe W'=>e=.returned (.bool true)/\Below W.heap.size W W':=by refine(hA.2 (Kq W) W vs [] (Xjj W) hG rfl List.nodup_nil (λk ob x h=>ab) (by simp_all[Xk7])).mono ?_;rintro e W' ⟨v,r,ls,M',l,rfl,⟨rfl,rfl⟩,hK,_,_,_,_,hfr,_⟩;have⟨_,rfl,_⟩:=hfr;exact⟨rfl,hK.os,hK.tape,hK.output,hK.size,λk hk=>hK.block k hk ab⟩
section
variable {H:Type}{enc:TypeId×Value->H}
def Xdu{f:Func}{s:ChangeSpec}{apart fresh handsOn again:Bool}{W W':World}{args:Array Value}{v:Value}{ds gs:List (DataW H)}{before pa pv:List MemPlace}(hW:DataW.Whole enc P f.params.toList s.vars apart W args.toList ds gs before)(hres:∀(b:Nat)(sp:Nat->Bool)(hd:Bool),DataW.TrodAll enc P W' b sp hd f.resultTypes.toList (v.resultList f.resultTypes.size) (s.fn H (ds++gs)).results [])(hargs:∀sp:Nat->Bool,(∀p∈before,sp p.block=true)->DataW.TrodAll enc P W' 0 sp true f.params.toList args.toList (s.fn H (ds++gs)).args pa)(hvars:∀sp:Nat->Bool,(∀p∈before,sp p.block=true)->DataW.TrodVars enc P W' sp s.vars (s.fn H (ds++gs)).vars pv)(hps:before=pa++pv)(hb:Below W.heap.size W W')(hok:∀(j:Nat)(t:TypeId)(r:Value),f.resultTypes[j]? = some t->(v.resultList f.resultTypes.size)[j]? = some r->Value.okWide P W' .any 0 t r):
 s.post enc P f apart fresh handsOn again W args v W':=by
 have hlt:∀p∈before,p.block<W.heap.size:=λp hp=>hW.lt p hp;have hold:∀p∈before,(λb=>decide (b<W.heap.size)) p.block=true:=λp hp=>by simp_all
 refine⟨ds,gs,before,[],pa,pv,hW,hres _ _ _,hargs _ hold,hvars _ hold,World.keptBut_mono (λp hp=>⟨hp,?_⟩) (hb.frame (·∈before)),λ_=>?_⟩
 .simp_all
 have⟨_,_,_,_,_,hz,hn⟩:=hW;refine⟨hok,_,_,([]++pa)++pv,⟨[]++pa,pv,trodAll_append (hargs _ (λ_ _=>rfl)) (hres _ _ _),hvars _ (λ_ _=>rfl),rfl,?_,?_⟩,?_⟩
 .intro b off hp;have hin:MemPlace.cell b off∈before:=by rw[hps];simpa using hp
  rw[hb.frozen (hlt _ hin)];exact hz b off hin
 .intro ha;have:=hn ha;rw[hps]at this;exact this
 simp_all
def VT{W W':World}(hl:laidOutB P=true){sp:Nat->Bool}(hb:Below W.heap.size W W'):∀{ts:List TypeId}{vs:List Value}{ds:List (DataW H)}{ps:List MemPlace},(∀t∈ts,P.readableRec t=true/\t<P.types.size) ->
 DataW.TrodAll enc P W 0 (λ_=>true) true ts vs ds ps->(∀x∈ps,x.block<W.heap.size)->(∀x∈ps,sp x.block=true)->DataW.TrodAll enc P W' 0 sp true ts vs ds ps
 |[],[],[],ps,_,h,_,_=>h
 |[],[],_::_,_,_,h,_,_=>h.elim
 |[],_::_,_,_,_,h,_,_=>h.elim
 |_::_,[],_,_,_,h,_,_=>h.elim
 |_::_,_::_,[],_,_,h,_,_=>h.elim
 |t::ts,v::vs,d::ds,ps,hr,h,hlt,hsp=>by
  obtain⟨p,q,h1,h2,rfl⟩:=h;have⟨r1,r2⟩:=hr t ab;exact⟨p,q,WideElems.Trod_stays hl r1 r2 h1 (λx hx=>hb.same (hlt x (W0 _ hx))) (λx hx=>hsp x (W0 _ hx)),
   VT hl hb (λt ht=>hr t (Ul _ ht)) h2 (λx hx=>hlt x (Ub _ hx)) (λx hx=>hsp x (Ub _ hx)),rfl⟩
def Xrl{fn:Func}{s:ChangeSpec}{apart fresh handsOn again:Bool}{W W':World}{args:Array Value}{ds gs:List (DataW H)}{before:List MemPlace}{tb:TypeId}(hv:s.vars=[])(hres:fn.resultTypes=#[tb])(htb:P.underlying tb=some .bool)(hl:laidOutB P=true)(hr:∀t∈fn.params.toList,P.readableRec t=true/\t<P.types.size)(hW:DataW.Whole enc P fn.params.toList s.vars apart W args.toList ds gs before)(hfn:s.fn H (ds++gs)={results:=[.lit (.bool true)],args:=ds})(hB:Below W.heap.size W W'):
 s.post enc P fn apart fresh handsOn again W args (.bool true) W':=by
 have hW2:=hW;obtain⟨p,q,h1,h2,rfl,hz,hn⟩:=hW;rw[hv]at h2;match gs,h2 with
 |[],h2=>
  subst h2;have hlt:∀x∈p++[],x.block<W.heap.size:=λx hx=>hW2.lt x hx;refine Xdu (pa:=p) (pv:=[]) hW2 ?_ (λsp hsp=>?_) (λsp _=>?_) rfl hB ?_
  .intro b sp hd;rw[hres,hfn];exact trodAll_mk1 (shut_bool htb _)
  .rw[hfn];exact VT hl hB hr h1 (λx hx=>hlt x (by simp_all)) (λx hx=>hsp x (by simp_all))
  .rw[hv,hfn];rfl
  exact ok_one hres rfl (okWide_bool_mk htb _)
end
def XfR{H:Type}{enc:TypeId×Value->H}{W:World}:∀{ts:List TypeId}{vs:List Value}{ds:List (DataW H)}{ps:List MemPlace},DataW.TrodAll enc P W 0 (λ_=>true) true ts vs ds ps->ds.length=ts.length
 |[],[],[],ps,_=>rfl
 |[],[],_::_,_,h=>h.elim
 |[],_::_,_,_,h=>h.elim
 |_::_,[],_,_,h=>h.elim
 |_::_,_::_,[],_,h=>h.elim
 |t::ts,v::vs,d::ds,ps,h=>by have⟨p,q,_,h2,_⟩:=h;simp[XfR h2]
def Xp2{M:Mem}{W:World}{base:Nat}{t:TypeId}{a b:Nat}{z:Value}{fs:List (Nat×Nat×Nat)}(ht:Xo P t=some ⟨a,b,z,.struct fs⟩){v:Value}(hv:Value.okWide P W .any base t v){ds:List D}(h:RepL P M Yu ds v.cells.toList):Rep P M Yu (.agg ds) v:=by have⟨fields,hu,_⟩:=Z8 ht;obtain⟨cs,rfl,_⟩:=okWide_struct hu hv;grind[Rep,Value.cells]
def Xp3{M:Mem}{v:Value}(hv:v.cells=#[v]){d:D}(h:RepL P M Yu [d] v.cells.toList):Rep P M Yu d v:=by simp only[RepL]at h;simp_all
def XqW{M:Mem}{W:World}{base:Nat}{t:TypeId}{a b e s:Nat}{z:Value}(ht:Xo P t=some ⟨a,b,z,.slice e s⟩){v:Value}(hv:Value.okWide P W .any base t v){d:D}(h:RepL P M Yu [d] v.cells.toList):Rep P M Yu d v:=by obtain⟨_,_,_,rfl⟩:=okWide_slice (X4 ht).1 hv;exact Xp3 rfl h
def Xjm{H:Type}{enc:TypeId×Value->H}{W:World}(m:Nat):∀{ts:List TypeId}{vs:List Value}{ds:List (DataW H)}{ps:List MemPlace},(∀t∈ts,okS P m t=true)->DataW.TrodAll enc P W 0 (λ_=>true) true ts vs ds ps ->
 (∀x∈DataW.weightsEach P ts ds,x<=reachBytes)->∃dss:List (List D),dss.length=ts.length/\vs.length=ts.length/\∀(i:Nat)t,ts[i]? = some t->∃ds v,dss[i]? = some ds/\vs[i]? = some v/\Sh P m t ds/\RepL P (Kq W) Yu ds v.cells.toList
 |[],[],[],ps,_,h,_=>⟨[],rfl,rfl,λi t h=>by grind⟩
 |[],[],_::_,_,_,h,_=>h.elim
 |[],_::_,_,_,_,h,_=>h.elim
 |_::_,[],_,_,_,h,_=>h.elim
 |_::_,_::_,[],_,_,h,_=>h.elim
 |t::ts,v::vs,d::ds,ps,ho,h,hw=>by obtain⟨p,q,⟨fuel,h1⟩,h2,rfl⟩:=h;simp only[DataW.weightsEach,WG]at hw;have⟨dd,s1,r1⟩:=Xck m t (ho t ab) fuel _ d p h1 (λx hx=>hw x (.inl hx));have⟨dss,g1,g2,g3⟩:=Xjm m (λt ht=>ho t (Ul _ ht)) h2 (λx hx=>hw x (.inr hx));refine⟨dd::dss,by simp[g1],by simp[g2],λi u hu=>?_⟩;grind
variable {P:Program}
section
variable {C:Cx}{s:Heap}{U:Nat->Prop}{M:Mem}{β:Loc}{w:World}
def UP.wide(I:UP P C s U M β w){id v E z:Nat}{es:List (List D)}(hs:s id=some (v,.arr false E z es 0))(hne:es≠[]):UP P C (upd s id (some (v,.arr true E z es 0))) U M β w:=by
 have hsv:∀i v' ob,upd s id (some (v,.arr true E z es 0)) i=some (v',ob)->∃ob0,s i=some (v',ob0)/\(ob=ob0\/(ob0=.arr false E z es 0/\ob=.arr true E z es 0)):=by
  intro i v' ob h;by_cases hi:i=id
  .simp_all[YC,Ws,Wx]
  simp_all[Yb,hi]
 constructor
 .exact I.mem
 .exact I.used
 .intro i v' ob h;have⟨ob0,h0,hc⟩:=hsv i v' ob h;have⟨x,hx,hr⟩:=I.obs i v' ob0 h0;refine⟨x,hx,?_⟩;rcases hc with rfl|⟨rfl,rfl⟩
  .omega
  cases x with
  |none=>simp_all[ObRep]
  |some bc=>have⟨cs,T,k1,k2,k3,k4,k5,k6,k7,k8,k9,k10⟩:=hr;refine⟨cs,T,k1,k2,k3,k4,k5,k6,k7,k8,k9,λi d hd=>?_⟩;have⟨y,hy,hr⟩:=k10 i d hd;exact⟨y,hy,hr.mono (MLe.refl _) (BLe.zero _)⟩
 .intro i v' ob b cb h hb;have⟨ob0,h0,hc⟩:=hsv i v' ob h;rcases I.own i v' ob0 b cb h0 hb with h1|h1
  .exact .inl h1
  grind[Ob.bx]
 .intro i v' ob i' v2 ob' b cb cb' h h' hb hb';have⟨ob0,h0,_⟩:=hsv i v' ob h;have⟨ob1,h1,_⟩:=hsv i' v2 ob' h';exact I.inj i v' ob0 i' v2 ob1 b cb cb' h0 h1 hb hb'
 .exact I.keep
 .exact I.old
 .exact I.le
 exact I.glob
end
def LoopG.v{C:Cx}{R:St->Prop}{c:Code}{k:List It}{st:St}{id v:Nat}(_:(st.s id).map (·.1)=some v)(h:∀w,w=v->LoopG P C R c k st trivial)(t:Prf c):LoopG P C R c k st t:=h v rfl
def LoopG.wide{C:Cx}{R:St->Prop}{c:Code}{k:List It}{st:St}{id v E z:Nat}{es:List (List D)}(hs:st.s id=some (v,.arr false E z es 0))(hne:es≠[])(h:LoopG P C R c k (nxS st none .any (upd st.s id (some (v,.arr true E z es 0))) st.n st.k) trivial)(t:Prf c):LoopG P C R c k st t:=by intro a w hr;have⟨h1,h2,M,β,h0,h3,I⟩:=hr;exact h a w ⟨h1,h2,M,β,h0,h3,I.wide hs hne⟩
def Gh(P:Program)(C:Cx)(Q:St->Prop)(st:St):Prop:=∃st',(∀a w,Rel P C st a w->Rel P C st' a w)/\Q st'
def Gh.no{C:Cx}{Q:St->Prop}{st:St}(h:Q st):Gh P C Q st:=⟨st,λ_ _ h=>h,h⟩
variable {P:Program}{C:Cx}
section
variable {s:Heap}{U:Nat->Prop}{M:Mem}{β:Loc}{w:World}
def UP.newRaw(h:UP P C s U M β w){ver:Nat}(hv:¬U ver)(id:Nat)(o:Obj):
 UP P C (upd s id (some (ver,.raw o))) (λv=>U v\/v=ver) M (Zf β id ver (some (w.heap.size,0))) (w.alloc o)/\BLe β (Zf β id ver (some (w.heap.size,0))):=by
 have hB:BLe β (Zf β id ver (some (w.heap.size,0))):=YV (h.fresh hv id);have hnone:∀o,M w.heap.size o=none:=by
  intro o;cases hx:M w.heap.size o with
  |none=>rfl
  |some x=>exact absurd (h.mem.lt hx) (U8 _)
 have hheap:∀k,k≠w.heap.size->(w.alloc o).heap[k]? = w.heap[k]?:=by intro k hk;show(w.heap.push _)[k]? = _;rw[Array.getElem?_push,Wn hk]
 have hnew:(w.alloc o).heap[w.heap.size]? = some o:=World.alloc_heap_new w o;refine⟨h.set id ver (.raw o) w.heap.size 0 (MLe.refl M) hB hheap (λ_ _ _=>rfl) ?_ (XJ ..) ⟨rfl,hnone,hnew⟩ ?_ (.inl h.keep.size) ?_ rfl rfl rfl ?_ Y4,hB⟩
 .intro o x hx;rw[hnone o]at hx;cases hx
 .intro id' v' ob' cb' _ hs hx;have⟨y,hy,hr⟩:=h.obs id' v' ob' hs;rw[hx]at hy;obtain rfl:some (w.heap.size,cb')=y:=by simpa using hy
  exact absurd hr.lt (U8 _)
 .intro hlt;exact absurd h.keep.size aa
 simp
def UP.raw(h:UP P C s U M β w){id ver b cb:Nat}{o:Obj}(hs:s id=some (ver,.raw o))(hb:β id ver=some (some (b,cb))):cb=0/\(∀i,M b i=none)/\w.heap[b]? = some o:=by
 have⟨x,hx,hr⟩:=h.obs id ver _ hs;obtain rfl:some (b,cb)=x:=by simp_all
 exact hr
def UP.putRaw(h:UP P C s U M β w){id ver b cb:Nat}{o:Obj}(hs:s id=some (ver,.raw o))(hb:β id ver=some (some (b,cb)))(o':Obj):
 UP P C (upd s id (some (ver,.raw o'))) U M β (w.putObj b o'):=by
 obtain⟨rfl,h2,h3⟩:=h.raw hs hb;have hlt:b<w.heap.size:=(Array.getElem?_eq_some_iff.1 h3).1;have:=h.set (M':=M) (β':=β) (w':=w.putObj b o') id ver (.raw o') b 0 (MLe.refl M) (BLe.refl β) (λk hk=>World.putObj_heap_other hk) (λ_ _ _=>rfl) ?_ hb ⟨rfl,h2,World.putObj_heap_same hlt⟩ ?_ (by have:=h.own id ver _ b 0 hs hb;exact this) (λ_ _=>rfl) rfl rfl rfl ab (λ_ _ _ e=>.inl e)
 .exact this.mono λv hv=>by
   rcases hv with hv|rfl
   .omega
   exact h.used id _ _ hb
 .simp_all
 intro id' v' ob' cb' hne hs' hx';exact hne (h.inj id' v' ob' id ver _ b cb' 0 hs' hs hx' hb)
end
@[reducible] def Cx.inR(C:Cx)(l:Nat)(x:Mem×Loc):Cx:=⟨C.G,C.M0,C.w0,C.lb,x.2,x.1,C.off,some l,[]⟩
@[reducible] def Cx.mk'(C:Cx)(b:Loc)(D:Nat):Cx:=⟨C.G,C.M0,C.w0,C.lb,b,C.M1,C.off,C.rd,[{target:=.collected D,args:=#[]}]⟩
def YieldX.of{args:List D}{dst:Option Nat}{st:St}{K:St->Prop}{l kr v:Nat}{r:Loop}{cA cB:Code}{p1 p2:Nat}{d1 d2:D}(tO:Nat->D)(nO m:Nat)(hs:st.s kr=some (v,.raw (.loop r)))(hst:r.state=.ready)(hA:r.assign=cA)(hB:r.body=cB)(hps:r.params=#[p1,p2])(hp1:p1<nO)(hp2:p2<nO)(hargs:args=[d1,d2])(hb:C.b0 kr v=some (some (l,0)))(hsz:r.tmps.size=nO)(hO:∀x,Rep P C.M1 C.b0 (tO x) (r.tmps.getD x undef))(h:∀x,run P (C.inR l x) (λ_=>False) m [.code cA,.stop λsb=>sb.s kr=some (v,.raw (.loop r)) /\
  run P (C.inR l x) (λsc=>sc.s kr=some (v,.raw (.loop {r with state:=.busy}))/\K (nxS st (XO dst st.n) (.v (.bool false)) (upd sc.s kr (some (v,.raw (.loop {r with state:=.done,pending:=some .ret})))) st.n sc.k)) m
   [.code cB,.stop λsc=>sc.s kr=some (v,.raw (.loop {r with state:=.busy}))/\K (nxS st (XO dst st.n) (.v (.bool true)) (upd sc.s kr (some (v,.raw (.loop {r with state:=.ready,pending:=none})))) st.n sc.k)]
   ⟨sb.t,upd sb.s kr (some (v,.raw (.loop {r with state:=.busy}))),sb.n,sb.k⟩] ⟨upd (upd tO p1 d1) p2 d2,st.s,nO,st.k⟩)(t:Prf args):YieldX P C l args dst st K t:=by
 intro M β w vs h0 I hr;subst hargs;obtain⟨x1,_,rfl,hr1,x2,_,rfl,hr2,rfl⟩:=hr;have hl:=(I.raw hs (h0 _ _ _ hb)).2.2;refine⟨r.fn,_,r.assign,r.body,run_yield hl (by simp_all),roundIn_of_wpIn trivial ?_⟩;have hrel0:Rel P (C.inR l (M,β)) ⟨upd (upd tO p1 d1) p2 d2,st.s,nO,st.k⟩ ((({tmps:=r.tmps,defers:=[]}:Act).put (some p1) x1).put (some p2) x2) w:=by
  have hb:∀x,Rep P M β (tO x) (r.tmps.getD x undef):=λx=>(hO x).mono I.le h0;have hI:UP P (C.inR l (M,β)) st.s (·<st.k) M β w:=⟨I.mem,I.used,I.obs,I.own,I.inj,I.keep,I.old,MLe.refl M,λg cs hg=>RepC.mono I.le (I.glob g cs hg)⟩
  have h1:=I7 (C:=C.inR l (M,β)) (st:=⟨tO,st.s,nO,st.k⟩) (a:={tmps:=r.tmps,defers:=[]}) (dst:=some p1) (d:=d1) (v:=x1) rfl hsz (BLe.refl β) hb (MLe.refl M) (BLe.refl β) hI hr1;simp only[XO,Wq hp1,nxS]at h1;have hsz1:(({tmps:=r.tmps,defers:=[]}:Act).put (some p1) x1).tmps.size=nO:=by simpa [Act.put]using hsz
  have hb1:∀x,Rep P M β (upd tO p1 d1 x) ((({tmps:=r.tmps,defers:=[]}:Act).put (some p1) x1).tmps.getD x undef):=λx=>by
   have e:(({tmps:=r.tmps,defers:=[]}:Act).put (some p1) x1).tmps.getD x undef=if x=p1 then x1 else r.tmps.getD x undef:=by
    simp only[Act.put];by_cases hy:x=p1
    .subst hy;rw[Wq rfl];simp[hsz,hp1]
    rw[Wn hy];simp[Ne.symm hy]
   rw[e];unfold upd;grind
  have h2:=I7 (C:=C.inR l (M,β)) (st:=⟨upd tO p1 d1,st.s,nO,st.k⟩) (a:=({tmps:=r.tmps,defers:=[]}:Act).put (some p1) x1) (dst:=some p2) (d:=d2) (v:=x2) rfl hsz1 (BLe.refl β) hb1 (MLe.refl M) (BLe.refl β) hI hr2;simpa only[XO,Wq hp2,nxS]using h2
 have hrel:Rel P (C.inR l (M,β)) ⟨upd (upd tO p1 d1) p2 d2,st.s,nO,st.k⟩ {tmps:=(r.params.zip #[x1,x2]).foldl (λtmps (t,a)=>tmps.setIfInBounds t a) r.tmps,defers:=[]} w:=by rw[hps,show(#[p1,p2].zip #[x1,x2])=#[(p1,x1),(p2,x2)] by simp];exact hrel0
 rw[hA,hB];refine wpIn_mono (Yp m _ hrel (h (M,β))) ?_;intro e a1 w1 hq;cases e with
 |normal=>
  have⟨sb,⟨g1,g2,M1,β1,g0,g3,J⟩,hsb,hrun⟩:=hq;have hbl:=g0 _ _ _ (h0 _ _ _ hb);have hl1:=(J.raw hsb hbl).2.2;refine⟨_,run_beginRound hl1 hst,?_⟩;refine wpIn_mono (Yp m _ (st:=⟨sb.t,upd sb.s kr (some (v,.raw (.loop {r with state:=.busy}))),sb.n,sb.k⟩) ⟨g1,g2,M1,β1,g0,g3,J.putRaw hsb hbl _⟩ hrun) ?_;intro e a2 w2 hq;have fin:∀(jump:Option Code)(sc:St),Rel P (C.inR l (M,β)) sc a2 w2->sc.s kr=some (v,.raw (.loop {r with state:=.busy})) ->
   K (nxS st (XO dst st.n) (.v (.bool jump.isNone)) (upd sc.s kr (some (v,.raw (.loop {r with state:=if jump.isNone then .ready else .done,pending:=jump})))) st.n sc.k) ->
   ∃v' w',(Instr.endRound l jump).run P w2=.ok v' w'/\∃v d s' k' M' β',Ending.returned v'=.returned v/\UP P C s' (·<k') M' β' w'/\Rep P M' β' d v/\MLe M M'/\BLe β β'/\K (nxS st (XO dst st.n) d s' st.n k'):=by
   rintro jump sc ⟨k1,k2,M2,β2,k0,k3,J2⟩ hsc hk
   have hbl2:=k0 _ _ _ (h0 _ _ _ hb)
   have hl2:=(J2.raw hsc hbl2).2.2
   refine⟨_,_,run_endRound jump hl2,_,.v (.bool jump.isNone),_,sc.k,M2,β2,rfl,?_,by simp[Rep,wfV],J2.le,k0,hk⟩
   have J3:=J2.putRaw hsc hbl2 (.loop {r with state:=if jump.isNone then .ready else .done,pending:=jump})
   exact⟨J3.mem,J3.used,J3.obs,J3.own,J3.inj,J3.keep,J3.old,I.le.trans J3.le,I.glob⟩
  cases e with
  |normal=>have⟨sc,hr,hc,hk⟩:=hq;exact fin none sc hr hc hk
  |ret=>have⟨sc,hr,hc,hk⟩:=hq;exact fin (some .ret) sc hr hc hk
  |exit id=>exact hq.elim
  |_=>exact hq.elim
 |ret=>have⟨_,_,hf⟩:=hq;assumption
 |exit id=>assumption
 |_=>exact hq.elim
def Xrm(FN FR:Loop->St->Prop)(kr v:Nat)(st:St):Prop:=
 ∃r:Loop,st.s kr=some (v,.raw (.loop r))/\r.state≠.busy/\((r.pending=none/\FN r st)\/(r.pending=some .ret/\FR r st))
def Xp4{a:Act}{w:World}{st:St}{R:AW}{k:List It}{g:Operand}{ps:Array Tmp}{cA cB:Code}(hrd:C.rd=none)(hdf:C.df=[])(hr:Rel P C st a w){gf:FuncId}{caps:List D}(hg:ev st.t C.G g=.clo (.func gf) [] caps)(kr kd:Nat)(hne:kr≠kd){fn:Func}{nt:Nat}(hk:(P.funcs[gf]?,fn.body,fn.name== "runtime.NumGoroutine",fn.results,fn.ntmps,(caps.length+1).ble nt)=(some fn,some (fn.body.get!),false,⟨[]⟩,nt,true))(off m:Nat)(h:∀(l D:Nat)(r:Loop)(x:Mem×Loc),r.state=.ready->r.pending=none->r.params=ps->r.assign=cA->r.body=cB->r.tmps.size=st.n->x.2 kr (st.k+1)=some (some (l,0))->x.2 kd st.k=some (some (D,0)) ->
  (∀y,Rep P x.1 x.2 (st.t y) (r.tmps.getD y undef))->BLe C.b0 x.2 ->
  run P (C.sub off x) (Xrm
      (λr' st'=>∀a' w',Rel P (C.mk' x.2 D) ⟨st.t,upd st'.s kr (some (st.k+1,.raw (.loop {r' with state:=.exhausted}))),st.n,st'.k⟩ a' w'->sem P C R k none a' w')
      (λr' st'=>∀a' w',Rel P (C.mk' x.2 D) ⟨st.t,upd st'.s kr (some (st.k+1,.raw (.loop {r' with state:=.exhausted}))),st.n,st'.k⟩ a' w'->R a' w') kr (st.k+1)) m
   [.code (fn.body.get!)] (stI (.clo (.yield l) [] []::caps) (upd (upd st.s kd (some (st.k,.raw (.deferred (some []))))) kr (some (st.k+1,.raw (.loop r)))) nt (st.k+2))):
 (Code.rangeFunc g ps cA cB).wpIn (fz C.rd) 0 P (Vc R (sem P C R k)) a w:=by
 injection hk with hf hk;injection hk with hb hk;injection hk with hn hk;injection hk with hrs hk;injection hk with hnt hargs;have hargs:=Nat.le_of_ble_eq_true hargs;have⟨h1,h2,M,β,h0,h3,I⟩:=hr;have hgv:=Xcc I h3 g;rw[hg]at hgv;have⟨_,vb,hgv,rfl,hcaps⟩:=hgv;refine wpIn_rangeFunc ?_;intro fi _;rw[show(fz C.rd).round=none from hrd];have⟨r,hrec⟩:∃r:Loop,r={state:=.ready,pending:=none,fn:=fi,tmps:=a.tmps,params:=ps,assign:=cA,body:=cB,defers:=w.heap.size}:=⟨_,rfl⟩
 have⟨W1,hW1⟩:∃W1,(w.alloc (.deferred (some []))).alloc (.loop r)=W1:=⟨_,rfl⟩
 refine⟨w.heap.size+1,[{target:=.collected w.heap.size,args:=#[]}],W1,{target:=.fn (.func gf) ⟨vb⟩,args:=#[.func (.yield (w.heap.size+1)) #[] #[]]},W1,gf,
  #[.func (.yield (w.heap.size+1)) #[] #[]]++⟨vb⟩,W1,?_,?_,λ_ _=>trivial,?_,λe=>(by cases e),?_⟩
 .rw[←hW1,hrec];exact run_enterLoop_outer _ _ _ _ _
 .simp only[resolve,hgv];simp[go_sem,Deferred.ofValue,pure]
 .have hn':¬fn.name = "runtime.NumGoroutine":=by simpa using hn
  have hb':¬fn.body=none:=by intro h0;rw[h0]at hb;simp at hb
  simp[go_sem,invoke,callFunc,hf,hb',hn']
 refine Xcf (calls_of_wp hf hb ?_);have⟨I1,hB1⟩:=I.newRaw (ver:=st.k) (λh=>absurd h (U8 _)) kd (.deferred (some []));have⟨I2,hB2⟩:=I1.newRaw (ver:=st.k+1) (λh=>aa) kr (.loop r);rw[World.size_alloc]at I2 hB2;rw[hW1]at I2;have hB:=hB1.trans hB2;generalize hβ2:Zf (Zf β kd st.k (some (w.heap.size,0))) kr (st.k+1) (some (w.heap.size+1,0))=β2 at I2 hB2 hB;have hkr:β2 kr (st.k+1)=some (some (w.heap.size+1,0)):=by rw[←hβ2];exact XJ ..
 have hkd:β2 kd st.k=some (some (w.heap.size,0)):=hB2 _ _ _ (XJ ..);have I3:UP P (C.sub off (M,β2)) (upd (upd st.s kd (some (st.k,.raw (.deferred (some []))))) kr (some (st.k+1,.raw (.loop r)))) (·<st.k+2) M β2 W1:=
  ⟨I2.mem,λi v x e=>by rcases I2.used i v x e with(h|h)|h<;>omega,I2.obs,I2.own,I2.inj,I2.keep,I2.old,MLe.refl M,λg cs hg=>RepC.mono I.le (I.glob g cs hg)⟩
 have hvs:RepL P M β2 (.clo (.yield (w.heap.size+1)) [] []::caps) (.func (.yield (w.heap.size+1)) #[] #[]::vb):=by simp only[RepL,Rep];exact⟨_,_,rfl,⟨[],[],rfl,rfl,rfl⟩,hcaps.mono (MLe.refl M) hB⟩
 have e0:(#[.func (.yield (w.heap.size+1)) #[] #[]]++(⟨vb⟩:Array Value))=(⟨.func (.yield (w.heap.size+1)) #[] #[]::vb⟩:Array Value):=by simp
 rw[e0];have hrel:Rel P (C.sub off (M,β2)) (stI (.clo (.yield (w.heap.size+1)) [] []::caps) (upd (upd st.s kd (some (st.k,.raw (.deferred (some []))))) kr (some (st.k+1,.raw (.loop r)))) nt (st.k+2)) _ W1:=KM rfl (BLe.refl _) hvs hnt aa I3;have hrun:=Yp m _ hrel (h (w.heap.size+1) w.heap.size r (M,β2) (by grind) (by grind) (by grind) (by grind) (by grind) (by grind) hkr hkd (λy=>by rw[hrec];exact(h3 y).mono (MLe.refl M) hB) (h0.trans hB));refine wp_mono ((wpIn_wide (n:=0)).1 hrun) ?_
 have fin:∀a1 w1,ZR P (C.sub off (M,β2)) (Xrm
  (λr' st'=>∀a' w',Rel P (C.mk' β2 w.heap.size) ⟨st.t,upd st'.s kr (some (st.k+1,.raw (.loop {r' with state:=.exhausted}))),st.n,st'.k⟩ a' w'->sem P C R k none a' w')
  (λr' st'=>∀a' w',Rel P (C.mk' β2 w.heap.size) ⟨st.t,upd st'.s kr (some (st.k+1,.raw (.loop {r' with state:=.exhausted}))),st.n,st'.k⟩ a' w'->R a' w') kr (st.k+1)) a1 w1 ->
  a1.defers=[]/\∃v,(results fn a1.tmps).run P w1=.ok v w1/\rangePost (fz C.rd) 0 P (w.heap.size+1) (Vc R (sem P C R k)) {a with defers:=[{target:=.collected w.heap.size,args:=#[]}]++a.defers} (.returned v) w1:=by
  rintro a1 w1 ⟨st',⟨g1,g2,M',β',g0,g3,J⟩,r',hs',hst',hor⟩
  obtain⟨v,hv,_⟩:=JL J g3 hrs (ds:=[]) (c:=True) rfl trivial
  have hl:=g0 _ _ _ hkr
  refine⟨g1,v,hv,_,_,run_endLoop (J.raw hs' hl).2.2 hst',?_⟩
  have J2:=J.putRaw hs' hl (.loop {r' with state:=.exhausted})
  have hrel':Rel P (C.mk' β2 w.heap.size) ⟨st.t,upd st'.s kr (some (st.k+1,.raw (.loop {r' with state:=.exhausted}))),st.n,st'.k⟩ {a with defers:=[{target:=.collected w.heap.size,args:=#[]}]++a.defers} (w1.putObj (w.heap.size+1) (.loop {r' with state:=.exhausted})):=by
   refine⟨by grind,h2,M',β',g0,λx=>(h3 x).mono J.le (hB.trans g0),⟨J2.mem,J2.used,J2.obs,J2.own,J2.inj,J2.keep,J2.old,I.le.trans J2.le,I.glob⟩⟩
  generalize w1.putObj (w.heap.size+1) (.loop {r' with state:=.exhausted})=w4 at hrel'⊢
  rcases hor with⟨hp,hf⟩|⟨hp,hf⟩
  .rw[hp];exact hf _ _ hrel'
  .rw[hp];exact wpIn_ret (hf _ _ hrel')
 intro e a' w' hq;cases e with
 |normal=>exact fin a' w' hq
 |ret=>exact fin a' w' hq
 |exit id=>assumption
 |_=>exact hq.elim
def Xha(P:Program)(C:Cx)(Q:St->Prop):AW:=λa w=>∃D kd v b1,BLe C.b0 b1/\b1 kd v=some (some (D,0)) /\
 ZR P (C.mk' b1 D) (λst=>st.s kd=some (v,.raw (.deferred (some [])))/\Q ⟨st.t,upd st.s kd (some (v,.raw (.deferred none))),st.n,st.k⟩) a w
def Xcl{G:Nat->Option (List D)}{f:FuncId}{fn:Func}{body:Code}{rs:List ResultVar}{args:List D}{lent:List Ob}{R':D->List Ob->Prop}(fr:List Nat)(nt:Nat)(hf:P.funcs[f]? = some fn)(hb:fn.body=some body)(hn:(fn.name== "runtime.NumGoroutine")=false)(hrs:fn.results=⟨rs⟩)(hnt:fn.ntmps=nt)(hargs:args.length<=nt)(h:∀(C:Cx)x,C.G=G->C.lb.length=lent.length->WfL P args->∀a w,Rel P (C.sub 0 x) (st0 args lent nt) a w ->
  sem P (C.sub 0 x) (λa w=>ZR P (C.sub 0 x) (Jq P rs fr lent.length R') a w\/Xha P (C.sub 0 x) (Jq P rs fr lent.length R') a w) [.code body] none a w):YM P G f args lent R':=by
 refine⟨⟨fn,hf,by grind,hn⟩,λM w vs lb hM hG hlen hnd hob hvs=>?_⟩;refine callsIn_wide.1 (callsIn_of_wp_marks (F:=Fence.wide) (n:=0) hf hb trivial ?_);have I0:=XaU (G:=G) hM hG hlen hnd hob;have hrel:Rel P ⟨G,M,w,lb.map (·.1),Z3 lb,M,0,none,[]⟩ (st0 args lent nt) _ w:=KM rfl (BLe.refl _) hvs hnt hargs I0;have hrun:=h ⟨G,M,w,lb.map (·.1),Z3 lb,M,0,none,[]⟩ (M,Z3 lb) rfl (by simp_all) hvs.wf _ _ hrel;refine wpIn_mono hrun ?_;have fin:∀a w',(ZR P ⟨G,M,w,lb.map (·.1),Z3 lb,M,0,none,[]⟩ (Jq P rs fr lent.length R') a w'\/Xha P ⟨G,M,w,lb.map (·.1),Z3 lb,M,0,none,[]⟩ (Jq P rs fr lent.length R') a w') ->
  LeavesInM Fence.wide 0 P fn a.tmps (Xnf P M w lb R') a.defers .returning w':=by
  rintro a w' (hq|⟨D,kd,v,b1,hb1,hkd,hq⟩)
  .have hd:a.defers=[]:=by obtain⟨st,h1,_⟩:=hq;exact h1.1
   rw[hd]
   exact Xam rfl (BLe.refl _) hlen hrs a w' hq
  .have⟨st,⟨h1,h2,M',β',h0,h3,I⟩,hs,hret⟩:=hq
   rw[h1]
   have hD:=h0 _ _ _ hkd
   have hh:=(I.raw hs hD).2.2
   refine⟨ab,.inl ⟨D,_,rfl,run_takeDeferred hh,?_⟩⟩
   exact Xam (C:=Cx.mk' ⟨G,M,w,lb.map (·.1),Z3 lb,M,0,none,[]⟩ b1 D) rfl hb1 hlen hrs a _ ⟨⟨st.t,upd st.s kd (some (v,.raw (.deferred none))),st.n,st.k⟩,⟨h1,h2,M',β',h0,h3,I.putRaw hs hD _⟩,hret⟩
 intro e a w' hq;cases e with
 |normal=>exact fin a w' hq
 |ret=>exact fin a w' hq
 |exit id=>assumption
 |_=>exact hq.elim
variable {P:Program}{C:Cx}
def Xjn{R:AW}{id:Nat}{c:Code}{k:List It}{a:Act}{w:World}(h:sem P C R (.code c::.blk id::k) none a w):sem P C R (.code (.block id c)::k) none a w:=by
 refine wpIn_block (wpIn_mono h ?_);intro e a' w' hq;cases e with
 |exit i=>
  simp only[Exit.inBlock];have hq:sem P C R (.blk id::k) (some i) a' w':=hq;unfold sem at hq;split at hq<;>rename_i e
  .rw[Wq e];exact hq
  rw[Wn e];exact hq
 |_=>exact hq
def Xk8:List It->Bool
 |[]=>true
 |.stop _::_=>false
 |.ops _ _::_=>false
 |_::k=>Xk8 k
def KY{C':Cx}(hrd:C'.rd=C.rd){R R':AW}(hR:∀a w,R' a w->R a w):∀(k:List It),Xk8 k=true->∀e a w,sem P C' R' k e a w->sem P C R k e a w
 |[],_,none,a,w,h=>hR a w h
 |[],_,some _,a,w,h=>h.elim
 |.blk j::k,hk,none,a,w,h=>KY hrd hR k hk none a w h
 |.blk j::k,hk,some i,a,w,h=>by
  unfold sem at h⊢;split
  .rename_i e;rw[Wq e]at h;exact KY hrd hR k hk none a w h
  rename_i e;rw[Wn e]at h;exact KY hrd hR k hk (some i) a w h
 |.code c::k,hk,some i,a,w,h=>KY hrd hR k hk (some i) a w h
 |.code c::k,hk,none,a,w,h=>by
  have h:c.wpIn (fz C'.rd) 0 P (Vc R' (sem P C' R' k)) a w:=h;rw[hrd]at h;refine wpIn_mono h ?_;intro e a' w' hq;cases e with
  |normal=>exact KY hrd hR k hk none a' w' hq
  |exit i=>exact KY hrd hR k hk (some i) a' w' hq
  |ret=>exact hR a' w' hq
  |_=>exact hq
def Xpb:List It->Bool
 |[]=>true
 |.ops _ _::_=>false
 |_::k=>Xpb k
def Kh{R R':AW}(hR:∀a w,R' a w->R a w):∀(k:List It),Xpb k=true->∀e a w,sem P C R' k e a w->sem P C R k e a w
 |[],_,none,a,w,h=>hR a w h
 |[],_,some _,a,w,h=>h.elim
 |.stop _::k,_,none,a,w,h=>h
 |.stop _::k,hk,some i,a,w,h=>Kh hR k hk (some i) a w h
 |.blk j::k,hk,none,a,w,h=>Kh hR k hk none a w h
 |.blk j::k,hk,some i,a,w,h=>by
  unfold sem at h⊢;split
  .rename_i e;rw[Wq e]at h;exact Kh hR k hk none a w h
  rename_i e;rw[Wn e]at h;exact Kh hR k hk (some i) a w h
 |.code c::k,hk,some i,a,w,h=>Kh hR k hk (some i) a w h
 |.code c::k,hk,none,a,w,h=>by
  refine wpIn_mono h ?_;intro e a' w' hq;cases e with
  |normal=>exact Kh hR k hk none a' w' hq
  |exit i=>exact Kh hR k hk (some i) a' w' hq
  |ret=>exact hR a' w' hq
  |_=>exact hq
def Xap{R:AW}{kx ky:List It}(h:∀e a w,sem P C R kx e a w->sem P C R ky e a w):∀(k1:List Code)(e:Option Nat)(a:Act)(w:World),sem P C R (k1.map It.code++kx) e a w->sem P C R (k1.map It.code++ky) e a w
 |[],e,a,w,hq=>h e a w hq
 |c::k1,none,a,w,hq=>by
  refine wpIn_mono hq ?_;intro e a' w' hq;cases e with
  |normal=>exact Xap h k1 none a' w' hq
  |exit i=>exact Xap h k1 (some i) a' w' hq
  |_=>exact hq
 |_::k1,some i,a,w,hq=>Xap h k1 (some i) a w hq
def XnS{R:AW}{x y:Code}{k:List It}(e:Option Nat)(a:Act)(w:World)(h:sem P C R (.code x::.code y::k) e a w):sem P C R (.code (.seq x y)::k) e a w:=by
 cases e with
 |some i=>exact h
 |none=>refine wpIn_seq (wpIn_mono h ?_);intro e a' w' hq;cases e<;>exact hq
variable {P:Program}
def Xp5{C:Cx}{s:Heap}{id v T z:Nat}{cs ds:List D}{c:Prop}{l:List Nat}(hs:s id=some (v,.arr true T z [cs] 0))(hsn:Zx s cs=some (c,ds,l))(hc:c)(hl:ds.length=z):RoA P C s [.ept id v z 0 0] [.ipt z ds 0]:=by
 intro s' U M β w vs hle I hr;have hs':=hle _ _ hs;have hsn':=KW hle hsn;obtain⟨y,_,rfl,⟨b,cb,hb,rfl⟩,rfl⟩:=hr;have⟨M1,I1,hM,hF⟩:=I.freeze l;have⟨x,hx,hob⟩:=I.obs id v _ hs';obtain rfl:some (b,cb)=x:=by simp_all
 have⟨cs0,T0,k1,k2,k3,k4,k5,k6,k7,k8,k9,k10⟩:=hob;have hcz:cs.length=z:=k3 cs ab;have hsf:frz s' l id=some (v,.arr true T z [cs] 0):=by
  unfold frz;split
  .rw[hs'];rfl
  omega
 have⟨x1,hx1,hob1⟩:=I1.obs id v _ hsf;obtain rfl:some (b,cb)=x1:=by simp_all
 obtain⟨_,_,_,_,_,_,_,_,_,_,j9,_⟩:=hob1;have hget:∀i,i<z->∃d x,cs[i]? = some d/\cs0[i]? = some x/\Rep P M β d x:=λi hi=>by have hd:cs[i]? = some (cs[i]'aa):=Wc _;obtain⟨x,h1,h2⟩:=k10 i _ (by rw[List.flatten_cons,List.flatten_nil,U1];exact hd);exact⟨_,x,hd,h1,h2⟩
 have hsz:z<=cs0.size:=by
  rcases Ua z with h|h
  .omega
  grind
 have hL:RepL P M β cs (cs0.toList.take z):=by
  refine RepL.of (by simp_all) λi d x h1 h2=>?_;have hi:i<z:=by rw[←hcz];exact(Ii.1 h1).1
  obtain⟨d',x',g1,g2,g3⟩:=hget i hi;rw[h1]at g1;cases g1;rw[List.getElem?_take_of_lt hi,UO,g2]at h2;cases h2;exact g3
 have hL1:=Z9 I hM hsn' hc hF hL;let M2:Mem:=λb' o=>if b'=b/\o<z then cs0[o]? else M1 b' o
 have hM2:MLe M1 M2:=λb' o x h=>by grind
 refine⟨M2,hM.trans hM2,λb' o x h=>?_,?_⟩
 .have h:(if b'=b/\o<z then cs0[o]? else M1 b' o)=some x:=h;split at h
  .rename_i e;rw[e.1,cell_of_row w b o cs0 T0 (0,0) k1];grind
  exact I1.mem b' o x h
 refine⟨_,_,rfl,⟨hl,b,0,ab,RepC.of λi d hd=>?_⟩,rfl⟩;have⟨x,h1,h2⟩:=hL1.get i d hd;have hi:i<z:=by rw[←hl];exact(Ii.1 hd).1
 exact⟨x,by grind,h2.mono hM2 (BLe.refl _)⟩
variable {P:Program}{C:Cx}{st:St}{a:Act}{w:World}
def Xrn{c:Code}{Q:St->Prop}{K:Exit->AW}(hrd:C.rd=none)(hr:Rel P C st a w)(m:Nat)(h:run P C (λ_=>False) m [.code c,.stop Q] st)(k:∀st a w,Rel P C st a w->Q st->K .normal a w):c.wpIn Fence.wide 0 P K a w:=by
 have h2:c.wpIn (fz C.rd) 0 P (Vc (ZR P C λ_=>False) (sem P C (ZR P C λ_=>False) [.stop Q])) a w:=Yp m _ hr h;rw[hrd]at h2;refine wpIn_mono h2 ?_;intro e a' w' hq;cases e with
 |normal=>have⟨st',hr',hq'⟩:=hq;grind
 |ret=>have⟨_,_,hf⟩:=hq;simp_all
 |_=>exact hq.elim
def Xro{c:Code}{Q:St->Prop}{K:Exit->AW}(hrd:C.rd=none)(hr:Rel P C st a w)(m:Nat)(h:run P C Q m [.code c] st)(k:∀a w,ZR P C Q a w->K .normal a w/\K .ret a w):c.wpIn Fence.wide 0 P K a w:=by
 have h2:c.wpIn (fz C.rd) 0 P (Vc (ZR P C Q) (sem P C (ZR P C Q) [])) a w:=Yp m _ hr h;rw[hrd]at h2;refine wpIn_mono h2 ?_;intro e a' w' hq;cases e with
 |normal=>exact(k _ _ hq).1
 |ret=>exact(k _ _ hq).2
 |_=>exact hq.elim
@[reducible] def Cx.dfr(C:Cx)(M:Mem)(β:Loc)(l:List Deferred):Cx:=⟨C.G,C.M0,C.w0,C.lb,β,M,C.off,none,l⟩
def UP.dfr{s:Heap}{U:Nat->Prop}{M:Mem}{β:Loc}(l:List Deferred)(I:UP P C s U M β w):UP P (C.dfr M β l) s U M β w:=
 ⟨I.mem,I.used,I.obs,I.own,I.inj,I.keep,I.old,MLe.refl _,λg cs hg=>RepC.mono I.le (I.glob g cs hg)⟩
def Xk9{o:Oper}{c:Call}{x:Operand}{g:Nat}{caps:List D}(hop:o.op=.defer c)(hc:c.callee=.value x)(ha:c.args=#[])(hd:o.dst=none)(hx:ev st.t C.G x=.clo (.func g) [] caps)(hrd:C.rd=none)(hdf:C.df=[])(hr:Rel P C st a w){K:AW}{Q:Exit->AW}(k:∀vb M β,RepL P M β caps vb->BLe C.b0 β->∀a,Rel P (C.dfr M β [⟨.fn (.func g) ⟨vb⟩,#[]⟩]) st a w->K a w):o.wpIn Fence.wide 0 P a w K Q:=by
 have⟨h1,h2,M,β,h0,h3,I⟩:=hr;have hx':=Xcc I h3 x;rw[hx]at hx';obtain⟨va,vb,e,rfl,hb⟩:=hx';refine⟨λ_ _=>trivial,?_⟩;rw[show Fence.wide.round=none from rfl,Oper.semAt_none];have he:(execOp a.eval o).run P w=.ok (.defer ⟨.fn (.func g) ⟨vb⟩,#[]⟩) w:=by have h:=Xbn (P:=P) (g:=g) (va:=[]) (vb:=vb) (vs:=[]) (w:=w);unfold execOp;simp only[hop,resolve,hc,ha,e];simp only[Array.map_empty]at h⊢;simp[go_sem,h]
 rw[he,Oper.uponIn_defer,hd];exact k vb M β hb h0 _ ⟨by show _::a.defers=_;simp_all,h2,M,β,BLe.refl _,h3,I.dfr _⟩
def Xhb{fn gn:Func}{g:FuncId}{tmps:Array Value}{R:Ending->World->Prop}{vb:List Value}{u:FrameMode}(hu:u≠.run)(hg:P.funcs[g]? = some gn)(hb:gn.body.isNone=false)(hn:(gn.name== "runtime.NumGoroutine")=false)(h:CallsDIn Fence.wide 0 P g ⟨vb⟩ u w λe u' w'=>(∃v,e=.returned v)/\settle u'=.returning/\∃v,(results fn tmps).run P w'=.ok v w'/\R (.returned v) w'):
 LeavesIn Fence.wide 0 P fn tmps R [⟨.fn (.func g) ⟨vb⟩,#[]⟩] u w:=by
 have hn':¬gn.name = "runtime.NumGoroutine":=by simpa using hn
 have hb':¬gn.body=none:=by intro h0;rw[h0]at hb;simp at hb
 refine⟨hu,λe=>(by cases e),.func g,⟨vb⟩,g,⟨vb⟩,rfl,by simp[go_sem,invoke,callFunc,hg,hb',hn'],λ_ _=>trivial,h.mono ?_⟩;rintro e u' w' ⟨⟨v,rfl⟩,h2,h3⟩;show LeavesIn Fence.wide 0 P fn tmps R [] (settle u') w';rw[h2];exact h3
def Xdv{G:Nat->Option (List D)}{f:FuncId}{fn:Func}{body:Code}{rs:List ResultVar}{args:List D}{lent:List Ob}{R':D->List Ob->Prop}(fr:List Nat)(nt:Nat)(hf:P.funcs[f]? = some fn)(hb:fn.body=some body)(hn:(fn.name== "runtime.NumGoroutine")=false)(hrs:fn.results=⟨rs⟩)(hnt:fn.ntmps=nt)(hargs:args.length<=nt)(h:∀(C:Cx)x(R:Ending->World->Prop),C.G=G->C.lb.length=lent.length->WfL P args ->
  (∀C':Cx,C'.lb=C.lb->C'.M0=C.M0->C'.w0=C.w0->BLe x.2 C'.b0->∀a w',ZR P C' (Jq P rs fr lent.length R') a w'->∃v,(results fn a.tmps).run P w'=.ok v w'/\R (.returned v) w') ->
  ∀a w,Rel P (C.sub 0 x) (st0 args lent nt) a w->body.wpIn Fence.wide 0 P (bodyPostDIn Fence.wide 0 P fn R) a w):YM P G f args lent R':=by refine⟨⟨fn,hf,by simp[hb],hn⟩,λM w vs lb hM hG hlen hnd hob hvs=>?_⟩;refine callsIn_wide.1 (callsIn_of_wp_defers (F:=Fence.wide) (n:=0) hf hb trivial ?_);have I0:=XaU (G:=G) hM hG hlen hnd hob;have hrel:Rel P ⟨G,M,w,lb.map (·.1),Z3 lb,M,0,none,[]⟩ (st0 args lent nt) _ w:=KM rfl (BLe.refl _) hvs hnt hargs I0;refine h ⟨G,M,w,lb.map (·.1),Z3 lb,M,0,none,[]⟩ (M,Z3 lb) _ rfl (by rw[←hlen];exact W4 ..) hvs.wf (λC' e1 e2 e3 e4 a w' hq=>?_) _ _ hrel;have:=Xam (C:=C') (rs:=rs) (fr:=fr) e1 e4 hlen hrs a w' hq;simp_all
variable {P:Program}{C:Cx}{st:St}{a:Act}{w:World}
def Xrp:List Code->Code->Code
 |[],c=>c
 |x::l,c=>.seq x (Xrp l c)
def VU{R:AW}{Q:St->Prop}{i:Nat}:∀(l:List Code){a:Act}{w:World},sem P C R (l.map It.code++[.stop Q]) (some i) a w->False
 |[],_,_,h=>h
 |_::l,_,_,h=>VU l h
def Xhc{Q:St->Prop}{K:Exit->AW}(hrd:C.rd=none){c:Code}(k:∀st a w,Rel P C st a w->Q st->c.wpIn Fence.wide 0 P K a w):∀(l:List Code)(a:Act)(w:World),
 sem P C (ZR P C λ_=>False) (l.map It.code++[.stop Q]) none a w->(Xrp l c).wpIn Fence.wide 0 P K a w
 |[],a,w,h=>by have⟨st,hr,hq⟩:=h;exact k st a w hr hq
 |x::l,a,w,h=>by
  have h2:x.wpIn (fz C.rd) 0 P (Vc (ZR P C λ_=>False) (sem P C (ZR P C λ_=>False) (l.map It.code++[.stop Q]))) a w:=h;rw[hrd]at h2;refine wpIn_seq (wpIn_mono h2 ?_);intro e a' w' hq;cases e with
  |normal=>exact Xhc hrd k l a' w' hq
  |ret=>have⟨_,_,hf⟩:=hq;simp_all
  |exit i=>exfalso;exact VU l hq
  |_=>exact hq.elim
end Go.Sx
